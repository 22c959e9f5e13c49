import PyProof.Rows.All
import Wide.All
import OpenK.AllK
import Wide.FinOn
import HandS.ForMost
import HandS.Wide
import HandS.Zip
import HandS.TupAny
import KE.KeyNested
import HandS.Rev
import HandS.Deep
import HandS.Style
import HandS.IsInst
import HandS.More
import KE.SortData
import KE.KDictWalk
import KE.KDictSum
import KE.GoesEnum
import KE.KDictPairs
import HandS.TupSets
import PyProof.DictValues
import HandS.SetKeys
import HandS.Strs
import HandS.SetFor
import HandS.TupLen
import HandS.ListItems
import KE.KItemsList
import PySem.Challenge.RW_samehall_k21_whole_matches
set_option Elab.async false
set_option linter.all false
set_option maxRecDepth 100000
set_option maxHeartbeats 400000
/-! SHa: a state of data over the hand layer: data by value (frozen), objects that are owned, expressions as what they come to. -/
namespace SH
open PySem PySem.Spec PyProof.Rows L2

def plainE : Expr → Bool
  | .Starred _ _ => false
  | _ => true
theorem star_plain {e : Expr} {es : List Expr} {env : Env} (h : plainE e = true) : starEach (e :: es) env = (false, eval e env) :: starEach es env := by
  cases e <;> first | rfl | cases h
theorem back_plain : ∀ {es : List Expr} {env : Env} {pos : Pos}, es.all plainE = true → (backTo pos (starEach es env)).any (·.1) = false
  | [], _, _, _ => rfl
  | e :: es, env, pos, h => by
    rw [List.all_cons, Bool.and_eq_true] at h
    rw [star_plain h.1]
    show (false || (backTo pos (starEach es env)).any (·.1)) = false
    rw [back_plain h.2]; rfl
/-- what an owned object holds, flat -/
inductive OV where
  | dat (d : PyData)
  | lst (p : Addr) (ds : List PyData)
  | dK (p : Addr) (kvs : List (Key × PyData))
  | dN (p : Addr) (kvs : List (NestedKey × PyData))
  | dL (p : Addr) (kvs : List (NestedKey × Addr × List PyData))
  | ins (p dx C : Addr) (fs : List (Str × OV))
  | raw (p : Addr)
  | ptp (p : Addr) (ds : List PyData)

abbrev ASt := List (Option OV)

/-! ### data in frozen heaps -/
mutual
inductive Da (F : Hp) : V → PyData → Prop
  | non : Da F .non .none
  | bl (b : Bool) : Da F (.bl b) (.bool b)
  | int (i : Int) : Da F (.int i) (.int i)
  | str (x : Str) : Da F (.str x) (.str x)
  | lst {a : Addr} {xs : List V} {ds : List PyData} : Rd F a (.lst xs) → Das F xs ds → Da F (.ref a) (.list ds)
  | tup {a : Addr} {xs : List V} {ds : List PyData} : Rd F a (.tup xs) → Das F xs ds → Da F (.ref a) (.tuple ds)
inductive Das (F : Hp) : List V → List PyData → Prop
  | nil : Das F [] []
  | cons {v : V} {vs : List V} {d : PyData} {ds : List PyData} : Da F v d → Das F vs ds → Das F (v :: vs) (d :: ds)
end
theorem Rd.same {F F' : Hp} {a : Addr} {u : HO} (s : Same F F') (h : Rd F a u) : Rd F' a u := by
  rcases h with q | ⟨o, q⟩
  · exact .inl (s _ _ q)
  · exact .inr ⟨o, s _ _ q⟩
mutual
theorem Da.dp {K : PySem.W.Frag} {F : Hp} : ∀ (d : PyData) (v : V), Da F v d → Dp K F v d
  | .none, _, h => by cases h; exact .non
  | .bool _, _, h => by cases h; exact .bl _
  | .int _, _, h => by cases h; exact .int _
  | .str _, _, h => by cases h; exact .str _
  | .list ds, _, h => by
    cases h with
    | lst q r => exact .lst (.inl q) (Das.dp ds _ r)
  | .tuple ds, _, h => by
    cases h with
    | tup q r => exact .tup (.inl q) (Das.dp ds _ r)
  | .dict _, _, h => by cases h
theorem Das.dp {K : PySem.W.Frag} {F : Hp} : ∀ (ds : List PyData) (vs : List V), Das F vs ds → DpAll K F vs ds
  | [], _, h => by cases h; exact .nil
  | d :: ds, _, h => by
    cases h with
    | cons q r => exact .cons (Da.dp d _ q) (Das.dp ds _ r)
end
mutual
theorem Da.mono {F F' : Hp} (s : Same F F') : ∀ (d : PyData) (v : V), Da F v d → Da F' v d
  | .none, _, h => by cases h; exact .non
  | .bool _, _, h => by cases h; exact .bl _
  | .int _, _, h => by cases h; exact .int _
  | .str _, _, h => by cases h; exact .str _
  | .list ds, _, h => by
    cases h with
    | lst q r => exact .lst (Rd.same s q) (Das.mono s ds _ r)
  | .tuple ds, _, h => by
    cases h with
    | tup q r => exact .tup (Rd.same s q) (Das.mono s ds _ r)
  | .dict _, _, h => by cases h
theorem Das.mono {F F' : Hp} (s : Same F F') : ∀ (ds : List PyData) (vs : List V), Das F vs ds → Das F' vs ds
  | [], _, h => by cases h; exact .nil
  | d :: ds, _, h => by
    cases h with
    | cons q r => exact .cons (Da.mono s d _ q) (Das.mono s ds _ r)
end
theorem Das.length {F : Hp} : ∀ {vs : List V} {ds : List PyData}, Das F vs ds → vs.length = ds.length
  | _, _, .nil => rfl
  | _, _, .cons _ r => congrArg (· + 1) (Das.length r)
theorem Das.get {F : Hp} : ∀ {vs : List V} {ds : List PyData} {i : Nat} {d : PyData}, Das F vs ds → ds[i]? = some d → ∃ v, vs[i]? = some v ∧ Da F v d
  | _, _, _, _, .nil, e => by simp at e
  | _, _, 0, _, .cons q _, e => by simp at e; subst e; exact ⟨_, rfl, q⟩
  | _, _, i + 1, _, .cons _ r, e => by
    obtain ⟨v, h1, h2⟩ := Das.get (i := i) r (by simpa using e)
    exact ⟨v, by simpa using h1, h2⟩
theorem Das.get' {F : Hp} : ∀ {vs : List V} {ds : List PyData} {i : Nat} {v : V}, Das F vs ds → vs[i]? = some v → ∃ d, ds[i]? = some d ∧ Da F v d
  | _, _, _, _, .nil, e => by simp at e
  | _, _, 0, _, .cons q _, e => by simp at e; subst e; exact ⟨_, rfl, q⟩
  | _, _, i + 1, _, .cons _ r, e => by
    obtain ⟨v, h1, h2⟩ := Das.get' (i := i) r (by simpa using e)
    exact ⟨v, by simpa using h1, h2⟩
theorem Das.append {F : Hp} : ∀ {vs ws : List V} {ds es : List PyData}, Das F vs ds → Das F ws es → Das F (vs ++ ws) (ds ++ es)
  | _, _, _, _, .nil, q => q
  | _, _, _, _, .cons r t, q => .cons r (Das.append t q)
theorem Das.take {F : Hp} : ∀ {vs : List V} {ds : List PyData} (n : Nat), Das F vs ds → Das F (vs.take n) (ds.take n)
  | _, _, 0, _ => .nil
  | _, _, _ + 1, .nil => .nil
  | _, _, n + 1, .cons r t => .cons r (Das.take n t)
theorem Das.drop {F : Hp} : ∀ {vs : List V} {ds : List PyData} (n : Nat), Das F vs ds → Das F (vs.drop n) (ds.drop n)
  | _, _, 0, q => q
  | _, _, _ + 1, .nil => .nil
  | _, _, n + 1, .cons _ t => Das.drop n t
theorem Das.set {F : Hp} {v : V} {d : PyData} (q : Da F v d) : ∀ {vs : List V} {ds : List PyData} (i : Nat), Das F vs ds → Das F (vs.set i v) (ds.set i d)
  | _, _, _, .nil => .nil
  | _, _, 0, .cons _ t => .cons q t
  | _, _, i + 1, .cons r t => .cons r (Das.set q i t)
theorem Das.reverse {F : Hp} {vs : List V} {ds : List PyData} (h : Das F vs ds) : Das F vs.reverse ds.reverse := by
  have go : ∀ {vs : List V} {ds : List PyData}, Das F vs ds → ∀ {ws : List V} {es : List PyData}, Das F ws es → Das F (vs.reverse ++ ws) (ds.reverse ++ es) := by
    intro vs ds h
    induction vs generalizing ds with
    | nil => intro ws es q; cases h; exact q
    | cons v vs ih =>
      intro ws es q
      cases h with
      | cons r t =>
        rw [List.reverse_cons, List.reverse_cons, List.append_assoc, List.append_assoc]
        exact ih t (.cons r q)
  have := go h (ws := []) (es := []) .nil
  simpa using this

/-! ### dicts whose keys are nested tuples -/
/-- at p stands a dict with just these entries -/
def tabOf (p : Addr) (L : List DictEntry) : Heap → Prop := fun h => ∃ o es ep, h.get? p = some o ∧ o.ExactDict ∧ o.data = .dict es ep ∧ es.toList = L
abbrev Ent := NestedKey × Addr × Value
/-- the entries by address, their keys and values as data -/
def EntOk (F : Hp) (kv : NestedKey × PyData) (x : Ent) : Prop :=
  kv.1 = x.1 ∧ x.1.depth ≤ 8 ∧ Da F (.ref x.2.1) x.1.data ∧ ∃ v, RelV v x.2.2 ∧ Da F v kv.2
def EntLOk (F H : Hp) (kv : NestedKey × Addr × List PyData) (x : Ent) : Prop :=
  kv.1 = x.1 ∧ x.1.depth ≤ 8 ∧ Da F (.ref x.2.1) x.1.data ∧ x.2.2 = Value.ref kv.2.1 ∧ ∃ vs, H kv.2.1 = some (.lst vs) ∧ Das F vs kv.2.2
structure TabAt (P : Program) (w : World) (H : Hp) (p : Addr) (xs : List Ent) : Prop where
  at_ : H p = some (.ext (tabOf p (xs.map (entryOfKey (nestedKind P w)))))
  sys : (p == sysModules) = false
  few : xs.length ≤ sizeLine
  nd : (xs.map (·.1)).Nodup

mutual
inductive Own (P : Program) (w : World) (F H : Hp) : V → OV → Prop
  | dat {v : V} {d : PyData} : Da F v d → Own P w F H v (.dat d)
  | lst {p : Addr} {vs : List V} {ds : List PyData} : H p = some (.lst vs) → Das F vs ds → Own P w F H (.ref p) (.lst p ds)
  | dK {p : Addr} {ws : List (Key × V)} {kvs : List (Key × PyData)} : H p = some (.dK ws) → Paired (fun a b => a.1 = b.1 ∧ Da F b.2 a.2) kvs ws → Own P w F H (.ref p) (.dK p kvs)
  | dN {p : Addr} {xs : List Ent} {kvs : List (NestedKey × PyData)} : TabAt P w H p xs → Paired (EntOk F) kvs xs → Own P w F H (.ref p) (.dN p kvs)
  | dL {p : Addr} {xs : List Ent} {kvs : List (NestedKey × Addr × List PyData)} : TabAt P w H p xs → Paired (EntLOk F H) kvs xs → Own P w F H (.ref p) (.dL p kvs)
  | ins {p dx C : Addr} {ws : List (Str × V)} {fs : List (Str × OV)} : H p = some (.ins C dx ws) → H dx = some (.own p) → OwnF P w F H ws fs → Own P w F H (.ref p) (.ins p dx C fs)
  /-- a thing of which its address alone is known -/
  | raw {p : Addr} : Own P w F H (.ref p) (.raw p)
  /-- a tuple that has no dict -/
  | ptp {p : Addr} {o : Obj} {vs : List V} {ds : List PyData} : H p = some (.frz o (.tup vs)) → o.dict = none → Das F vs ds → Own P w F H (.ref p) (.ptp p ds)
inductive OwnF (P : Program) (w : World) (F H : Hp) : List (Str × V) → List (Str × OV) → Prop
  | nil : OwnF P w F H [] []
  | cons {f : Str} {v : V} {ov : OV} {ws : List (Str × V)} {fs : List (Str × OV)} : Own P w F H v ov → OwnF P w F H ws fs → OwnF P w F H ((f, v) :: ws) ((f, ov) :: fs)
end
mutual
/-- the addresses that belong to it -/
def foot : OV → List Addr
  | .dat _ => []
  | .lst p _ => [p]
  | .dK p _ => [p]
  | .dN p _ => [p]
  | .dL p kvs => p :: kvs.map (·.2.1)
  | .ins p dx _ fs => p :: dx :: footF fs
  | .raw _ => []
  | .ptp p _ => [p]
def footF : List (Str × OV) → List Addr
  | [] => []
  | (_, ov) :: r => foot ov ++ footF r
end

section
variable {P : Program} {w : World} {F F' H H' : Hp}
theorem EntOk.mono (s : Same F F') {kv : NestedKey × PyData} {x : Ent} (h : EntOk F kv x) : EntOk F' kv x := by
  obtain ⟨a, b, c, v, d, e⟩ := h
  exact ⟨a, b, Da.mono s _ _ c, v, d, Da.mono s _ _ e⟩
theorem TabAt.keep {p : Addr} {xs : List Ent} (h : TabAt P w H p xs) (k : ∀ o, H p = some o → H' p = some o) : TabAt P w H' p xs := ⟨k _ h.at_, h.sys, h.few, h.nd⟩
theorem pairedEntL (s : Same F F') : ∀ {kvs : List (NestedKey × Addr × List PyData)} {xs : List Ent}, Paired (EntLOk F H) kvs xs → (∀ b ∈ kvs.map (·.2.1), ∀ o, H b = some o → H' b = some o) → Paired (EntLOk F' H') kvs xs
  | _, _, .nil, _ => .nil
  | _, _, .cons q r, k => by
    obtain ⟨a, b, c, d, vs, e, g⟩ := q
    exact .cons ⟨a, b, Da.mono s _ _ c, d, vs, k _ (List.mem_cons_self ..) _ e, Das.mono s _ _ g⟩ (pairedEntL s r fun b hb => k b (List.mem_cons_of_mem _ hb))
mutual
theorem Own.keep (s : Same F F') : ∀ {v : V} {ov : OV}, Own P w F H v ov → (∀ b ∈ foot ov, ∀ o, H b = some o → H' b = some o) → Own P w F' H' v ov
  | _, _, .dat q, _ => .dat (Da.mono s _ _ q)
  | _, _, .lst q r, k => .lst (k _ (by simp [foot]) _ q) (Das.mono s _ _ r)
  | _, _, .dK q r, k => .dK (k _ (by simp [foot]) _ q) (Paired.mapP r fun _ _ z => ⟨z.1, Da.mono s _ _ z.2⟩)
  | _, _, .dN q r, k => .dN (q.keep (k _ (by simp [foot]))) (Paired.mapP r fun _ _ z => EntOk.mono s z)
  | _, _, .dL q r, k => .dL (q.keep (k _ (by simp [foot]))) (pairedEntL s r fun b hb => k b (by simp only [foot]; exact List.mem_cons_of_mem _ hb))
  | _, _, .raw, _ => .raw
  | _, _, .ptp q e r, k => .ptp (k _ (by simp [foot]) _ q) e (Das.mono s _ _ r)
  | _, _, .ins q q2 r, k => .ins (k _ (by simp [foot]) _ q) (k _ (by simp [foot]) _ q2) (OwnF.keep s r fun b hb => k b (by simp only [foot]; exact List.mem_cons_of_mem _ (List.mem_cons_of_mem _ hb)))
theorem OwnF.keep (s : Same F F') : ∀ {ws : List (Str × V)} {fs : List (Str × OV)}, OwnF P w F H ws fs → (∀ b ∈ footF fs, ∀ o, H b = some o → H' b = some o) → OwnF P w F' H' ws fs
  | _, _, .nil, _ => .nil
  | _, _, .cons q r, k => .cons (Own.keep s q fun b hb => k b (by simp only [footF]; exact List.mem_append_left _ hb)) (OwnF.keep s r fun b hb => k b (by simp only [footF]; exact List.mem_append_right _ hb))
end
mutual
/-- what is owned is tracked -/
theorem Own.tracked : ∀ {v : V} {ov : OV}, Own P w F H v ov → ∀ b ∈ foot ov, ∃ o, H b = some o
  | _, _, .dat _, b, hb => by simp [foot] at hb
  | _, _, .lst q _, b, hb => by simp [foot] at hb; subst hb; exact ⟨_, q⟩
  | _, _, .dK q _, b, hb => by simp [foot] at hb; subst hb; exact ⟨_, q⟩
  | _, _, .dN q _, b, hb => by simp [foot] at hb; subst hb; exact ⟨_, q.at_⟩
  | _, _, .raw, b, hb => by simp [foot] at hb
  | _, _, .ptp q _ _, b, hb => by simp [foot] at hb; subst hb; exact ⟨_, q⟩
  | _, _, .dL q r, b, hb => by
    simp only [foot, List.mem_cons] at hb
    rcases hb with rfl | hb
    · exact ⟨_, q.at_⟩
    · have all : ∀ {kvs : List (NestedKey × Addr × List PyData)} {xs : List Ent}, Paired (EntLOk F H) kvs xs → ∀ b ∈ kvs.map (·.2.1), ∃ o, H b = some o := by
        intro kvs xs z
        induction z with
        | nil => intro b hb; simp at hb
        | cons q _ ih =>
          intro b hb
          rw [List.map_cons, List.mem_cons] at hb
          rcases hb with rfl | hb
          · obtain ⟨_, _, _, _, vs, e, _⟩ := q
            exact ⟨_, e⟩
          · exact ih b hb
      exact all r b hb
  | _, _, .ins q q2 r, b, hb => by
    simp only [foot, List.mem_cons] at hb
    rcases hb with rfl | rfl | hb
    · exact ⟨_, q⟩
    · exact ⟨_, q2⟩
    · exact OwnF.tracked r b hb
theorem OwnF.tracked : ∀ {ws : List (Str × V)} {fs : List (Str × OV)}, OwnF P w F H ws fs → ∀ b ∈ footF fs, ∃ o, H b = some o
  | _, _, .nil, b, hb => by simp [footF] at hb
  | _, _, .cons q r, b, hb => by
    simp only [footF, List.mem_append] at hb
    rcases hb with hb | hb
    · exact Own.tracked q b hb
    · exact OwnF.tracked r b hb
end
end

/-! ### the state -/
/-- the feet of slot i -/
def footAt (S : ASt) (i : Nat) : List Addr := match S[i]? with
  | some (some ov) => foot ov
  | _ => []
def inFeet (S : ASt) (b : Addr) : Prop := ∃ i, b ∈ footAt S i
structure StOk (P : Program) (w : World) (F H : Hp) (σ : L2.St) (S : ASt) : Prop where
  same : Same F H
  len : σ.length = S.length
  slot : ∀ (i : Nat) (ov : OV), S[i]? = some (some ov) → ∃ v, σ[i]? = some (some v) ∧ Own P w F H v ov
  nd : ∀ i : Nat, (footAt S i).Nodup
  apart : ∀ (i j : Nat) (b : Addr), i ≠ j → b ∈ footAt S i → b ∉ footAt S j
  free : ∀ b, inFeet S b → F b = none
/-- what happens between two states: the frozen grows by new addresses alone; all else but B's is kept -/
structure Aft (F H : Hp) (B : Addr → Prop) (F' H' : Hp) : Prop where
  ff : Same F F'
  nf : ∀ a o, H a = some o → ¬ B a → F' a = F a
  kp : ∀ a o, H a = some o → ¬ B a → H' a = some o
  tr : ∀ a o, H a = some o → ∃ o', H' a = some o'
section
variable {P : Program} {w : World} {F F1 F2 H H1 H2 : Hp} {B B1 : Addr → Prop}
theorem Aft.refl : Aft F H B F H := ⟨Same.refl _, fun _ _ _ _ => rfl, fun _ _ h _ => h, fun _ o h => ⟨o, h⟩⟩
theorem Aft.trans (a : Aft F H B F1 H1) (g : ∀ b, B1 b → B b ∨ H b = none) (c : Aft F1 H1 B1 F2 H2) : Aft F H B F2 H2 where
  ff := a.ff.trans c.ff
  nf := fun x o e n => by
    rw [c.nf x o (a.kp x o e n) (fun z => by
      rcases g x z with q | q
      · exact n q
      · rw [e] at q; cases q), a.nf x o e n]
  kp := fun x o e n => c.kp x o (a.kp x o e n) fun z => by
    rcases g x z with q | q
    · exact n q
    · rw [e] at q; cases q
  tr := fun x o e => by
    obtain ⟨o', e'⟩ := a.tr x o e
    exact c.tr x o' e'
theorem Aft.mono (a : Aft F H B F1 H1) (h : ∀ b, B b → B1 b) : Aft F H B1 F1 H1 := ⟨a.ff, fun x o e n => a.nf x o e fun z => n (h x z), fun x o e n => a.kp x o e fun z => n (h x z), a.tr⟩
/-- new feet: an old foot, or new -/
def Grown (B : Addr → Prop) (H : Hp) (B' : Addr → Prop) : Prop := ∀ b, B' b → B b ∨ H b = none
theorem Grown.refl : Grown B H B := fun _ h => .inl h
theorem Grown.trans {B2 : Addr → Prop} (g : Grown B H B1) (a : Aft F H B F1 H1) (g2 : Grown B1 H1 B2) : Grown B H B2 := fun b h => by
  rcases g2 b h with q | q
  · exact g b q
  · right
    cases e : H b with
    | none => rfl
    | some o =>
      obtain ⟨o', e'⟩ := a.tr b o e
      rw [q] at e'; cases e'
end

/-! ### judgements -/
section
variable (X : Cx)
abbrev XOk (F H : Hp) (σ : L2.St) (S : ASt) : Prop := StOk X.prog X.w F H σ S
abbrev XOwn (F H : Hp) (v : V) (ov : OV) : Prop := Own X.prog X.w F H v ov
structure WPe (e : Expr) (σ : L2.St) (H : Hp) (Q : VK) : Prop where
  run : ∀ pins s, Inv X pins σ H s → wpAny (model X.prog X.w) X.A (eval e X.env) (EP X pins σ Q) X.xe s
structure WPt (e : Expr) (σ : L2.St) (H : Hp) (Q : Bool → Hp → Prop) : Prop where
  run : ∀ pins s, Inv X pins σ H s → wpAny (model X.prog X.w) X.A (isTrue e X.env (eval e X.env)) (TP X pins σ Q) X.xe s
structure WPa (es : List Expr) (σ : L2.St) (H : Hp) (Q : List V → Hp → Prop) : Prop where
  run : ∀ (pos : Pos) pins s, Inv X pins σ H s → wpAny (model X.prog X.w) X.A (spliced (backTo pos (starEach es X.env))) (AP X pins σ Q) X.xe s
structure WPs (st : List Stmt) (D : Ends) (σ : L2.St) (H : Hp) : Prop where
  run : ∀ pins s, Inv X pins σ H s → wpAny (model X.prog X.w) X.A (execs st X.env) (SP X pins D) X.xe s
structure WP1 (st : Stmt) (D : Ends) (σ : L2.St) (H : Hp) : Prop where
  run : ∀ pins s, Inv X pins σ H s → wpAny (model X.prog X.w) X.A (exec st X.env) (SP X pins D) X.xe s
theorem peW (e : Expr) : PE X e (fun σ H Q => WPe X e σ H Q) := ⟨fun pins s _ _ _ I h => h.run pins s I⟩
theorem ptW (e : Expr) : PT X e (fun σ H Q => WPt X e σ H Q) := ⟨fun pins s _ _ _ I h => h.run pins s I⟩
theorem paW (es : List Expr) : PA X es (fun σ H Q => WPa X es σ H Q) := ⟨fun pos pins s _ _ _ I h => h.run pos pins s I⟩
theorem pssW (st : List Stmt) : PSs X st (fun D σ H => WPs X st D σ H) := ⟨fun pins s _ _ _ I h => h.run pins s I⟩
theorem psW (st : Stmt) : PS X st (fun D σ H => WP1 X st D σ H) := ⟨fun pins s _ _ _ I h => h.run pins s I⟩
end
section
variable {X : Cx}
theorem _root_.L2.PE.wp {e : Expr} {t : TE} (h : PE X e t) {σ : L2.St} {H : Hp} {Q : VK} (q : t σ H Q) : WPe X e σ H Q := ⟨fun pins s I => h.run pins s σ H Q I q⟩
theorem _root_.L2.PT.wp {e : Expr} {t : TT} (h : PT X e t) {σ : L2.St} {H : Hp} {Q : Bool → Hp → Prop} (q : t σ H Q) : WPt X e σ H Q := ⟨fun pins s I => h.run pins s σ H Q I q⟩
theorem _root_.L2.PA.wp {es : List Expr} {t : TA} (h : PA X es t) {σ : L2.St} {H : Hp} {Q : List V → Hp → Prop} (q : t σ H Q) : WPa X es σ H Q := ⟨fun pos pins s I => h.run pos pins s σ H Q I q⟩
theorem _root_.L2.PSs.wp {st : List Stmt} {t : TS} (h : PSs X st t) {σ : L2.St} {H : Hp} {D : Ends} (q : t D σ H) : WPs X st D σ H := ⟨fun pins s I => h.run pins s σ H D I q⟩
theorem _root_.L2.PS.wp {st : Stmt} {t : TS} (h : PS X st t) {σ : L2.St} {H : Hp} {D : Ends} (q : t D σ H) : WP1 X st D σ H := ⟨fun pins s I => h.run pins s σ H D I q⟩

/-- what is got: the value with what it owns -/
structure Got (P : Program) (w : World) (F H : Hp) (S : ASt) (F' H' : Hp) (σ : L2.St) (S' : ASt) (v : V) (ov : OV) : Prop where
  st : StOk P w F' H' σ S'
  own : Own P w F' H' v ov
  nd : (foot ov).Nodup
  new : ∀ b ∈ foot ov, F' b = none ∧ ¬ inFeet S' b
  aft : Aft F H (inFeet S) F' H'
  gr : Grown (inFeet S) H (inFeet S')
  grv : ∀ b ∈ foot ov, inFeet S b ∨ H b = none
/-- the expression comes to ov, leaving S', of which R says -/
def EVQ (X : Cx) (e : Expr) (S : ASt) (R : OV → ASt → Prop) : Prop :=
  ∀ F H σ, XOk X F H σ S → ∀ Q : VK, (∀ v ov F' H' S', Got X.prog X.w F H S F' H' σ S' v ov → R ov S' → Q v H') → WPe X e σ H Q
/-- .. to a datum -/
def Ev (X : Cx) (e : Expr) (S : ASt) (d : PyData) (S' : ASt) : Prop := EVQ X e S fun ov S1 => ov = .dat d ∧ S1 = S'
/-- .. to a new object -/
def EvO (X : Cx) (e : Expr) (S : ASt) (mk : Addr → OV) (S' : ASt) : Prop := EVQ X e S fun ov S1 => (∃ p, ov = mk p) ∧ S1 = S'
/-- what is read: it may belong to a slot -/
structure Saw (P : Program) (w : World) (F H : Hp) (S : ASt) (F' H' : Hp) (σ : L2.St) (S' : ASt) (v : V) (ov : OV) : Prop where
  st : StOk P w F' H' σ S'
  own : Own P w F' H' v ov
  aft : Aft F H (inFeet S) F' H'
  gr : Grown (inFeet S) H (inFeet S')
def EvR (X : Cx) (e : Expr) (S : ASt) (ov : OV) (S' : ASt) : Prop :=
  ∀ F H σ, XOk X F H σ S → ∀ Q : VK, (∀ v F' H', Saw X.prog X.w F H S F' H' σ S' v ov → Q v H') → WPe X e σ H Q
/-- a test -/
structure Stp (P : Program) (w : World) (F H : Hp) (S : ASt) (F' H' : Hp) (σ : L2.St) (S' : ASt) : Prop where
  st : StOk P w F' H' σ S'
  aft : Aft F H (inFeet S) F' H'
  gr : Grown (inFeet S) H (inFeet S')
def EvT (X : Cx) (e : Expr) (S : ASt) (b : Bool) (S' : ASt) : Prop :=
  ∀ F H σ, XOk X F H σ S → ∀ Q : Bool → Hp → Prop, (∀ F' H', Stp X.prog X.w F H S F' H' σ S' → Q b H') → WPt X e σ H Q
/-- several data -/
def EvA (X : Cx) (es : List Expr) (S : ASt) (ds : List PyData) (S' : ASt) : Prop :=
  ∀ F H σ, XOk X F H σ S → ∀ Q : List V → Hp → Prop, (∀ vs F' H', Stp X.prog X.w F H S F' H' σ S' → Das F' vs ds → Q vs H') → WPa X es σ H Q
end
end SH
/-! SHb: the state's moves; expressions. -/
namespace SH
open PySem PySem.Spec PyProof.Rows L2

/-! ### the state's moves -/
section
variable {P : Program} {w : World} {F F' H H' : Hp} {σ : L2.St} {S : ASt} {B : Addr → Prop}
theorem footAt_some {i : Nat} {ov : OV} (h : S[i]? = some (some ov)) : footAt S i = foot ov := by unfold footAt; rw [h]
theorem footAt_ne {i j : Nat} {x : Option OV} (h : i ≠ j) : footAt (S.set i x) j = footAt S j := by unfold footAt; rw [List.getElem?_set_ne h]
theorem footAt_set {i : Nat} {ov : OV} (h : i < S.length) : footAt (S.set i (some ov)) i = foot ov := footAt_some (List.getElem?_set_self h)
theorem footAt_none {i : Nat} : footAt (S.set i none) i = [] := by
  unfold footAt
  by_cases h : i < S.length
  · rw [List.getElem?_set_self h]
  · rw [List.getElem?_eq_none (by rw [List.length_set]; omega)]
theorem footAt_out {i : Nat} (h : S.length ≤ i) : footAt S i = [] := by unfold footAt; rw [List.getElem?_eq_none h]
theorem StOk.some_of_foot {i : Nat} {b : Addr} (hb : b ∈ footAt S i) : ∃ ov, S[i]? = some (some ov) ∧ b ∈ foot ov := by
  unfold footAt at hb
  cases h : S[i]? with
  | none => rw [h] at hb; simp at hb
  | some x =>
    cases x with
    | none => rw [h] at hb; simp at hb
    | some ov => rw [h] at hb; exact ⟨ov, rfl, hb⟩
theorem StOk.foot_tracked (st : StOk P w F H σ S) {b : Addr} (h : inFeet S b) : ∃ o, H b = some o := by
  obtain ⟨i, hb⟩ := h
  obtain ⟨ov, h1, h2⟩ := StOk.some_of_foot hb
  obtain ⟨v, _, q⟩ := st.slot i ov h1
  exact q.tracked b h2
/-- all that it leans on is kept -/
theorem StOk.keep (st : StOk P w F H σ S) (sF : Same F F') (sm : Same F' H') (fr : ∀ b, inFeet S b → F' b = none) (k : ∀ b o, inFeet S b → H b = some o → H' b = some o) : StOk P w F' H' σ S where
  same := sm
  len := st.len
  slot := fun i ov h => by
    obtain ⟨v, e, q⟩ := st.slot i ov h
    exact ⟨v, e, q.keep sF fun b hb o e => k b o ⟨i, by rw [footAt_some h]; exact hb⟩ e⟩
  nd := st.nd
  apart := st.apart
  free := fr
theorem StOk.fnone (st : StOk P w F H σ S) {p : Addr} (h : H p = none) : F p = none := st.same.free h
theorem ne_new {p b : Addr} {o : HO} (hp : H p = none) (e : H b = some o) : b ≠ p := by
  intro z; rw [z, hp] at e; cases e
theorem same_upd (hp : H p = none) {o : HO} : Same H (upd H p o) := fun b u e => by rw [upd_ne (ne_new hp e)]; exact e
/-- a new object is laid and frozen -/
theorem StOk.frozen {p : Addr} {o : HO} (st : StOk P w F H σ S) (hp : H p = none) : StOk P w (upd F p o) (upd H p o) σ S := by
  refine st.keep (same_upd (st.fnone hp)) (fun b u e => ?_) (fun b hb => ?_) (fun b u _ e => same_upd hp b u e)
  · by_cases h : b = p
    · subst h; rw [upd_same] at e ⊢; exact e
    · rw [upd_ne h] at e ⊢; exact st.same b u e
  · obtain ⟨u, e⟩ := st.foot_tracked hb
    rw [upd_ne (ne_new hp e)]; exact st.free b hb
theorem Aft.frozen {p : Addr} {o : HO} (sm : Same F H) (hp : H p = none) : Aft F H B (upd F p o) (upd H p o) where
  ff := same_upd (sm.free hp)
  nf := fun a u e _ => upd_ne (ne_new hp e)
  kp := fun a u e _ => same_upd hp a u e
  tr := fun a u e => ⟨u, same_upd hp a u e⟩
/-- a new object is laid -/
theorem StOk.laid {p : Addr} {o : HO} (st : StOk P w F H σ S) (hp : H p = none) : StOk P w F (upd H p o) σ S :=
  st.keep (Same.refl _) (fun b u e => same_upd hp b u (st.same b u e)) st.free fun b u _ e => same_upd hp b u e
theorem Aft.laid {p : Addr} {o : HO} (hp : H p = none) : Aft F H B F (upd H p o) :=
  ⟨Same.refl _, fun _ _ _ _ => rfl, fun a u e _ => same_upd hp a u e, fun a u e => ⟨u, same_upd hp a u e⟩⟩
theorem StOk.new_free {p : Addr} (st : StOk P w F H σ S) (hp : H p = none) : ¬ inFeet S p := fun h => by
  obtain ⟨u, e⟩ := st.foot_tracked h
  rw [hp] at e; cases e
/-- the slot i is stored -/
theorem StOk.put {i : Nat} {v : V} {ov : OV} (st : StOk P w F H σ S) (own : Own P w F H v ov) (nd : (foot ov).Nodup) (new : ∀ b ∈ foot ov, F b = none ∧ ∀ j, j ≠ i → b ∉ footAt S j) : StOk P w F H (σ.set i (some v)) (S.set i (some ov)) where
  same := st.same
  len := by rw [List.length_set, List.length_set]; exact st.len
  slot := fun j u h => by
    by_cases hj : i = j
    · subst hj
      by_cases hl : i < S.length
      · rw [List.getElem?_set_self hl] at h
        cases h
        exact ⟨v, List.getElem?_set_self (by rw [st.len]; exact hl), own⟩
      · rw [List.getElem?_eq_none (by rw [List.length_set]; omega)] at h; cases h
    · rw [List.getElem?_set_ne hj] at h
      obtain ⟨x, e, q⟩ := st.slot j u h
      exact ⟨x, by rw [List.getElem?_set_ne hj]; exact e, q⟩
  nd := fun j => by
    by_cases hj : i = j
    · subst hj
      by_cases hl : i < S.length
      · rw [footAt_set hl]; exact nd
      · rw [footAt_out (by rw [List.length_set]; omega)]; exact .nil
    · rw [footAt_ne hj]; exact st.nd j
  apart := fun j l b hjl hb hb2 => by
    by_cases hj : i = j
    · subst hj
      by_cases hlt : i < S.length
      · rw [footAt_set hlt] at hb
        rw [footAt_ne hjl] at hb2
        exact (new b hb).2 l (Ne.symm hjl) hb2
      · rw [footAt_out (by rw [List.length_set]; omega)] at hb; simp at hb
    · rw [footAt_ne hj] at hb
      by_cases hl : i = l
      · subst hl
        by_cases hlt : i < S.length
        · rw [footAt_set hlt] at hb2
          exact (new b hb2).2 j (fun e => hj e.symm) hb
        · rw [footAt_out (by rw [List.length_set]; omega)] at hb2; simp at hb2
      · rw [footAt_ne hl] at hb2
        exact st.apart j l b hjl hb hb2
  free := fun b hb => by
    obtain ⟨j, hb⟩ := hb
    by_cases hj : i = j
    · subst hj
      by_cases hlt : i < S.length
      · rw [footAt_set hlt] at hb
        exact (new b hb).1
      · rw [footAt_out (by rw [List.length_set]; omega)] at hb; simp at hb
    · rw [footAt_ne hj] at hb
      exact st.free b ⟨j, hb⟩
/-- the slot i is given up -/
theorem StOk.drop {i : Nat} (st : StOk P w F H σ S) : StOk P w F H σ (S.set i none) where
  same := st.same
  len := by rw [List.length_set]; exact st.len
  slot := fun j u h => by
    by_cases hj : i = j
    · subst hj
      by_cases hl : i < S.length
      · rw [List.getElem?_set_self hl] at h; cases h
      · rw [List.getElem?_eq_none (by rw [List.length_set]; omega)] at h; cases h
    · rw [List.getElem?_set_ne hj] at h
      exact st.slot j u h
  nd := fun j => by
    by_cases hj : i = j
    · subst hj; rw [footAt_none]; exact .nil
    · rw [footAt_ne hj]; exact st.nd j
  apart := fun j l b hjl hb hb2 => by
    by_cases hj : i = j
    · subst hj; rw [footAt_none] at hb; simp at hb
    · by_cases hl : i = l
      · subst hl; rw [footAt_none] at hb2; simp at hb2
      · rw [footAt_ne hj] at hb; rw [footAt_ne hl] at hb2
        exact st.apart j l b hjl hb hb2
  free := fun b hb => by
    obtain ⟨j, hb⟩ := hb
    by_cases hj : i = j
    · subst hj; rw [footAt_none] at hb; simp at hb
    · rw [footAt_ne hj] at hb; exact st.free b ⟨j, hb⟩
theorem feet_set {i : Nat} {ov : OV} {b : Addr} (h : inFeet (S.set i (some ov)) b) : inFeet S b ∨ b ∈ foot ov := by
  obtain ⟨j, hb⟩ := h
  by_cases hj : i = j
  · subst hj
    by_cases hlt : i < S.length
    · rw [footAt_set hlt] at hb; exact .inr hb
    · rw [footAt_out (by rw [List.length_set]; omega)] at hb; simp at hb
  · rw [footAt_ne hj] at hb; exact .inl ⟨j, hb⟩
theorem feet_drop {i : Nat} {b : Addr} (h : inFeet (S.set i none) b) : inFeet S b := by
  obtain ⟨j, hb⟩ := h
  by_cases hj : i = j
  · subst hj; rw [footAt_none] at hb; simp at hb
  · rw [footAt_ne hj] at hb; exact ⟨j, hb⟩
end

/-! ### steps -/
section
variable {P : Program} {w : World} {F F' F1 H H' H1 : Hp} {σ : L2.St} {S S1 S2 : ASt} {d : PyData} {v : V}
theorem Stp.refl (st : StOk P w F H σ S) : Stp P w F H S F H σ S := ⟨st, .refl, .refl⟩
theorem Stp.trans (p : Stp P w F H S F1 H1 σ S1) (q : Stp P w F1 H1 S1 F' H' σ S2) : Stp P w F H S F' H' σ S2 := ⟨q.st, p.aft.trans p.gr q.aft, p.gr.trans p.aft q.gr⟩
theorem Got.stp {ov : OV} (g : Got P w F H S F' H' σ S1 v ov) : Stp P w F H S F' H' σ S1 := ⟨g.st, g.aft, g.gr⟩
theorem Saw.stp {ov : OV} (g : Saw P w F H S F' H' σ S1 v ov) : Stp P w F H S F' H' σ S1 := ⟨g.st, g.aft, g.gr⟩
theorem Got.of (p : Stp P w F H S F' H' σ S1) (h : Da F' v d) : Got P w F H S F' H' σ S1 v (.dat d) :=
  ⟨p.st, .dat h, .nil, fun _ z => by simp [foot] at z, p.aft, p.gr, fun _ z => by simp [foot] at z⟩
end
/-! ### from one judgement to another -/
section
variable {X : Cx} {F F' F1 H H' H1 : Hp} {σ : L2.St} {S S1 S2 : ASt} {e a b : Expr} {es : List Expr} {d d1 d2 : PyData} {v : V}
/-- how a datum is used -/
theorem Ev.use (h : Ev X e S d S1) (st : XOk X F H σ S) {Q : VK} (q : ∀ v F' H', Stp X.prog X.w F H S F' H' σ S1 → Da F' v d → Q v H') : WPe X e σ H Q := by
  refine h F H σ st Q fun v ov F' H' S' g r => ?_
  obtain ⟨rfl, rfl⟩ := r
  cases g.own with
  | dat w => exact q v F' H' g.stp w
theorem Ev.of (h : ∀ F H σ, XOk X F H σ S → ∀ Q : VK, (∀ v F' H', Stp X.prog X.w F H S F' H' σ S1 → Da F' v d → Q v H') → WPe X e σ H Q) : Ev X e S d S1 :=
  fun F H σ st Q k => h F H σ st Q fun v F' H' p w => k v _ F' H' S1 (.of p w) ⟨rfl, rfl⟩
theorem Ev.ofPE {t : TE} (hp : PE X e t) (h : ∀ F H σ, XOk X F H σ S → ∀ Q : VK, (∀ v F' H', Stp X.prog X.w F H S F' H' σ S1 → Da F' v d → Q v H') → t σ H Q) : Ev X e S d S1 :=
  .of fun F H σ st Q k => hp.wp (h F H σ st Q k)
theorem Ev.to {S' : ASt} {d' : PyData} (h : Ev X e S d S1) (e1 : d = d') (e2 : S1 = S') : Ev X e S d' S' := by subst e1 e2; exact h
theorem Ev.r (h : Ev X e S d S1) : EvR X e S (.dat d) S1 := fun F H σ st Q k => h.use st fun v F' H' p w => k v F' H' ⟨p.st, .dat w, p.aft, p.gr⟩
theorem EvT.to {c c' : Bool} (h : EvT X e S c S1) (e1 : c = c') : EvT X e S c' S1 := e1 ▸ h

/-! ### names, constants -/
theorem ev_name (i : Nat) {x : Str} {pos : Pos} (hS : S[i]? = some (some (.dat d)) := by rfl) (hN : X.N[i]? = some x := by rfl) (hv : Vis X.env.scope x := by first | exact Or.inl rfl | exact Or.inr (Or.inl rfl) | exact Or.inr (Or.inr rfl))
    (hd : (x == ("__debug__" : Str)) = false := by decide) (hcd : (x == ("__classdict__" : Str)) = false := by decide) : Ev X (.Name x pos) S d S :=
  .ofPE (pe_var hN hv hd hcd) fun F H σ st Q k => by
    obtain ⟨v, e, q⟩ := st.slot i _ hS
    cases q with
    | dat w => exact ⟨v, e, k v F H (.refl st) w⟩
theorem evr_name (i : Nat) {x : Str} {pos : Pos} {ov : OV} (hS : S[i]? = some (some ov) := by rfl) (hN : X.N[i]? = some x := by rfl) (hv : Vis X.env.scope x := by first | exact Or.inl rfl | exact Or.inr (Or.inl rfl) | exact Or.inr (Or.inr rfl))
    (hd : (x == ("__debug__" : Str)) = false := by decide) (hcd : (x == ("__classdict__" : Str)) = false := by decide) : EvR X (.Name x pos) S ov S := fun F H σ st Q k => by
  refine (pe_var hN hv hd hcd).wp ?_
  obtain ⟨v, e, q⟩ := st.slot i _ hS
  exact ⟨v, e, k v F H ⟨st, q, .refl, .refl⟩⟩
theorem ev_int {i : Int} {j : Nat} {pos : Pos} : Ev X (.Constant (.int i) j pos) S (.int i) S := .ofPE pe_int fun F H σ st Q k => k _ F H (.refl st) (.int i)
theorem ev_bool {c : Bool} {j : Nat} {pos : Pos} : Ev X (.Constant (.bool c) j pos) S (.bool c) S := .ofPE pe_bl fun F H σ st Q k => k _ F H (.refl st) (.bl c)
theorem ev_none {j : Nat} {pos : Pos} : Ev X (.Constant .none j pos) S .none S := .ofPE pe_non fun F H σ st Q k => k _ F H (.refl st) .non
theorem ev_str {x : Str} {j : Nat} {pos : Pos} : Ev X (.Constant (.str x) j pos) S (.str x) S := .ofPE pe_str fun F H σ st Q k => k _ F H (.refl st) (.str x)

/-! ### operators by values -/
/-- an operation of two data -/
def OpD (X : Cx) (f : Value → Value → Sem Value) (d e r : PyData) : Prop :=
  ∃ R : R2, OpR X f R ∧ ∀ F H σ S v u, XOk X F H σ S → Da F v d → Da F u e → ∀ Q : VK, (∀ z F' H', Stp X.prog X.w F H S F' H' σ S → Da F' z r → Q z H') → R v u H Q
theorem ev_bin {op : Operator} {r : PyData} {pos : Pos} (ha : Ev X a S d1 S1) (hb : Ev X b S1 d2 S2) (ho : OpD X (binaryOp op) d1 d2 r) : Ev X (.BinOp a op b pos) S r S2 := by
  obtain ⟨R, h1, h2⟩ := ho
  refine .ofPE (pe_op h1 (peW X a) (peW X b)) fun F H σ st Q k => ?_
  refine ha.use st fun v F1 H1 p1 w1 => hb.use p1.st fun u F2 H2 p2 w2 => ?_
  exact h2 F2 H2 σ S2 v u p2.st (Da.mono p2.aft.ff _ _ w1) w2 Q fun z F' H' p w => k z F' H' ((p1.trans p2).trans p) w
theorem ev_cmp {op : CmpOp} {r : PyData} {pos : Pos} (ha : Ev X a S d1 S1) (hb : Ev X b S1 d2 S2) (ho : OpD X (compareOp op) d1 d2 r) (hm : behindInMarks op b = false := by first | exact nobehind _ (by decide) (by decide) | rfl) : Ev X (.Compare a [op] [b] pos) S r S2 := by
  obtain ⟨R, h1, h2⟩ := ho
  refine .ofPE (pe_cmpR h1 (peW X a) (peW X b) hm) fun F H σ st Q k => ?_
  refine ha.use st fun v F1 H1 p1 w1 => hb.use p1.st fun u F2 H2 p2 w2 => ?_
  exact h2 F2 H2 σ S2 v u p2.st (Da.mono p2.aft.ff _ _ w1) w2 Q fun z F' H' p w => k z F' H' ((p1.trans p2).trans p) w
theorem evt_cmp {op : CmpOp} {c : Bool} {pos : Pos} (ha : Ev X a S d1 S1) (hb : Ev X b S1 d2 S2) (ho : OpD X (compareOp op) d1 d2 (.bool c)) (hm : behindInMarks op b = false := by first | exact nobehind _ (by decide) (by decide) | rfl) : EvT X (.Compare a [op] [b] pos) S c S2 := by
  obtain ⟨R, h1, h2⟩ := ho
  intro F H σ st Q k
  refine (pt_cmpR h1 (peW X a) (peW X b) hm).wp ?_
  refine ha.use st fun v F1 H1 p1 w1 => hb.use p1.st fun u F2 H2 p2 w2 => ?_
  refine h2 F2 H2 σ S2 v u p2.st (Da.mono p2.aft.ff _ _ w1) w2 _ fun z F' H' p w => ?_
  cases w
  exact ⟨c, rfl, k F' H' ((p1.trans p2).trans p)⟩
/-- an expression whose value is a truth, as a test -/
theorem evt_val {c : Bool} (h : Ev X e S (.bool c) S1) (he : ∀ whole, isTrue e X.env whole = (do let v ← whole; standAt e.pos; holding [v] (truthy v)) := by intro _; rfl) : EvT X e S c S1 := fun F H σ st Q k => by
  refine (pt_val (peW X e) he).wp ?_
  refine h.use st fun v F1 H1 p1 w1 => ?_
  cases w1
  exact ⟨c, rfl, k F1 H1 p1⟩
theorem evt_not {c : Bool} {pos : Pos} (h : EvT X e S c S1) : EvT X (.UnaryOp .Not e pos) S (!c) S1 := fun F H σ st Q k => by
  refine (pt_not (ptW X e)).wp ?_
  exact h F H σ st _ fun F' H' p => k F' H' p
theorem ev_not {c : Bool} {pos : Pos} (h : Ev X e S (.bool c) S1) : Ev X (.UnaryOp .Not e pos) S (.bool (!c)) S1 := by
  refine .ofPE (pe_not (peW X e)) fun F H σ st Q k => ?_
  refine h.use st fun v F1 H1 p1 w1 => ?_
  cases w1
  exact ⟨c, rfl, k _ F1 H1 p1 (.bl _)⟩
/-! and, or as tests -/
structure WPw (X : Cx) (e : Expr) (σ : L2.St) (H : Hp) (Q : Bool → Hp → Prop) : Prop where
  run : ∀ (whole : Sem Value) pins s, Inv X pins σ H s → wpAny (model X.prog X.w) X.A (isTrue e X.env whole) (TP X pins σ Q) X.xe s
theorem pwW (X : Cx) (e : Expr) : PW X e (fun σ H Q => WPw X e σ H Q) := ⟨fun wh pins s _ _ _ I h => h.run wh pins s I⟩
theorem _root_.L2.PW.wp {t : TT} (h : PW X e t) {Q : Bool → Hp → Prop} (q : t σ H Q) : WPw X e σ H Q := ⟨fun wh pins s I => h.run wh pins s σ H Q I q⟩
def EvW (X : Cx) (e : Expr) (S : ASt) (b : Bool) (S' : ASt) : Prop :=
  ∀ F H σ, XOk X F H σ S → ∀ Q : Bool → Hp → Prop, (∀ F' H', Stp X.prog X.w F H S F' H' σ S' → Q b H') → WPw X e σ H Q
theorem EvW.t {c : Bool} (h : EvW X e S c S1) : EvT X e S c S1 := fun F H σ st Q k => (pwW X e).pt.wp (h F H σ st Q k)
variable {rest : List Expr} {pos : Pos} {c c1 c2 : Bool}
theorem evw_and1 (h : EvT X a S c S1) : EvW X (.BoolOp .And [a] pos) S c S1 := fun F H σ st Q k => (pw_and1 (ptW X a)).wp (h F H σ st Q k)
theorem evw_or1 (h : EvT X a S c S1) : EvW X (.BoolOp .Or [a] pos) S c S1 := fun F H σ st Q k => (pw_or1 (ptW X a)).wp (h F H σ st Q k)
/-- the second one is asked where the first one says so -/
theorem evw_and (h1 : EvT X a S c1 S1) (h2 : c1 = true → EvW X (.BoolOp .And (b :: rest) pos) S1 c2 S1) : EvW X (.BoolOp .And (a :: b :: rest) pos) S (c1 && c2) S1 := fun F H σ st Q k => by
  refine (pw_and (ptW X a) (pwW X _)).wp ?_
  refine h1 F H σ st _ fun F' H' p => ?_
  cases c1 with
  | true =>
    rw [if_pos rfl]
    exact h2 rfl F' H' σ p.st _ fun F2 H2 p2 => k F2 H2 (p.trans p2)
  | false =>
    rw [if_neg Bool.false_ne_true]
    exact k F' H' p
theorem evw_or (h1 : EvT X a S c1 S1) (h2 : c1 = false → EvW X (.BoolOp .Or (b :: rest) pos) S1 c2 S1) : EvW X (.BoolOp .Or (a :: b :: rest) pos) S (c1 || c2) S1 := fun F H σ st Q k => by
  refine (pw_or (ptW X a) (pwW X _)).wp ?_
  refine h1 F H σ st _ fun F' H' p => ?_
  cases c1 with
  | false =>
    rw [if_neg Bool.false_ne_true]
    exact h2 rfl F' H' σ p.st _ fun F2 H2 p2 => k F2 H2 (p.trans p2)
  | true =>
    rw [if_pos rfl]
    exact k F' H' p
theorem evw_and_s (h1 : EvT X a S true S1) (h2 : EvW X (.BoolOp .And (b :: rest) pos) S1 c2 S2) : EvW X (.BoolOp .And (a :: b :: rest) pos) S c2 S2 := fun F H σ st Q k => by
  refine (pw_and (ptW X a) (pwW X _)).wp ?_
  refine h1 F H σ st _ fun F' H' p => ?_
  rw [if_pos rfl]
  exact h2 F' H' σ p.st _ fun F2 H2 p2 => k F2 H2 (p.trans p2)
theorem evw_or_s (h1 : EvT X a S false S1) (h2 : EvW X (.BoolOp .Or (b :: rest) pos) S1 c2 S2) : EvW X (.BoolOp .Or (a :: b :: rest) pos) S c2 S2 := fun F H σ st Q k => by
  refine (pw_or (ptW X a) (pwW X _)).wp ?_
  refine h1 F H σ st _ fun F' H' p => ?_
  rw [if_neg Bool.false_ne_true]
  exact h2 F' H' σ p.st _ fun F2 H2 p2 => k F2 H2 (p.trans p2)
/-- .. as values, all truths -/
theorem ev_one {op : BoolOp} (h : Ev X a S d S1) : Ev X (.BoolOp op [a] pos) S d S1 := .ofPE (pe_one (peW X a)) fun F H σ st Q k => h.use st k
theorem ev_and (h1 : Ev X a S (.bool c1) S1) (h2 : c1 = true → Ev X (.BoolOp .And (b :: rest) pos) S1 (.bool c2) S1) : Ev X (.BoolOp .And (a :: b :: rest) pos) S (.bool (c1 && c2)) S1 := by
  refine .ofPE (pe_and (peW X a) (peW X _)) fun F H σ st Q k => ?_
  refine h1.use st fun v F' H' p w => ?_
  cases w
  refine ⟨c1, rfl, ?_⟩
  cases c1 with
  | true =>
    rw [if_pos rfl]
    exact (h2 rfl).use p.st fun v F2 H2 p2 w2 => k v F2 H2 (p.trans p2) w2
  | false =>
    rw [if_neg Bool.false_ne_true]
    exact k _ F' H' p (.bl _)
theorem ev_or (h1 : Ev X a S (.bool c1) S1) (h2 : c1 = false → Ev X (.BoolOp .Or (b :: rest) pos) S1 (.bool c2) S1) : Ev X (.BoolOp .Or (a :: b :: rest) pos) S (.bool (c1 || c2)) S1 := by
  refine .ofPE (pe_or (peW X a) (peW X _)) fun F H σ st Q k => ?_
  refine h1.use st fun v F' H' p w => ?_
  cases w
  refine ⟨c1, rfl, ?_⟩
  cases c1 with
  | false =>
    rw [if_neg Bool.false_ne_true]
    exact (h2 rfl).use p.st fun v F2 H2 p2 w2 => k v F2 H2 (p.trans p2) w2
  | true =>
    rw [if_pos rfl]
    exact k _ F' H' p (.bl _)
/-- a if t else b -/
theorem ev_ifT {t : Expr} (h : EvT X t S true S1) (ha : Ev X a S1 d S2) : Ev X (.IfExp t a b pos) S d S2 := by
  refine .ofPE (pe_ifExp (ptW X t) (peW X a) (peW X b)) fun F H σ st Q k => ?_
  refine h F H σ st _ fun F' H' p => ?_
  rw [if_pos rfl]
  exact ha.use p.st fun v F2 H2 p2 w2 => k v F2 H2 (p.trans p2) w2
theorem ev_ifF {t : Expr} (h : EvT X t S false S1) (hb : Ev X b S1 d S2) : Ev X (.IfExp t a b pos) S d S2 := by
  refine .ofPE (pe_ifExp (ptW X t) (peW X a) (peW X b)) fun F H σ st Q k => ?_
  refine h F H σ st _ fun F' H' p => ?_
  rw [if_neg Bool.false_ne_true]
  exact hb.use p.st fun v F2 H2 p2 w2 => k v F2 H2 (p.trans p2) w2

/-! ### argument lists, displays -/
theorem eva_nil : EvA X [] S [] S := fun F H σ st Q k => pa_nil.wp (k [] F H (.refl st) .nil)
theorem eva_cons {ds : List PyData} (h : Ev X e S d S1) (hr : EvA X es S1 ds S2) (hs : starEach (e :: es) X.env = (false, eval e X.env) :: starEach es X.env := by exact star_plain rfl) : EvA X (e :: es) S (d :: ds) S2 := fun F H σ st Q k => by
  refine (pa_cons (peW X e) (paW X es) hs).wp ?_
  refine h.use st fun v F' H' p w => hr F' H' σ p.st _ fun vs F2 H2 p2 w2 => ?_
  exact k (v :: vs) F2 H2 (p.trans p2) (.cons (Da.mono p2.aft.ff _ _ w) w2)
theorem Stp.frozen {P : Program} {w : World} {p : Addr} {o : HO} (st : StOk P w F H σ S) (hp : H p = none) : Stp P w F H S (upd F p o) (upd H p o) σ S := ⟨st.frozen hp, .frozen st.same hp, .refl⟩
theorem rd_new {p : Addr} {o : HO} : Rd (upd F p o) p o := .inl upd_same
theorem Das.new {vs : List V} {ds : List PyData} {p : Addr} {o : HO} (hp : F p = none) (h : Das F vs ds) : Das (upd F p o) vs ds := Das.mono (same_upd hp) _ _ h
theorem Da.new {v : V} {p : Addr} {o : HO} (hp : F p = none) (h : Da F v d) : Da (upd F p o) v d := Da.mono (same_upd hp) _ _ h
theorem ev_tup {ds : List PyData} {k : Nat} (h : EvA X es S ds S1) (hz : ds.length ≤ sizeLine := by first | exact Nat.zero_le _ | (simp only [List.length_cons, List.length_nil]; decide)) : Ev X (.Tuple es k pos) S (.tuple ds) S1 := by
  refine .ofPE (pe_tup (paW X es)) fun F H σ st Q q => ?_
  refine h F H σ st _ fun vs F' H' p w => ⟨by rw [w.length]; exact hz, fun a ha => ?_⟩
  exact q _ _ _ (p.trans (.frozen p.st ha)) (.tup rd_new (w.new (p.st.fnone ha)))
theorem ev_lst {ds : List PyData} (h : EvA X es S ds S1) (hz : ds.length ≤ sizeLine := by first | exact Nat.zero_le _ | (simp only [List.length_cons, List.length_nil]; decide)) : Ev X (.List es pos) S (.list ds) S1 := by
  refine .ofPE (pe_lst (paW X es)) fun F H σ st Q q => ?_
  refine h F H σ st _ fun vs F' H' p w => ⟨by rw [w.length]; exact hz, fun a ha => ?_⟩
  exact q _ _ _ (p.trans (.frozen p.st ha)) (.lst rd_new (w.new (p.st.fnone ha)))
/-- a new list of one's own -/
theorem Got.made {P : Program} {w : World} {p : Addr} {o : HO} {ov : OV} {v : V} (g : Stp P w F H S F' H' σ S1) (hp : H' p = none) (hf : foot ov = [p]) (ow : Own P w F' (upd H' p o) v ov) : Got P w F H S F' (upd H' p o) σ S1 v ov where
  st := g.st.laid hp
  own := ow
  nd := by rw [hf]; simp
  new := fun b hb => by
    rw [hf] at hb
    obtain rfl := List.mem_singleton.mp hb
    exact ⟨g.st.fnone hp, g.st.new_free hp⟩
  aft := g.aft.trans g.gr (.laid hp)
  gr := g.gr
  grv := fun b hb => by
    rw [hf] at hb
    obtain rfl := List.mem_singleton.mp hb
    cases e : H b with
    | none => exact .inr rfl
    | some u =>
      obtain ⟨u', e'⟩ := g.aft.tr b u e
      rw [hp] at e'; cases e'
theorem evo_lst {ds : List PyData} (h : EvA X es S ds S1) (hz : ds.length ≤ sizeLine := by first | exact Nat.zero_le _ | (simp only [List.length_cons, List.length_nil]; decide)) : EvO X (.List es pos) S (fun p => .lst p ds) S1 := fun F H σ st Q q => by
  refine (pe_lst (paW X es)).wp ?_
  refine h F H σ st _ fun vs F' H' p w => ⟨by rw [w.length]; exact hz, fun a ha => ?_⟩
  exact q _ (.lst a ds) _ _ S1 (Got.made p ha rfl (.lst upd_same w)) ⟨⟨a, rfl⟩, rfl⟩
theorem evo_dK : EvO X (.Dict [] [] pos) S (fun p => .dK p []) S := fun F H σ st Q q => by
  refine pe_dnewK.wp fun a ha => ?_
  exact q _ (.dK a []) _ _ S (Got.made (.refl st) ha rfl (.dK upd_same .nil)) ⟨⟨a, rfl⟩, rfl⟩
theorem pe_dnewN : PE X (.Dict [] [] pos) (fun σ H Q => ∀ p, H p = none → (p == sysModules) = false → Q (.ref p) (upd H p (.ext (tabOf p [])))) := ⟨fun pins s σ H Q I h => by
  have hb := I.big
  refine wpAny_Dict_empty ⟨.ref s.heap.objs.size, _, I.laid (a := s.heap.objs.size) (o := .ext (tabOf s.heap.objs.size [])) (t' := s.toks) (fun _ _ q => Heap.get?_push_of_some _ q) (Nat.le_refl _) ?_, rfl, h _ (I.hok.fresh (Nat.le_refl _)) (beq_eq_false_iff_ne.mpr (Ne.symm (Nat.ne_of_lt hb)))⟩
  refine ⟨⟨_, #[], 0, Heap.get?_push_size _ rfl, ⟨rfl, rfl, rfl⟩, rfl, rfl⟩, ⟨_, Heap.get?_push_size _ rfl⟩, fun h1 h2 => ?_⟩
  rintro ⟨o, es, ep, e, r⟩ k
  exact ⟨o, es, ep, k _ e, r⟩⟩
theorem evo_dN : EvO X (.Dict [] [] pos) S (fun p => .dN p []) S := fun F H σ st Q q => by
  refine pe_dnewN.wp fun a ha hs => ?_
  exact q _ (.dN a []) _ _ S (Got.made (.refl st) ha rfl (.dN (xs := []) ⟨upd_same, hs, Nat.zero_le _, .nil⟩ .nil)) ⟨⟨a, rfl⟩, rfl⟩
theorem evo_dL : EvO X (.Dict [] [] pos) S (fun p => .dL p []) S := fun F H σ st Q q => by
  refine pe_dnewN.wp fun a ha hs => ?_
  exact q _ (.dL a []) _ _ S (Got.made (.refl st) ha rfl (.dL (xs := []) ⟨upd_same, hs, Nat.zero_le _, .nil⟩ .nil)) ⟨⟨a, rfl⟩, rfl⟩
/-- a new list, frozen -/
theorem EvO.freeze {ds : List PyData} (h : EvO X e S (fun p => .lst p ds) S1) : Ev X e S (.list ds) S1 := fun F H σ st Q q => by
  refine h F H σ st Q fun v ov F' H' S' g r => ?_
  obtain ⟨⟨p, rfl⟩, rfl⟩ := r
  have hn := g.new p (by simp [foot])
  cases g.own with
  | @lst _ vs _ e w =>
    have hsame : Same F' (upd F' p (.lst vs)) := same_upd hn.1
    refine q _ (.dat (.list ds)) (upd F' p (.lst vs)) H' S' ?_ ⟨rfl, rfl⟩
    have st' : XOk X (upd F' p (.lst vs)) H' σ S' := by
      refine g.st.keep hsame (fun b u eb => ?_) (fun b hb => ?_) fun b u _ eb => eb
      · by_cases hbp : b = p
        · subst hbp; rw [upd_same] at eb; cases eb; exact e
        · rw [upd_ne hbp] at eb; exact g.st.same b u eb
      · have : b ≠ p := fun z => hn.2 (z ▸ hb)
        rw [upd_ne this]; exact g.st.free b hb
    refine .of ⟨st', ⟨g.aft.ff.trans hsame, fun b u eb nb => ?_, g.aft.kp, g.aft.tr⟩, g.gr⟩ (.lst rd_new (Das.mono hsame _ _ w))
    have hbp : b ≠ p := fun z => by
      subst z
      rcases g.grv b (by simp [foot]) with z | z
      · exact nb z
      · rw [z] at eb; cases eb
    rw [upd_ne hbp]; exact g.aft.nf b u eb nb
/-! ### an owned list becomes a datum where it stands -/
theorem StOk.freeze {P : Program} {w : World} {j : Nat} {p' : Addr} {ds : List PyData} (st : StOk P w F H σ S) (hS : S[j]? = some (some (.lst p' ds))) : ∃ F', Stp P w F H S F' H σ (S.set j (some (.dat (.list ds)))) := by
  obtain ⟨v, e1, o1⟩ := st.slot j _ hS
  have hp : p' ∈ footAt S j := by rw [footAt_some hS]; simp [foot]
  have hF : F p' = none := st.free p' ⟨j, hp⟩
  have hlt : j < S.length := (List.getElem?_eq_some_iff.mp hS).1
  cases o1 with
  | @lst _ vs _ q w' =>
    have hs : Same F (upd F p' (.lst vs)) := same_upd hF
    have fj : footAt (S.set j (some (.dat (.list ds)))) j = [] := by rw [footAt_set hlt]; rfl
    have fall : ∀ i b, b ∈ footAt (S.set j (some (.dat (.list ds)))) i → i ≠ j ∧ b ∈ footAt S i := fun i b h => by
      by_cases hij : j = i
      · subst hij; rw [fj] at h; simp at h
      · exact ⟨fun z => hij z.symm, by rw [footAt_ne hij] at h; exact h⟩
    refine ⟨upd F p' (.lst vs), ⟨fun b z e => ?_, by rw [List.length_set]; exact st.len, fun i ov h => ?_, fun i => ?_, fun i l b hil h1 h2 => st.apart i l b hil (fall i b h1).2 (fall l b h2).2, fun b ⟨i, h⟩ => ?_⟩, ⟨hs, fun b z e nb => ?_, fun b z e _ => e, fun b z e => ⟨z, e⟩⟩, fun b ⟨i, h⟩ => .inl ⟨i, (fall i b h).2⟩⟩
    · by_cases hb : b = p'
      · subst hb; rw [upd_same] at e; cases e; exact q
      · rw [upd_ne hb] at e; exact st.same b z e
    · by_cases hij : j = i
      · subst hij
        rw [List.getElem?_set_self hlt] at h
        cases h
        exact ⟨_, e1, .dat (.lst rd_new (Das.mono hs _ _ w'))⟩
      · rw [List.getElem?_set_ne hij] at h
        obtain ⟨x, g1, g2⟩ := st.slot i ov h
        exact ⟨x, g1, g2.keep hs fun b hb z e => e⟩
    · by_cases hij : j = i
      · subst hij; rw [fj]; exact .nil
      · rw [footAt_ne hij]; exact st.nd i
    · obtain ⟨hij, hb⟩ := fall i b h
      rw [upd_ne (fun z => st.apart i j b hij hb (by rw [z]; exact hp))]
      exact st.free b ⟨i, hb⟩
    · rw [upd_ne (fun z => nb ⟨j, by rw [z]; exact hp⟩)]
end
end SH
/-! SHc: statements, targets, loops, comprehensions. -/
namespace SH
open PySem PySem.Spec PyProof.Rows L2

/-- what is wanted behind a statement -/
structure AE where
  nx : ASt → Prop
  rt : OV → ASt → Prop
  bk : ASt → Prop := fun _ => False
  ct : ASt → Prop := fun _ => False
structure AEOk (X : Cx) (F H : Hp) (S : ASt) (D : AE) (D' : Ends) : Prop where
  nx : ∀ σ F1 H1 S1, Stp X.prog X.w F H S F1 H1 σ S1 → D.nx S1 → D'.nx σ H1
  rt : ∀ σ F1 H1 S1 v ov, Got X.prog X.w F H S F1 H1 σ S1 v ov → D.rt ov S1 → D'.rt v H1
  bk : ∀ σ F1 H1 S1, Stp X.prog X.w F H S F1 H1 σ S1 → D.bk S1 → D'.bk σ H1
  ct : ∀ σ F1 H1 S1, Stp X.prog X.w F H S F1 H1 σ S1 → D.ct S1 → D'.ct σ H1
def SX (X : Cx) (st : List Stmt) (S : ASt) (D : AE) : Prop := ∀ F H σ, XOk X F H σ S → ∀ D' : Ends, AEOk X F H S D D' → WPs X st D' σ H
def S1 (X : Cx) (st : Stmt) (S : ASt) (D : AE) : Prop := ∀ F H σ, XOk X F H σ S → ∀ D' : Ends, AEOk X F H S D D' → WP1 X st D' σ H
section
variable {X : Cx} {F F' F1 H H' H1 : Hp} {σ σ1 σ' : L2.St} {S Sa Sb : ASt} {D : AE} {D' : Ends} {e : Expr} {d : PyData} {pos pos' : Pos} {st : Stmt} {rest : List Stmt}
theorem Stp.thn {P : Program} {w : World} (p : Stp P w F H S F1 H1 σ1 Sa) (q : Stp P w F1 H1 Sa F' H' σ' Sb) : Stp P w F H S F' H' σ' Sb := ⟨q.st, p.aft.trans p.gr q.aft, p.gr.trans p.aft q.gr⟩
theorem Got.thn {P : Program} {w : World} {v : V} {ov : OV} (p : Stp P w F H S F1 H1 σ1 Sa) (g : Got P w F1 H1 Sa F' H' σ' Sb v ov) : Got P w F H S F' H' σ' Sb v ov where
  st := g.st
  own := g.own
  nd := g.nd
  new := g.new
  aft := p.aft.trans p.gr g.aft
  gr := p.gr.trans p.aft g.gr
  grv := fun b hb => by
    rcases g.grv b hb with q | q
    · exact p.gr b q
    · right
      cases z : H b with
      | none => rfl
      | some o =>
        obtain ⟨o', e'⟩ := p.aft.tr b o z
        rw [q] at e'; cases e'
theorem AEOk.go (k : AEOk X F H S D D') (p : Stp X.prog X.w F H S F1 H1 σ1 Sa) : AEOk X F1 H1 Sa D D' where
  nx := fun σ F' H' S' q h => k.nx σ F' H' S' (p.thn q) h
  rt := fun σ F' H' S' v ov q h => k.rt σ F' H' S' v ov (.thn p q) h
  bk := fun σ F' H' S' q h => k.bk σ F' H' S' (p.thn q) h
  ct := fun σ F' H' S' q h => k.ct σ F' H' S' (p.thn q) h

/-! ### blocks -/
theorem sx_nil (h : D.nx S) : SX X [] S D := fun F H σ st D' k => pss_nil.wp (k.nx σ F H S (.refl st) h)
theorem sx_cons (h : S1 X st S { D with nx := fun S' => SX X rest S' D }) : SX X (st :: rest) S D := fun F H σ ok D' k => by
  refine (pss_cons (psW X st) (pssW X rest)).wp ?_
  refine h F H σ ok _ ⟨fun σ1 F1 H1 S1 p q => ?_, k.rt, k.bk, k.ct⟩
  exact q F1 H1 σ1 p.st D' (k.go p)
theorem sx_one (h : S1 X st S D) : SX X [st] S D := sx_cons (fun F H σ ok D' k => h F H σ ok D' ⟨fun σ1 F1 H1 S1 p q => k.nx σ1 F1 H1 S1 p (sx_nil q), k.rt, k.bk, k.ct⟩)
/-- a statement, by what holds behind it -/
theorem sx_cut (M : ASt → Prop) (h : S1 X st S { D with nx := M }) (hr : ∀ S', M S' → SX X rest S' D) : SX X (st :: rest) S D :=
  sx_cons fun F H σ ok D' k => h F H σ ok D' ⟨fun σ1 F1 H1 S1 p q => k.nx σ1 F1 H1 S1 p (hr S1 q), k.rt, k.bk, k.ct⟩
theorem sx_to (S' : ASt) (h : S1 X st S { D with nx := fun T => T = S' }) (hr : SX X rest S' D) : SX X (st :: rest) S D :=
  sx_cut (fun T => T = S') h fun T e => e ▸ hr
theorem S1.imp {D2 : AE} (h : S1 X st S D) (nx : ∀ S', D.nx S' → D2.nx S') (rt : ∀ ov S', D.rt ov S' → D2.rt ov S') (bk : ∀ S', D.bk S' → D2.bk S') (ct : ∀ S', D.ct S' → D2.ct S') : S1 X st S D2 := fun F H σ ok D' k =>
  h F H σ ok D' ⟨fun σ F1 H1 S1 p q => k.nx σ F1 H1 S1 p (nx _ q), fun σ F1 H1 S1 v ov p q => k.rt σ F1 H1 S1 v ov p (rt _ _ q), fun σ F1 H1 S1 p q => k.bk σ F1 H1 S1 p (bk _ q), fun σ F1 H1 S1 p q => k.ct σ F1 H1 S1 p (ct _ q)⟩

/-! ### small statements -/
theorem s_pass (h : D.nx S) : S1 X (.Pass pos) S D := fun F H σ st D' k => ps_pass.wp (k.nx σ F H S (.refl st) h)
theorem s_break (h : D.bk S) : S1 X (.Break pos) S D := fun F H σ st D' k => ps_break.wp (k.bk σ F H S (.refl st) h)
theorem s_continue (h : D.ct S) : S1 X (.Continue pos) S D := fun F H σ st D' k => ps_continue.wp (k.ct σ F H S (.refl st) h)
theorem s_doc {x : Str} {j : Nat} (h : D.nx S) : S1 X (.Expr (.Constant (.str x) j pos) pos') S D := fun F H σ st D' k => ps_doc.wp (k.nx σ F H S (.refl st) h)
theorem s_retQ (h : EVQ X e S D.rt) : S1 X (.Return (some e) pos) S D := fun F H σ st D' k => by
  refine (ps_ret (peW X e)).wp ?_
  exact h F H σ st _ fun v ov F1 H1 S1 g r => k.rt σ F1 H1 S1 v ov g r
theorem s_ret (h : Ev X e S d Sa) (q : D.rt (.dat d) Sa) : S1 X (.Return (some e) pos) S D :=
  s_retQ fun F H σ st Q k => h F H σ st Q fun v ov F1 H1 S1 g r => k v ov F1 H1 S1 g (by obtain ⟨rfl, rfl⟩ := r; exact q)
theorem s_retN (q : D.rt (.dat .none) S) : S1 X (.Return none pos) S D := fun F H σ st D' k => ps_retN.wp (k.rt σ F H S _ _ (.of (.refl st) .non) q)
theorem s_exprQ (h : EVQ X e S fun _ S' => D.nx S') (hs : swapsWith e none pos.line X.env = pure false := by rfl) : S1 X (.Expr e pos) S D := fun F H σ st D' k => by
  refine (ps_expr (peW X e) hs).wp ?_
  exact h F H σ st _ fun v ov F1 H1 S1 g r => k.nx σ F1 H1 S1 g.stp r
theorem s_expr (h : Ev X e S d Sa) (q : D.nx Sa) (hs : swapsWith e none pos.line X.env = pure false := by rfl) : S1 X (.Expr e pos) S D :=
  s_exprQ (fun F H σ st Q k => h F H σ st Q fun v ov F1 H1 S1 g r => k v ov F1 H1 S1 g (by obtain ⟨rfl, rfl⟩ := r; exact q)) hs
theorem s_if {c : Expr} {a b : List Stmt} {t : Bool} (hc : EvT X c S t Sa) (ha : t = true → SX X a Sa D) (hb : t = false → SX X b Sa D) : S1 X (.If c a b pos) S D := fun F H σ st D' k => by
  refine (ps_if (ptW X c) (pssW X a) (pssW X b)).wp ?_
  refine hc F H σ st _ fun F1 H1 p => ?_
  cases t with
  | true => rw [if_pos rfl]; exact ha rfl F1 H1 σ p.st D' (k.go p)
  | false => rw [if_neg Bool.false_ne_true]; exact hb rfl F1 H1 σ p.st D' (k.go p)
/-- storing what is got into the slot i -/
theorem Got.stored {P : Program} {w : World} {v : V} {ov : OV} {i : Nat} (g : Got P w F H S F1 H1 σ Sa v ov) : Stp P w F H S F1 H1 (σ.set i (some v)) (Sa.set i (some ov)) where
  st := g.st.put g.own g.nd fun b hb => ⟨(g.new b hb).1, fun j _ hj => (g.new b hb).2 ⟨j, hj⟩⟩
  aft := g.aft
  gr := fun b hb => by
    rcases feet_set hb with q | q
    · exact g.gr b q
    · exact g.grv b q
theorem s_setQ {i : Nat} {x : Str} (h : EVQ X e S fun ov S' => D.nx (S'.set i (some ov))) (hN : X.N.Nodup) (hi : X.N[i]? = some x := by rfl) (hx : Loc X.env.scope x := by first | exact Or.inl rfl | exact Or.inr rfl) (hs : swapsWith e (some (.Name x pos')) pos.line X.env = pure false := by rfl)
    (hf : X.fn x = true ∨ X.env.scope.names.lookup x = some .local := by first | exact .inl rfl | exact .inr rfl | assumption) : S1 X (.Assign [.Name x pos'] e pos) S D := fun F H σ st D' k => by
  refine (ps_set hN hi hx (peW X e) hs hf).wp ?_
  exact h F H σ st _ fun v ov F1 H1 S1 g r => k.nx _ F1 H1 _ g.stored r
theorem s_set (i : Nat) {x : Str} (h : Ev X e S d Sa) (hN : X.N.Nodup) (q : D.nx (Sa.set i (some (.dat d)))) (hi : X.N[i]? = some x := by rfl) (hx : Loc X.env.scope x := by first | exact Or.inl rfl | exact Or.inr rfl) (hs : swapsWith e (some (.Name x pos')) pos.line X.env = pure false := by rfl)
    (hf : X.fn x = true ∨ X.env.scope.names.lookup x = some .local := by first | exact .inl rfl | exact .inr rfl | assumption) : S1 X (.Assign [.Name x pos'] e pos) S D :=
  s_setQ (fun F H σ st Q k => h F H σ st Q fun v ov F1 H1 S1 g r => k v ov F1 H1 S1 g (by obtain ⟨rfl, rfl⟩ := r; exact q)) hN hi hx hs hf
theorem s_setO (i : Nat) {x : Str} {mk : Addr → OV} (h : EvO X e S mk Sa) (hN : X.N.Nodup) (q : ∀ p, D.nx (Sa.set i (some (mk p)))) (hi : X.N[i]? = some x := by rfl) (hx : Loc X.env.scope x := by first | exact Or.inl rfl | exact Or.inr rfl) (hs : swapsWith e (some (.Name x pos')) pos.line X.env = pure false := by rfl)
    (hf : X.fn x = true ∨ X.env.scope.names.lookup x = some .local := by first | exact .inl rfl | exact .inr rfl | assumption) : S1 X (.Assign [.Name x pos'] e pos) S D :=
  s_setQ (fun F H σ st Q k => h F H σ st Q fun v ov F1 H1 S1 g r => k v ov F1 H1 S1 g (by obtain ⟨⟨p, rfl⟩, rfl⟩ := r; exact q p)) hN hi hx hs hf

/-! ### targets -/
structure WPg (X : Cx) (tg : Expr) (v : V) (σ : L2.St) (H : Hp) (Q : L2.St → Hp → Prop) : Prop where
  run : ∀ pins s u, Inv X pins σ H s → RelV v u → wpAny (model X.prog X.w) X.A (assign tg X.env u) (fun _ s' => ∃ σ' H', Inv X pins σ' H' s' ∧ Q σ' H') X.xe s
theorem pgW (X : Cx) (tg : Expr) : PG X tg (fun v σ H Q => WPg X tg v σ H Q) := ⟨fun pins s _ _ _ u _ I r h => h.run pins s u I r⟩
theorem _root_.L2.PG.wp {tg : Expr} {t : TG} (h : PG X tg t) {v : V} {Q : L2.St → Hp → Prop} (q : t v σ H Q) : WPg X tg v σ H Q := ⟨fun pins s u I r => h.run pins s σ H v u Q I r q⟩
structure WPgs (X : Cx) (ts : List Expr) (vs : List V) (σ : L2.St) (H : Hp) (Q : L2.St → Hp → Prop) : Prop where
  run : ∀ pins s us, Inv X pins σ H s → Vals vs us → wpAny (model X.prog X.w) X.A (assignInOrder ((assignEach ts X.env).map (·.2)) us) (fun _ s' => ∃ σ' H', Inv X pins σ' H' s' ∧ Q σ' H') X.xe s
theorem pgsW (X : Cx) (ts : List Expr) : PGs X ts (fun vs σ H Q => WPgs X ts vs σ H Q) := ⟨fun pins s _ _ _ us _ I r h => h.run pins s us I r⟩
theorem _root_.L2.PGs.wp {ts : List Expr} {t : TGs} (h : PGs X ts t) {vs : List V} {Q : L2.St → Hp → Prop} (q : t vs σ H Q) : WPgs X ts vs σ H Q := ⟨fun pins s us I r => h.run pins s σ H vs us Q I r q⟩
/-- two rows of slots that part at L alone -/
def Part (L : List Nat) (σ σ' : L2.St) : Prop := σ'.length = σ.length ∧ ∀ j, j ∉ L → σ'[j]? = σ[j]?
/-- a datum is stored into a target that has the slots L -/
def Asg (X : Cx) (tg : Expr) (L : List Nat) (d : PyData) (S S' : ASt) : Prop :=
  ∀ F H σ v, XOk X F H σ S → Da F v d → ∀ Q : L2.St → Hp → Prop, (∀ σ' F' H', Stp X.prog X.w F H S F' H' σ' S' → Part L σ σ' → Q σ' H') → WPg X tg v σ H Q
def Asgs (X : Cx) (ts : List Expr) (L : List Nat) (ds : List PyData) (S S' : ASt) : Prop :=
  ∀ F H σ vs, XOk X F H σ S → Das F vs ds → ∀ Q : L2.St → Hp → Prop, (∀ σ' F' H', Stp X.prog X.w F H S F' H' σ' S' → Part L σ σ' → Q σ' H') → WPgs X ts vs σ H Q
theorem asg_name (i : Nat) {x : Str} (hN : X.N.Nodup) (hi : X.N[i]? = some x := by rfl) (hx : Loc X.env.scope x := by first | exact Or.inl rfl | exact Or.inr rfl) (hf : X.fn x = true ∨ X.env.scope.names.lookup x = some .local := by first | exact .inl rfl | exact .inr rfl | assumption) :
    Asg X (.Name x pos) [i] d S (S.set i (some (.dat d))) := fun F H σ v st w Q k => by
  refine (pg_name hN hi hx hf).wp ?_
  exact k _ F H (Got.stored (.of (.refl st) w)) ⟨by rw [List.length_set], fun j hj => List.getElem?_set_ne fun z => hj (by rw [z]; simp)⟩
theorem asgs_nil : Asgs X [] [] [] S S := fun F H σ vs st w Q k => by
  cases w
  exact pgs_nil.wp ⟨rfl, k σ F H (.refl st) ⟨rfl, fun _ _ => rfl⟩⟩
theorem asgs_cons {ts : List Expr} {L L' : List Nat} {ds : List PyData} (h : Asg X e L d S Sa) (hr : Asgs X ts L' ds Sa Sb) (hs : (assignEach (e :: ts) X.env).map (·.2) = assign e X.env :: (assignEach ts X.env).map (·.2) := by rfl) :
    Asgs X (e :: ts) (L ++ L') (d :: ds) S Sb := fun F H σ vs st w Q k => by
  cases w with
  | cons q r =>
    refine (pgs_cons (pgW X e) (pgsW X ts) hs).wp ⟨_, _, rfl, ?_⟩
    refine h F H σ _ st q _ fun σ1 F1 H1 p z => ?_
    refine hr F1 H1 σ1 _ p.st (Das.mono p.aft.ff _ _ r) _ fun σ2 F2 H2 p2 z2 => ?_
    exact k σ2 F2 H2 (p.thn p2) ⟨z2.1.trans z.1, fun j hj => (z2.2 j fun y => hj (List.mem_append_right _ y)).trans (z.2 j fun y => hj (List.mem_append_left _ y))⟩
theorem asg_tup {ts : List Expr} {L : List Nat} {ds : List PyData} {j n : Nat} (h : Asgs X ts L ds S Sa) (hl : ds.length = n) (hc : X.calm = true := by rfl) (hn : (assignEach ts X.env).length = n := by rfl) (hst : (assignEach ts X.env).findIdx? (·.1) = none := by rfl) :
    Asg X (.Tuple ts j pos) L (.tuple ds) S Sa := fun F H σ v st w Q k => by
  refine (pg_tup hc (pgsW X ts) hn hst).wp ?_
  cases w with
  | @tup a xs _ q r =>
    exact ⟨a, xs, rfl, .inl (Rd.same st.same q), by rw [r.length]; exact hl, h F H σ xs st r Q k⟩
/-- target = datum -/
theorem s_asg {tg : Expr} {L : List Nat} (h : Ev X e S d Sa) (hg : Asg X tg L d Sa Sb) (q : D.nx Sb) (hs : swapsWithSole [tg] e pos.line X.env = pure false := by rfl) (hw : swappedStores [tg] e X.env = pure none := by rfl)
    (h1 : (assignEach [tg] X.env).map (·.2) = [assign tg X.env] := by rfl) : S1 X (.Assign [tg] e pos) S D := fun F H σ st D' k => by
  refine (ps_asg (peW X e) (pgW X tg) hs hw h1).wp ?_
  refine h.use st fun v F1 H1 p w => ?_
  refine hg F1 H1 σ v p.st w _ fun σ2 F2 H2 p2 _ => ?_
  exact k.nx σ2 F2 H2 Sb (p.thn p2) q
/-- a, b = x, y, two different locals -/
theorem s_par (i j : Nat) {x y : Str} {a b : Expr} {px py pt pt2 : Pos} {kt k2 : Nat} {d1 d2 : PyData} (ha : EvA X [a, b] S [d1, d2] Sa) (hN : X.N.Nodup) (q : D.nx ((Sa.set i (some (.dat d1))).set j (some (.dat d2)))) (hw : swappedStores [.Tuple [.Name x px, .Name y py] kt pt] (.Tuple [a, b] k2 pt2) X.env = pure (some [x, y]) := by rfl)
    (hij : i ≠ j := by decide) (hi : X.N[i]? = some x := by rfl) (hj : X.N[j]? = some y := by rfl) (hx : X.env.scope.names.lookup x = some .local := by rfl) (hy : X.env.scope.names.lookup y = some .local := by rfl) (hc : X.calm = true := by rfl)
    (hs : swapsWithSole [.Tuple [.Name x px, .Name y py] kt pt] (.Tuple [a, b] k2 pt2) pos.line X.env = pure false := by rfl) : S1 X (.Assign [.Tuple [.Name x px, .Name y py] kt pt] (.Tuple [a, b] k2 pt2) pos) S D := fun F H σ st D' k => by
  refine (ps_par hc hN hi hj hij hx hy (paW X [a, b]) hw hs).wp ?_
  refine ha F H σ st _ fun vs F1 H1 p w => ?_
  cases w with
  | cons w1 r =>
    cases r with
    | cons w2 r =>
      cases r
      refine ⟨_, _, rfl, ?_⟩
      refine k.nx _ F1 H1 _ ?_ q
      have g1 : Stp X.prog X.w F H S F1 H1 _ (Sa.set i (some (.dat d1))) := Got.stored (.of p w1)
      exact Got.stored (.of g1 w2)

/-! ### what is walked -/
/-- the iterator gives the data one by one; what it makes is new and frozen -/
def Laid (F H F' H' : Hp) : Prop := (F' = F ∧ H' = H) ∨ ∃ p o, H p = none ∧ F' = upd F p o ∧ H' = upd H p o
structure ItOk (J : It) (ds : List PyData) (F0 : Hp) : Prop where
  go : ∀ F H i d, Same F0 F → Same F H → ds[i]? = some d → J.go i H ∧ ∀ x H', J.yld i H x H' → ∃ F', Laid F H F' H' ∧ Da F' x d
  stop : ∀ F H, Same F0 F → Same F H → J.stop ds.length H
def ItD (X : Cx) (tg it : Expr) (S : ASt) (ds : List PyData) (S' : ASt) : Prop :=
  ∃ wi, PI X tg it wi ∧ ∀ F H σ, XOk X F H σ S → ∀ R : It → Hp → Prop, (∀ J F1 H1, Stp X.prog X.w F H S F1 H1 σ S' → ItOk J ds F1 → R J H1) → wi σ H R
theorem Laid.stp {P : Program} {w : World} (h : Laid F H F' H') (st : StOk P w F H σ S) : Stp P w F H S F' H' σ S := by
  rcases h with ⟨rfl, rfl⟩ | ⟨p, o, hp, rfl, rfl⟩
  · exact .refl st
  · exact .frozen st hp
variable {tg it : Expr} {ds : List PyData}
theorem itl_ok {K : PySem.W.Frag} {F0 : Hp} {a : Addr} {xs : List V} (q : Rd F0 a (.lst xs)) (w : Das F0 xs ds) (inj : ∀ F H xs', Same F0 F → Same F H → SqL K H a xs' → xs' = xs) : ItOk (Itl K a) ds F0 where
  go := fun F H i d s1 s2 e => by
    obtain ⟨v, h1, h2⟩ := w.get e
    have hq : SqL K H a xs := .inl (Rd.same (s1.trans s2) q)
    refine ⟨⟨xs, v, hq, h1⟩, fun x H' y => ?_⟩
    obtain ⟨rfl, y⟩ := y
    have := y xs hq
    rw [h1] at this; cases this
    exact ⟨F, .inl ⟨rfl, rfl⟩, Da.mono s1 _ _ h2⟩
  stop := fun F H s1 s2 => ⟨xs, .inl (Rd.same (s1.trans s2) q), by rw [w.length]; exact Nat.le_refl _⟩
/-- a list of data -/
theorem it_list (h : Ev X it S (.list ds) Sa) : ItD X tg it S ds Sa := by
  refine ⟨_, pi_list (peW X it), fun F H σ st R k => ?_⟩
  refine h.use st fun v F1 H1 p w => ?_
  cases w with
  | @lst a xs _ q r =>
    refine ⟨a, rfl, ⟨xs, .inl (Rd.same p.st.same q)⟩, k _ F1 H1 p ⟨fun F2 H2 i d s1 s2 e => ?_, fun F2 H2 s1 s2 => ?_⟩⟩
    · obtain ⟨v, h1, h2⟩ := r.get e
      have hq : SqL X.K H2 a xs := .inl (Rd.same (s1.trans s2) q)
      refine ⟨⟨xs, v, hq, h1⟩, fun x H' y => ?_⟩
      obtain ⟨rfl, y⟩ := y
      have := y xs hq
      rw [h1] at this; cases this
      exact ⟨F2, .inl ⟨rfl, rfl⟩, Da.mono s1 _ _ h2⟩
    · exact ⟨xs, .inl (Rd.same (s1.trans s2) q), by rw [r.length]; exact Nat.le_refl _⟩
theorem it_tup (h : Ev X it S (.tuple ds) Sa) : ItD X tg it S ds Sa := by
  refine ⟨_, pi_tup (peW X it), fun F H σ st R k => ?_⟩
  refine h.use st fun v F1 H1 p w => ?_
  cases w with
  | @tup a xs _ q r =>
    refine ⟨a, rfl, ⟨xs, .inl (Rd.same p.st.same q)⟩, k _ F1 H1 p ⟨fun F2 H2 i d s1 s2 e => ?_, fun F2 H2 s1 s2 => ?_⟩⟩
    · obtain ⟨v, h1, h2⟩ := r.get e
      have hq : SqT X.K H2 a xs := .inl (Rd.same (s1.trans s2) q)
      refine ⟨⟨xs, v, hq, h1⟩, fun x H' y => ?_⟩
      obtain ⟨rfl, y⟩ := y
      have := y xs hq
      rw [h1] at this; cases this
      exact ⟨F2, .inl ⟨rfl, rfl⟩, Da.mono s1 _ _ h2⟩
    · exact ⟨xs, .inl (Rd.same (s1.trans s2) q), by rw [r.length]; exact Nat.le_refl _⟩
/-- the numbers below n -/
theorem it_seq (h : Ev X it S d Sa) (hd : d = .list ds ∨ d = .tuple ds) : ItD X tg it S ds Sa := by
  rcases hd with rfl | rfl
  · exact it_list h
  · exact it_tup h
def upTo (n : Nat) : List PyData := (List.range n).map fun i => .int (i : Nat)
theorem upTo_get {n i : Nat} (h : i < n) : (upTo n)[i]? = some (.int (i : Nat)) := by
  unfold upTo
  rw [List.getElem?_map, List.getElem?_range h]; rfl
theorem upTo_len {n : Nat} : (upTo n).length = n := by unfold upTo; rw [List.length_map, List.length_range]
theorem upTo_lt {n i : Nat} {d : PyData} (h : (upTo n)[i]? = some d) : i < n ∧ d = .int (i : Nat) := by
  have hl : i < (upTo n).length := (List.getElem?_eq_some_iff.mp h).1
  rw [upTo_len] at hl
  rw [upTo_get hl] at h
  exact ⟨hl, (Option.some.inj h).symm⟩
theorem it_range {a : Expr} {n : Nat} {p : Pos} (h : Ev X a S (.int (n : Nat)) Sa) (hm : X.mg "range" = none) (hz : n < 2 ^ 62) (hg : Gl X "range" := by rfl) (hs : starEach [a] X.env = (false, eval a X.env) :: starEach [] X.env := by exact star_plain rfl) (hs1 : starEach [a] X.env = [(false, eval a X.env)] := by exact star_plain rfl) :
    ItD X tg (.Call (.Name "range" p) [a] [] pos) S (upTo n) Sa := by
  refine ⟨_, pi_range1 hg hm (paW X [a]) hs1, fun F H σ st R k => ?_⟩
  refine (eva_cons h eva_nil hs) F H σ st _ fun vs F1 H1 p w => ?_
  cases w with
  | cons w1 r =>
    cases r
    cases w1
    refine ⟨_, rfl, by omega, by omega, ?_⟩
    rw [Int.toNat_natCast]
    refine k _ F1 H1 p ⟨fun F2 H2 i d s1 s2 e => ?_, fun F2 H2 s1 s2 => ?_⟩
    · obtain ⟨hi, rfl⟩ := upTo_lt e
      refine ⟨hi, fun x H' y => ?_⟩
      obtain ⟨rfl, rfl⟩ := y
      exact ⟨F2, .inl ⟨rfl, rfl⟩, by rw [Int.zero_add]; exact .int _⟩
    · show n ≤ (upTo n).length
      rw [upTo_len]; exact Nat.le_refl _
/-- the signs of a text -/
def signs (x : Str) : List PyData := x.cps.toList.map fun c => .str ⟨#[c]⟩
theorem it_str {x : Str} (h : Ev X it S (.str x) Sa) : ItD X tg it S (signs x) Sa := by
  refine ⟨_, pi_str (peW X it), fun F H σ st R k => ?_⟩
  refine h.use st fun v F1 H1 p w => ?_
  cases w
  refine ⟨x, rfl, k _ F1 H1 p ⟨fun F2 H2 i d s1 s2 e => ?_, fun F2 H2 s1 s2 => ?_⟩⟩
  · unfold signs at e
    rw [List.getElem?_map, Array.getElem?_toList] at e
    cases hc : x.cps[i]? with
    | none => rw [hc] at e; cases e
    | some c =>
      rw [hc] at e; cases e
      have hlt : i < x.cps.size := (Array.getElem?_eq_some_iff.mp hc).1
      refine ⟨hlt, fun y H' z => ?_⟩
      obtain ⟨rfl, c', h1, rfl⟩ := z
      rw [hc] at h1; cases h1
      exact ⟨F2, .inl ⟨rfl, rfl⟩, .str _⟩
  · show x.cps.size ≤ (signs x).length
    unfold signs; rw [List.length_map, Array.length_toList]; exact Nat.le_refl _

/-! ### for -/
theorem s_for (L : List Nat) {body : List Stmt} (I : Nat → ASt → Prop) (hi : ItD X tg it S ds Sa) (h0 : I 0 Sa)
    (hs : ∀ i d S', ds[i]? = some d → I i S' → ∃ S2, Asg X tg L d S' S2 ∧ SX X body S2 { D with nx := I (i + 1), ct := I (i + 1), bk := D.nx })
    (hd : ∀ S', I ds.length S' → D.nx S') (hp : PassesOwn (model X.prog X.w) X.A X.env X.xe := by exact PassesOwn.never) (hc : X.calm = true := by rfl) (hf : ∀ x, foldedSetIterable it X.env x = pure x := by intro _; rfl) : S1 X (.For tg it body [] pos) S D := fun F H σ st D' k => by
  obtain ⟨wi, h1, h2⟩ := hi
  refine (ps_for hp hc h1 (pgW X tg) (pssW X body) hf).wp ?_
  refine h2 F H σ st _ fun J F1 H1 p ok => ?_
  refine ⟨fun i m σ' H' => m = ds.length - i ∧ i ≤ ds.length ∧ ∃ F' S', Stp X.prog X.w F1 H1 Sa F' H' σ' S' ∧ I i S', ⟨ds.length, by simp, Nat.zero_le _, F1, Sa, .refl p.st, h0⟩, ?_⟩
  rintro i m σ' H' ⟨rfl, hle, F', S', p', hI⟩
  by_cases hlt : i < ds.length
  · right
    obtain ⟨g1, g2⟩ := ok.go F' H' i ds[i] p'.aft.ff p'.st.same (List.getElem?_eq_getElem hlt)
    refine ⟨g1, fun σ2 H2 => ∃ F2 S2, Stp X.prog X.w F1 H1 Sa F2 H2 σ2 S2 ∧ I (i + 1) S2, fun σ2 H2 ⟨F2, S2, q, hq⟩ => ⟨ds.length - (i + 1), by omega, rfl, hlt, F2, S2, q, hq⟩, fun x H2 y => ?_⟩
    obtain ⟨F2, l, w⟩ := g2 x H2 y
    have p2 := p'.thn (l.stp p'.st)
    obtain ⟨S2, ha, hb⟩ := hs i ds[i] S' (List.getElem?_eq_getElem hlt) hI
    refine ha F2 H2 σ' x p2.st w _ fun σ3 F3 H3 p3 _ => ?_
    have p4 := p2.thn p3
    refine hb F3 H3 σ3 p3.st _ ⟨fun σ5 F5 H5 S5 p5 h5 => ⟨F5, S5, p4.thn p5, h5⟩, fun σ5 F5 H5 S5 v ov g5 h5 => ?_, fun σ5 F5 H5 S5 p5 h5 => ?_, fun σ5 F5 H5 S5 p5 h5 => ⟨F5, S5, p4.thn p5, h5⟩⟩
    · exact k.rt σ5 F5 H5 S5 v ov (.thn (p.thn p4) g5) h5
    · exact k.nx σ5 F5 H5 S5 ((p.thn p4).thn p5) h5
  · left
    have e : i = ds.length := by omega
    subst e
    exact ⟨ok.stop F' H' p'.aft.ff p'.st.same, k.nx σ' F' H' S' (p.thn p') (hd S' hI)⟩
/-! ### while -/
theorem s_while {c : Expr} {body : List Stmt} (I : Nat → ASt → Prop) (m0 : Nat) (h0 : I m0 S)
    (hs : ∀ m S', I m S' → ∃ b S2, EvT X c S' b S2 ∧ (b = true → SX X body S2 { D with nx := fun S3 => ∃ m', m' < m ∧ I m' S3, ct := fun S3 => ∃ m', m' < m ∧ I m' S3, bk := D.nx }) ∧ (b = false → D.nx S2))
    (hp : PassesOwn (model X.prog X.w) X.A X.env X.xe := by exact PassesOwn.never) : S1 X (.While c body [] pos) S D := fun F H σ st D' k => by
  refine (ps_while hp (ptW X c) (pssW X body)).wp ?_
  refine ⟨fun m σ' H' => ∃ F' S', Stp X.prog X.w F H S F' H' σ' S' ∧ I m S', ⟨m0, F, S, .refl st, h0⟩, ?_⟩
  rintro m σ' H' ⟨F', S', p, hI⟩
  obtain ⟨b, S2, ht, hb, hn⟩ := hs m S' hI
  refine ht F' H' σ' p.st _ fun F2 H2 p2 => ?_
  have p3 := p.thn p2
  cases b with
  | true =>
    rw [if_pos rfl]
    refine ⟨fun σ5 H5 => ∃ m', m' < m ∧ ∃ F5 S5, Stp X.prog X.w F H S F5 H5 σ5 S5 ∧ I m' S5, fun σ5 H5 h => h, ?_⟩
    refine hb rfl F2 H2 σ' p2.st _ ⟨fun σ5 F5 H5 S5 p5 h5 => ?_, fun σ5 F5 H5 S5 v ov g5 h5 => k.rt σ5 F5 H5 S5 v ov (.thn p3 g5) h5, fun σ5 F5 H5 S5 p5 h5 => k.nx σ5 F5 H5 S5 (p3.thn p5) h5, fun σ5 F5 H5 S5 p5 h5 => ?_⟩
    · obtain ⟨m', hm, h⟩ := h5
      exact ⟨m', hm, F5, S5, p3.thn p5, h⟩
    · obtain ⟨m', hm, h⟩ := h5
      exact ⟨m', hm, F5, S5, p3.thn p5, h⟩
  | false =>
    rw [if_neg Bool.false_ne_true]
    exact k.nx σ' F2 H2 S2 p3 (hn rfl)
end
end SH
/-! SHd: comprehensions; the defs' contracts and their calls. -/
namespace SH
open PySem PySem.Spec PyProof.Rows L2

/-! ### comprehensions -/
/-- the slots at L given up -/
def wipeA (S : ASt) : List Nat → ASt
  | [] => S
  | v :: vs => (wipeA S vs).set v none
section
variable {X : Cx} {F F' F1 H H' H1 : Hp} {σ σ1 σ' : L2.St} {S S' Sa Sb : ASt} {e : Expr} {d : PyData} {pos : Pos}
theorem wipeA_len (S : ASt) : ∀ L : List Nat, (wipeA S L).length = S.length
  | [] => rfl
  | v :: vs => by unfold wipeA; rw [List.length_set, wipeA_len S vs]
theorem wipeA_get {i : Nat} {ov : OV} : ∀ {L : List Nat}, (wipeA S L)[i]? = some (some ov) → S[i]? = some (some ov) ∧ i ∉ L
  | [], h => ⟨h, by simp⟩
  | v :: vs, h => by
    unfold wipeA at h
    by_cases hi : v = i
    · subst hi
      by_cases hl : v < (wipeA S vs).length
      · rw [List.getElem?_set_self hl] at h; cases h
      · rw [List.getElem?_eq_none (by rw [List.length_set]; omega)] at h; cases h
    · rw [List.getElem?_set_ne hi] at h
      obtain ⟨h1, h2⟩ := wipeA_get h
      exact ⟨h1, fun z => by rcases List.mem_cons.mp z with q | q; exact hi q.symm; exact h2 q⟩
theorem StOk.wipe {P : Program} {w : World} (st : StOk P w F H σ S) : ∀ L : List Nat, StOk P w F H σ (wipeA S L)
  | [] => st
  | v :: vs => (StOk.wipe st vs).drop
theorem feet_wipe {b : Addr} : ∀ {L : List Nat}, inFeet (wipeA S L) b → inFeet S b
  | [], h => h
  | v :: vs, h => feet_wipe (L := vs) (feet_drop h)
/-- only the held slots matter -/
theorem StOk.other {P : Program} {w : World} (st : StOk P w F H σ S) (hl : σ'.length = σ.length) (h : ∀ (i : Nat) (ov : OV), S[i]? = some (some ov) → σ'[i]? = σ[i]?) : StOk P w F H σ' S where
  same := st.same
  len := by rw [hl]; exact st.len
  slot := fun i ov e => by
    obtain ⟨v, h1, h2⟩ := st.slot i ov e
    exact ⟨v, by rw [h i ov e]; exact h1, h2⟩
  nd := st.nd
  apart := st.apart
  free := st.free
theorem wipe_out' {σ : L2.St} {i : Nat} : ∀ {L : List Nat}, i ∉ L → (wipe σ L)[i]? = σ[i]?
  | [], _ => rfl
  | v :: vs, h => by
    unfold wipe
    rw [List.getElem?_set_ne (fun z => h (by rw [z]; simp)), wipe_out' fun z => h (List.mem_cons_of_mem _ z)]
theorem wipe_in {σ : L2.St} {i : Nat} : ∀ {L : List Nat}, i ∈ L → (wipe σ L)[i]? = if i < σ.length then some none else none
  | v :: vs, h => by
    unfold wipe
    by_cases hv : v = i
    · subst hv
      by_cases hl : v < σ.length
      · rw [List.getElem?_set_self (by rw [wipe_length]; exact hl), if_pos hl]
      · rw [List.getElem?_eq_none (by rw [List.length_set, wipe_length]; omega), if_neg hl]
    · rw [List.getElem?_set_ne hv]
      rcases List.mem_cons.mp h with q | q
      · exact absurd q.symm hv
      · exact wipe_in q
theorem wipe_part {L : List Nat} {L' : List Nat} (h : Part L' σ σ') (hs : ∀ j ∈ L', j ∈ L) : wipe σ' L = wipe σ L := by
  apply List.ext_getElem?
  intro i
  by_cases hi : i ∈ L
  · rw [wipe_in hi, wipe_in hi, h.1]
  · rw [wipe_out' hi, wipe_out' hi]
    exact h.2 i fun z => hi (hs i z)
theorem wipe_wipe {L : List Nat} : wipe (wipe σ L) L = wipe σ L := by
  apply List.ext_getElem?
  intro i
  by_cases hi : i ∈ L
  · rw [wipe_in hi, wipe_in hi, wipe_length]
  · rw [wipe_out' hi]

/-- the tests of a clause -/
structure WPts (X : Cx) (ifs : List Expr) (σ : L2.St) (H : Hp) (Q : Bool → Hp → Prop) : Prop where
  run : ∀ pins s, Inv X pins σ H s → wpAny (model X.prog X.w) X.A (forIn ifs true fun c r => if r = true then do let ok ← isTrue c X.env (eval c X.env); pure (ForInStep.yield ok) else pure (ForInStep.yield r)) (TP X pins σ Q) X.xe s
def EvTs (X : Cx) (ifs : List Expr) (S : ASt) (b : Bool) (S' : ASt) : Prop :=
  ∀ F H σ, XOk X F H σ S → ∀ Q : Bool → Hp → Prop, (∀ F' H', Stp X.prog X.w F H S F' H' σ S' → Q b H') → WPts X ifs σ H Q
theorem evts_nil : EvTs X [] S true S := fun F H σ st Q k => ⟨fun pins s I => pts_nil.run pins s σ H Q I (k F H (.refl st))⟩
theorem evts_one {b : Bool} (h : EvT X e S b Sa) : EvTs X [e] S b Sa := fun F H σ st Q k => ⟨fun pins s I => (pts_one (ptW X e)).run pins s σ H Q I (h F H σ st Q k)⟩
/-- a block of a comprehension in X -/
def IsBlk (X : Cx) (scope : Scope) (Y : Cx) : Prop := ∃ (s : Shared) (H : Hp) (C : Addr) (cl : List (Str × Addr)) (fp : List Addr), Y = X.blk s H scope (compEnvC scope cl C X.env) fp
/-- what holds of one turn: the acc so far and the state ahead; behind it the word again -/
def LcTurn (B : Cx → Prop) (tg elt : Expr) (ifs : List Expr) (vs : List Nat) (I : Nat → List PyData → ASt → Prop) (i : Nat) (d : PyData) (acc : List PyData) (S' : ASt) : Prop :=
  ∃ L S2 b S3, (∀ j ∈ L, j ∈ vs) ∧ (∀ Y, B Y → Asg Y tg L d S' S2) ∧ (∀ Y, B Y → EvTs Y ifs S2 b S3) ∧ (b = false → I (i + 1) acc (wipeA S3 vs)) ∧ (b = true → ∃ r S4, (∀ Y, B Y → Ev Y elt S3 r S4) ∧ acc.length < sizeLine ∧ I (i + 1) (acc ++ [r]) (wipeA S4 vs))
variable {tg it elt : Expr} {ifs : List Expr} {scope : Scope} {own : List (Str × Nat)} {ds rs : List PyData}
theorem Stp.write {P : Program} {w : World} {D : Addr} {o : HO} (p : Stp P w F H S F1 H1 σ Sa) (hD : H D = none) (hf : F1 D = none) (hn : ¬ inFeet Sa D) : Stp P w F H S F1 (upd H1 D o) σ Sa where
  st := p.st.keep (Same.refl _) (fun b u e => by rw [upd_ne (fun z => by rw [z, hf] at e; cases e)]; exact p.st.same b u e) p.st.free fun b u hb e => by rw [upd_ne (fun z => by rw [z] at hb; exact hn hb)]; exact e
  aft := ⟨p.aft.ff, p.aft.nf, fun b u e nb => by rw [upd_ne (ne_new hD e)]; exact p.aft.kp b u e nb, fun b u e => by rw [upd_ne (ne_new hD e)]; exact p.aft.tr b u e⟩
  gr := p.gr
theorem wipeA_wipeA {L : List Nat} : wipeA (wipeA S L) L = wipeA S L := by
  have get : ∀ (L : List Nat) (S : ASt) (i : Nat), (wipeA S L)[i]? = if i ∈ L then (if i < S.length then some none else none) else S[i]? := by
    intro L
    induction L with
    | nil => intro S i; simp [wipeA]
    | cons v vs ih =>
      intro S i
      unfold wipeA
      by_cases hv : v = i
      · subst hv
        rw [if_pos (by simp)]
        by_cases hl : v < S.length
        · rw [List.getElem?_set_self (by rw [wipeA_len]; exact hl), if_pos hl]
        · rw [List.getElem?_eq_none (by rw [List.length_set, wipeA_len]; omega), if_neg hl]
      · rw [List.getElem?_set_ne hv, ih]
        have e : (i ∈ v :: vs) = (i ∈ vs) := by
          simp only [List.mem_cons, eq_iff_iff]
          exact ⟨fun z => z.elim (fun q => absurd q.symm hv) id, .inr⟩
        simp only [e]
  apply List.ext_getElem?
  intro i
  rw [get, get, wipeA_len]
  split <;> rfl
theorem lc_body (I : Nat → List PyData → ASt → Prop) (hi : ItD X tg it S ds Sa) (hw : wipeA Sa (own.map (·.2)) = Sa) (h0 : I 0 [] Sa)
    (hs : ∀ i d acc S', ds[i]? = some d → I i acc S' → wipeA S' (own.map (·.2)) = S' → LcTurn (IsBlk X scope) tg elt ifs (own.map (·.2)) I i d acc S')
    (hd : ∀ acc S', I ds.length acc S' → acc = rs ∧ S' = Sb) :
    ∃ wi, PI X tg it wi ∧ ∀ F H σ, XOk X F H σ S → ∀ Q : VK, (∀ v ov F' H' S', Got X.prog X.w F H S F' H' σ S' v ov → ((∃ p, ov = .lst p rs) ∧ S' = Sb) → Q v H') →
      tLc wi (fun v σ H Q => ∀ s H0 C cl fp, WPg (X.blk s H0 scope (compEnvC scope cl C X.env) fp) tg v σ H Q) (fun σ H Q => ∀ s H0 C cl fp, WPts (X.blk s H0 scope (compEnvC scope cl C X.env) fp) ifs σ H Q)
      (fun σ H Q => ∀ s H0 C cl fp, WPe (X.blk s H0 scope (compEnvC scope cl C X.env) fp) elt σ H Q) (own.map (·.2)) σ H Q := by
  obtain ⟨wi, h1, h2⟩ := hi
  refine ⟨wi, h1, fun F H σ st Q q => ?_⟩
  generalize hvs : own.map (·.2) = vs at hw hs ⊢
  refine h2 F H σ st _ fun J F1 H1 p ok D hD => ?_
  have held : ∀ {S' : ASt}, wipeA S' vs = S' → ∀ (i : Nat) (ov : OV), S'[i]? = some (some ov) → i ∉ vs := fun e i ov h => (wipeA_get (L := vs) (by rw [e]; exact h)).2
  have stw : XOk X F1 H1 (wipe σ vs) Sa := p.st.other (wipe_length σ vs) fun i ov h => wipe_out' (held hw i ov h)
  have pD : F1 D = none := p.st.fnone hD
  refine ⟨fun i m H' => m = ds.length - i ∧ i ≤ ds.length ∧ ∃ F' S' acc ws, Stp X.prog X.w F1 H1 Sa F' H' (wipe σ vs) S' ∧ H' D = some (.lst ws) ∧ Das F' ws acc ∧ F' D = none ∧ ¬ inFeet S' D ∧ I i acc S' ∧ wipeA S' vs = S',
    ⟨ds.length, by simp, Nat.zero_le _, F1, Sa, [], [], ⟨stw.laid hD, .laid hD, .refl⟩, upd_same, .nil, pD, p.st.new_free hD, h0, hw⟩, ?_⟩
  rintro i m H' ⟨rfl, hle, F', S', acc, ws, p', hl, hw', hF, hn, hI, hwip⟩
  by_cases hlt : i < ds.length
  · right
    obtain ⟨g1, g2⟩ := ok.go F' H' i ds[i] p'.aft.ff p'.st.same (List.getElem?_eq_getElem hlt)
    refine ⟨g1, fun H2 => ∃ F' S' acc ws, Stp X.prog X.w F1 H1 Sa F' H2 (wipe σ vs) S' ∧ H2 D = some (.lst ws) ∧ Das F' ws acc ∧ F' D = none ∧ ¬ inFeet S' D ∧ I (i + 1) acc S' ∧ wipeA S' vs = S', fun H2 h => ⟨ds.length - (i + 1), by omega, rfl, hlt, h⟩, fun x H2 y => ?_⟩
    obtain ⟨F2, l, wd⟩ := g2 x H2 y
    have pl := l.stp p'.st
    obtain ⟨L, S2, b, S3, hL, hA, hT, hb0, hb1⟩ := hs i ds[i] acc S' (List.getElem?_eq_getElem hlt) hI hwip
    intro s H0 C cl fp
    refine hA _ ⟨s, H0, C, cl, fp, rfl⟩ F2 H2 (wipe σ vs) x pl.st wd _ fun σ3 F3 H3 p3 hpart => ?_
    have hw3 : wipe σ3 vs = wipe σ vs := (wipe_part hpart hL).trans wipe_wipe
    refine ⟨hw3, ?_⟩
    intro s H0 C cl fp
    have p3' : Stp X.prog X.w F' H' S' F3 H3 σ3 S2 := pl.thn ⟨p3.st, p3.aft, p3.gr⟩
    refine hT _ ⟨s, H0, C, cl, fp, rfl⟩ F3 H3 σ3 p3.st _ fun F4 H4 p4 => ?_
    have p4' : Stp X.prog X.w F' H' S' F4 H4 σ3 S3 := p3'.thn ⟨p4.st, p4.aft, p4.gr⟩
    -- what the list is behind
    have stay : ∀ {F5 H5 : Hp} {S5 : ASt}, Stp X.prog X.w F' H' S' F5 H5 σ3 S5 → H5 D = some (.lst ws) ∧ F5 D = none ∧ ¬ inFeet S5 D := fun {F5 H5 S5} q => by
      refine ⟨q.aft.kp D _ hl hn, by rw [q.aft.nf D _ hl hn]; exact hF, fun z => ?_⟩
      rcases q.gr D z with y | y
      · exact hn y
      · rw [hl] at y; cases y
    -- back to the slots of the block's start
    have back : ∀ {F5 H5 : Hp} {S5 : ASt}, Stp X.prog X.w F' H' S' F5 H5 σ3 S5 → Stp X.prog X.w F1 H1 Sa F5 H5 (wipe σ vs) (wipeA S5 vs) := fun {F5 H5 S5} q => by
      have q2 := p'.thn q
      refine ⟨(q2.st.wipe vs).other (by rw [← hw3, wipe_length]) fun j ov h => ?_, q2.aft, fun b hb => q2.gr b (feet_wipe hb)⟩
      rw [← hw3]
      exact wipe_out' (wipeA_get h).2
    cases b with
    | false =>
      rw [if_neg Bool.false_ne_true]
      obtain ⟨z1, z2, z3⟩ := stay p4'
      exact ⟨F4, _, acc, ws, back p4', z1, Das.mono p4'.aft.ff _ _ hw', z2, fun z => z3 (feet_wipe z), hb0 rfl, wipeA_wipeA⟩
    | true =>
      rw [if_pos rfl]
      obtain ⟨r, S4, hE, hz, hI'⟩ := hb1 rfl
      intro s H0 C cl fp
      refine (hE _ ⟨s, H0, C, cl, fp, rfl⟩).use p4.st fun v F5 H5 p5 w5 => ?_
      have p5' : Stp X.prog X.w F' H' S' F5 H5 σ3 S4 := p4'.thn ⟨p5.st, p5.aft, p5.gr⟩
      obtain ⟨z1, z2, z3⟩ := stay p5'
      refine ⟨ws, z1, by rw [hw'.length]; exact hz, F5, _, acc ++ [r], ws ++ [v], ?_, upd_same, .append (Das.mono p5'.aft.ff _ _ hw') (.cons w5 .nil), z2, fun z => z3 (feet_wipe z), hI', wipeA_wipeA⟩
      exact (back p5').write hD z2 fun z => z3 (feet_wipe z)
  · left
    have e : i = ds.length := by omega
    subst e
    refine ⟨ok.stop F' H' p'.aft.ff p'.st.same, ?_⟩
    obtain ⟨rfl, rfl⟩ := hd acc S' hI
    refine q _ (.lst D acc) F' H' S' ?_ ⟨⟨D, rfl⟩, rfl⟩
    have pp : Stp X.prog X.w F1 H1 Sa F' H' σ S' := ⟨p'.st.other (by rw [wipe_length]) fun j ov h => (wipe_out' (held hwip j ov h)).symm, p'.aft, p'.gr⟩
    have p2 := p.thn pp
    refine ⟨p2.st, .lst hl hw', by simp [foot], fun b hb => ?_, p2.aft, p2.gr, fun b hb => ?_⟩
    · simp only [foot, List.mem_singleton] at hb
      subst hb; exact ⟨hF, hn⟩
    · simp only [foot, List.mem_singleton] at hb
      subst hb
      right
      cases z : H b with
      | none => rfl
      | some o =>
        obtain ⟨o', e'⟩ := p.aft.tr b o z
        rw [hD] at e'; cases e'
theorem evo_lc (I : Nat → List PyData → ASt → Prop) (hi : ItD X tg it S ds Sa) (ok : BlkOk X.N X.env.scope scope own) (hw : wipeA Sa (own.map (·.2)) = Sa) (h0 : I 0 [] Sa)
    (hs : ∀ i d acc S', ds[i]? = some d → I i acc S' → wipeA S' (own.map (·.2)) = S' → LcTurn (IsBlk X scope) tg elt ifs (own.map (·.2)) I i d acc S')
    (hd : ∀ acc S', I ds.length acc S' → acc = rs ∧ S' = Sb) (hN : X.N.Nodup) (hc : X.calm = true := by rfl) (hf : ∀ x, foldedSetIterable it X.env x = pure x := by intro _; rfl) :
    EvO X (.ListComp elt [⟨tg, it, ifs, 0⟩] scope pos) S (fun p => .lst p rs) Sb := by
  obtain ⟨wi, h1, h2⟩ := lc_body I hi hw h0 hs hd
  intro F H σ st Q q
  refine (pe_lc (own := own) (g := fun v σ H Q => ∀ s H0 C cl fp, WPg (X.blk s H0 scope (compEnvC scope cl C X.env) fp) tg v σ H Q) (tt := fun σ H Q => ∀ s H0 C cl fp, WPts (X.blk s H0 scope (compEnvC scope cl C X.env) fp) ifs σ H Q)
    (te := fun σ H Q => ∀ s H0 C cl fp, WPe (X.blk s H0 scope (compEnvC scope cl C X.env) fp) elt σ H Q) hc hN h1 ok (fun s H0 C cl fp => ⟨fun pins s' σ' H' v u Q' I' r h => (h s H0 C cl fp).run pins s' u I' r⟩) (fun s H0 C cl fp => ⟨fun pins s' σ' H' Q' I' h => (h s H0 C cl fp).run pins s' I'⟩) (fun s H0 C cl fp => ⟨fun pins s' σ' H' Q' I' h => (h s H0 C cl fp).run pins s' I'⟩) hf).wp ?_
  exact h2 F H σ st Q fun v ov F' H' S' g r => q v ov F' H' S' g ⟨r.1, r.2⟩
/-- name = [..] on one line -/
theorem s_setLc (i : Nat) {y : Str} {py spos : Pos} {D : AE} (I : Nat → List PyData → ASt → Prop) (hi : ItD X tg it S ds Sa) (ok : BlkOk X.N X.env.scope scope own) (hw : wipeA Sa (own.map (·.2)) = Sa) (h0 : I 0 [] Sa)
    (hs : ∀ i d acc S', ds[i]? = some d → I i acc S' → wipeA S' (own.map (·.2)) = S' → LcTurn (IsBlk X scope) tg elt ifs (own.map (·.2)) I i d acc S')
    (hd : ∀ acc S', I ds.length acc S' → acc = rs ∧ S' = Sb) (hN : X.N.Nodup) (q : ∀ p, D.nx (Sb.set i (some (.lst p rs)))) (hsw : swapsWith (.ListComp elt [⟨tg, it, ifs, 0⟩] scope pos) (some (.Name y py)) spos.line X.env = pure true)
    (hy : X.N[i]? = some y := by rfl) (hyl : X.env.scope.names.lookup y = some .local := by rfl) (hc : X.calm = true := by rfl) (hf : ∀ x, foldedSetIterable it X.env x = pure x := by intro _; rfl) :
    S1 X (.Assign [.Name y py] (.ListComp elt [⟨tg, it, ifs, 0⟩] scope pos) spos) S D := by
  obtain ⟨wi, h1, h2⟩ := lc_body I hi hw h0 hs hd
  intro F H σ st D' k
  refine (ps_setLc (own := own) (i := i) (g := fun v σ H Q => ∀ s H0 C cl fp, WPg (X.blk s H0 scope (compEnvC scope cl C X.env) fp) tg v σ H Q) (tt := fun σ H Q => ∀ s H0 C cl fp, WPts (X.blk s H0 scope (compEnvC scope cl C X.env) fp) ifs σ H Q)
    (te := fun σ H Q => ∀ s H0 C cl fp, WPe (X.blk s H0 scope (compEnvC scope cl C X.env) fp) elt σ H Q) hc hN hy hyl hsw h1 ok (fun s H0 C cl fp => ⟨fun pins s' σ' H' v u Q' I' r h => (h s H0 C cl fp).run pins s' u I' r⟩) (fun s H0 C cl fp => ⟨fun pins s' σ' H' Q' I' h => (h s H0 C cl fp).run pins s' I'⟩) (fun s H0 C cl fp => ⟨fun pins s' σ' H' Q' I' h => (h s H0 C cl fp).run pins s' I'⟩) hf).wp ?_
  refine h2 F H σ st _ fun v ov F' H' S' g r => ?_
  obtain ⟨⟨p, rfl⟩, rfl⟩ := r
  exact k.nx _ F' H' _ g.stored (q p)
/-- the turns where the state stays: the elements f -/
theorem map_turns (f : Nat → PyData → PyData) (hs : ∀ i d, ds[i]? = some d → ∃ L S2 S4, (∀ j ∈ L, j ∈ own.map (·.2)) ∧ (∀ Y, IsBlk X scope Y → Asg Y tg L d Sa S2) ∧ (∀ Y, IsBlk X scope Y → Ev Y elt S2 (f i d) S4) ∧ wipeA S4 (own.map (·.2)) = Sa) (hz : ds.length ≤ sizeLine) :
    ∀ i d acc S', ds[i]? = some d → (i ≤ ds.length ∧ acc = (ds.mapIdx f).take i ∧ S' = Sa) → wipeA S' (own.map (·.2)) = S' → LcTurn (IsBlk X scope) tg elt [] (own.map (·.2)) (fun i acc S' => i ≤ ds.length ∧ acc = (ds.mapIdx f).take i ∧ S' = Sa) i d acc S' := by
  rintro i d acc S' e ⟨_, ha, hS⟩ _
  subst hS
  obtain ⟨L, S2, S4, hL, hA, hE, hwp⟩ := hs i d e
  have hlt : i < ds.length := (List.getElem?_eq_some_iff.mp e).1
  refine ⟨L, S2, true, S2, hL, hA, fun Y hY => evts_nil, fun h => (nomatch h), fun _ => ⟨f i d, S4, hE, ?_, ?_⟩⟩
  · rw [ha, List.length_take, List.length_mapIdx]; omega
  · refine ⟨hlt, ?_, hwp⟩
    rw [ha, List.take_add_one, List.getElem?_mapIdx, e]; rfl
theorem map_end (f : Nat → PyData → PyData) : ∀ acc S', (ds.length ≤ ds.length ∧ acc = (ds.mapIdx f).take ds.length ∧ S' = Sa) → acc = ds.mapIdx f ∧ S' = Sa := fun acc S' ⟨_, ha, hS⟩ =>
  ⟨by rw [ha, List.take_of_length_le (by rw [List.length_mapIdx]; exact Nat.le_refl _)], hS⟩
theorem wipeA_one {v : Nat} {x : Option OV} (h : S[v]? = some none) : wipeA (S.set v x) [v] = S := by
  show (S.set v x).set v none = S
  rw [List.set_set]
  apply List.ext_getElem?
  intro i
  by_cases hi : v = i
  · subst hi
    rw [h, List.getElem?_set_self (List.getElem?_eq_some_iff.mp h).1]
  · rw [List.getElem?_set_ne hi]
theorem wipeA_id {v : Nat} (h : S[v]? = some none) : wipeA S [v] = S := by
  have := wipeA_one (x := none) h
  rw [show S.set v none = S from ?_] at this
  · exact this
  · have e := wipeA_one (x := none) h
    rw [show wipeA (S.set v none) [v] = (S.set v none).set v none from rfl, List.set_set] at e
    exact e
theorem wipeA_two {v u : Nat} {x y : Option OV} (h : S[v]? = some none) (h2 : S[u]? = some none) (hvu : v ≠ u) : wipeA ((S.set v x).set u y) [v, u] = S := by
  show (((S.set v x).set u y).set u none).set v none = S
  rw [List.set_set]
  apply List.ext_getElem?
  intro i
  by_cases hi : v = i
  · subst hi
    rw [List.getElem?_set_self (by rw [List.length_set, List.length_set]; exact (List.getElem?_eq_some_iff.mp h).1), h]
  · rw [List.getElem?_set_ne hi]
    by_cases hu : u = i
    · subst hu
      rw [List.getElem?_set_self (by rw [List.length_set]; exact (List.getElem?_eq_some_iff.mp h2).1), h2]
    · rw [List.getElem?_set_ne hu, List.getElem?_set_ne hi]
theorem wipeA_id2 {v u : Nat} (h : S[v]? = some none) (h2 : S[u]? = some none) (hvu : v ≠ u) : wipeA S [v, u] = S := by
  have e1 : S.set v none = S := by
    have := wipeA_id h
    exact this
  have e2 : S.set u none = S := by
    have := wipeA_id h2
    exact this
  show (S.set u none).set v none = S
  rw [e2, e1]

/-- a list comprehension that comes to rs -/
def LcIs (X : Cx) (scope : Scope) (tg it elt : Expr) (ifs : List Expr) (S : ASt) (rs : List PyData) (Sb : ASt) : Prop :=
  ∃ own : List (Str × Nat), BlkOk X.N X.env.scope scope own ∧ ∃ wi, PI X tg it wi ∧ ∀ F H σ, XOk X F H σ S → ∀ Q : VK, (∀ v ov F' H' S', Got X.prog X.w F H S F' H' σ S' v ov → ((∃ p, ov = .lst p rs) ∧ S' = Sb) → Q v H') →
      tLc wi (fun v σ H Q => ∀ s H0 C cl fp, WPg (X.blk s H0 scope (compEnvC scope cl C X.env) fp) tg v σ H Q) (fun σ H Q => ∀ s H0 C cl fp, WPts (X.blk s H0 scope (compEnvC scope cl C X.env) fp) ifs σ H Q)
      (fun σ H Q => ∀ s H0 C cl fp, WPe (X.blk s H0 scope (compEnvC scope cl C X.env) fp) elt σ H Q) (own.map (·.2)) σ H Q
theorem LcIs.to {rs' : List PyData} (h : LcIs X scope tg it elt ifs S rs Sb) (e : rs = rs') : LcIs X scope tg it elt ifs S rs' Sb := e ▸ h
theorem LcIs.evo (h : LcIs X scope tg it elt ifs S rs Sb) (hN : X.N.Nodup) (hc : X.calm = true := by rfl) (hf : ∀ x, foldedSetIterable it X.env x = pure x := by intro _; rfl) :
    EvO X (.ListComp elt [⟨tg, it, ifs, 0⟩] scope pos) S (fun p => .lst p rs) Sb := by
  obtain ⟨own, ok, wi, h1, h2⟩ := h
  intro F H σ st Q q
  refine (pe_lc (own := own) (g := fun v σ H Q => ∀ s H0 C cl fp, WPg (X.blk s H0 scope (compEnvC scope cl C X.env) fp) tg v σ H Q) (tt := fun σ H Q => ∀ s H0 C cl fp, WPts (X.blk s H0 scope (compEnvC scope cl C X.env) fp) ifs σ H Q)
    (te := fun σ H Q => ∀ s H0 C cl fp, WPe (X.blk s H0 scope (compEnvC scope cl C X.env) fp) elt σ H Q) hc hN h1 ok (fun s H0 C cl fp => ⟨fun pins s' σ' H' v u Q' I' r h => (h s H0 C cl fp).run pins s' u I' r⟩) (fun s H0 C cl fp => ⟨fun pins s' σ' H' Q' I' h => (h s H0 C cl fp).run pins s' I'⟩) (fun s H0 C cl fp => ⟨fun pins s' σ' H' Q' I' h => (h s H0 C cl fp).run pins s' I'⟩) hf).wp ?_
  exact h2 F H σ st Q fun v ov F' H' S' g r => q v ov F' H' S' g ⟨r.1, r.2⟩
theorem LcIs.ev (h : LcIs X scope tg it elt ifs S rs Sb) (hN : X.N.Nodup) (hc : X.calm = true := by rfl) (hf : ∀ x, foldedSetIterable it X.env x = pure x := by intro _; rfl) :
    Ev X (.ListComp elt [⟨tg, it, ifs, 0⟩] scope pos) S (.list rs) Sb := EvO.freeze (h.evo hN hc hf)
/-- name = [..] on one line -/
theorem LcIs.set (i : Nat) {y : Str} {py spos : Pos} {D : AE} (h : LcIs X scope tg it elt ifs S rs Sb) (hN : X.N.Nodup) (q : ∀ p, D.nx (Sb.set i (some (.lst p rs)))) (hk : X.env.scope.kind = .function := by rfl) (hln : (py.line == pos.line) = true := by rfl) (hay : (scope.names.any fun (n, k) => n == y && (k == .local || k == .cell)) = false := by rfl)
    (hy : X.N[i]? = some y := by rfl) (hyl : X.env.scope.names.lookup y = some .local := by rfl) (hc : X.calm = true := by rfl) (hf : ∀ x, foldedSetIterable it X.env x = pure x := by intro _; rfl) :
    S1 X (.Assign [.Name y py] (.ListComp elt [⟨tg, it, ifs, 0⟩] scope pos) spos) S D := by
  obtain ⟨own, ok, wi, h1, h2⟩ := h
  intro F H σ st D' k
  refine (ps_setLc (own := own) (i := i) (g := fun v σ H Q => ∀ s H0 C cl fp, WPg (X.blk s H0 scope (compEnvC scope cl C X.env) fp) tg v σ H Q) (tt := fun σ H Q => ∀ s H0 C cl fp, WPts (X.blk s H0 scope (compEnvC scope cl C X.env) fp) ifs σ H Q)
    (te := fun σ H Q => ∀ s H0 C cl fp, WPe (X.blk s H0 scope (compEnvC scope cl C X.env) fp) elt σ H Q) hc hN hy hyl (sw_true hk hyl hln hay) h1 ok (fun s H0 C cl fp => ⟨fun pins s' σ' H' v u Q' I' r h => (h s H0 C cl fp).run pins s' u I' r⟩) (fun s H0 C cl fp => ⟨fun pins s' σ' H' Q' I' h => (h s H0 C cl fp).run pins s' I'⟩) (fun s H0 C cl fp => ⟨fun pins s' σ' H' Q' I' h => (h s H0 C cl fp).run pins s' I'⟩) hf).wp ?_
  refine h2 F H σ st _ fun v ov F' H' S' g r => ?_
  obtain ⟨⟨p, rfl⟩, rfl⟩ := r
  exact k.nx _ F' H' _ g.stored (q p)
/-- .. the list frozen at once -/
theorem LcIs.setD (i : Nat) {y : Str} {py spos : Pos} {D : AE} (h : LcIs X scope tg it elt ifs S rs Sb) (hN : X.N.Nodup) (hl : i < Sb.length) (q : D.nx (Sb.set i (some (.dat (.list rs))))) (hk : X.env.scope.kind = .function := by rfl) (hln : (py.line == pos.line) = true := by rfl) (hay : (scope.names.any fun (n, k) => n == y && (k == .local || k == .cell)) = false := by rfl)
    (hy : X.N[i]? = some y := by rfl) (hyl : X.env.scope.names.lookup y = some .local := by rfl) (hc : X.calm = true := by rfl) (hf : ∀ x, foldedSetIterable it X.env x = pure x := by intro _; rfl) :
    S1 X (.Assign [.Name y py] (.ListComp elt [⟨tg, it, ifs, 0⟩] scope pos) spos) S D := fun F H σ st D' k => by
  refine h.set i hN (D := { nx := fun S' => ∃ p, S' = Sb.set i (some (.lst p rs)), rt := fun _ _ => False }) (fun p => ⟨p, rfl⟩) hk hln hay hy hyl hc hf F H σ st D' ⟨fun σ1 F1 H1 S1 p z => ?_, fun _ _ _ _ _ _ _ z => z.elim, fun _ _ _ _ _ z => z.elim, fun _ _ _ _ _ z => z.elim⟩
  obtain ⟨a, rfl⟩ := z
  obtain ⟨F', p2⟩ := p.st.freeze (List.getElem?_set_self hl)
  rw [List.set_set] at p2
  exact k.nx σ1 F' H1 _ (p.thn p2) q
theorem lc_gen (own : List (Str × Nat)) (I : Nat → List PyData → ASt → Prop) (ok : BlkOk X.N X.env.scope scope own) (hi : ItD X tg it S ds Sa) (hw : wipeA Sa (own.map (·.2)) = Sa) (h0 : I 0 [] Sa)
    (hs : ∀ i d acc S', ds[i]? = some d → I i acc S' → wipeA S' (own.map (·.2)) = S' → LcTurn (IsBlk X scope) tg elt ifs (own.map (·.2)) I i d acc S')
    (hd : ∀ acc S', I ds.length acc S' → acc = rs ∧ S' = Sb) : LcIs X scope tg it elt ifs S rs Sb := ⟨own, ok, lc_body I hi hw h0 hs hd⟩
/-- [elt for tg in it if ifs], the state stays: the targets' slots L are stored as g says, the tests are c, the element f -/
theorem lc_fil (own : List (Str × Nat)) (f : Nat → PyData → PyData) (c : Nat → PyData → Bool) (g : PyData → ASt) (ok : BlkOk X.N X.env.scope scope own) (hi : ItD X tg it S ds Sa) (hw : wipeA Sa (own.map (·.2)) = Sa)
    (ha : ∀ (i : Nat) d, ds[i]? = some d → ∃ L, (∀ j ∈ L, j ∈ own.map (·.2)) ∧ ∀ s H C cl fp, Asg (X.blk s H scope (compEnvC scope cl C X.env) fp) tg L d Sa (g d))
    (hg : ∀ (i : Nat) d, ds[i]? = some d → wipeA (g d) (own.map (·.2)) = Sa)
    (ht : ∀ i d, ds[i]? = some d → ∀ s H C cl fp, EvTs (X.blk s H scope (compEnvC scope cl C X.env) fp) ifs (g d) (c i d) (g d))
    (he : ∀ i d, ds[i]? = some d → c i d = true → ∀ s H C cl fp, Ev (X.blk s H scope (compEnvC scope cl C X.env) fp) elt (g d) (f i d) (g d)) (hz : ds.length ≤ sizeLine) :
    LcIs X scope tg it elt ifs S ((ds.zipIdx.filter fun x => c x.2 x.1).map fun x => f x.2 x.1) Sa := by
  refine lc_gen own (fun i acc S' => i ≤ ds.length ∧ acc = (((ds.zipIdx).take i).filter fun x => c x.2 x.1).map (fun x => f x.2 x.1) ∧ S' = Sa) ok hi hw ⟨Nat.zero_le _, rfl, rfl⟩ ?_ ?_
  · rintro i d acc S' e ⟨_, hacc, hS⟩ _
    subst hS
    have hlt : i < ds.length := (List.getElem?_eq_some_iff.mp e).1
    obtain ⟨L, hL, hA⟩ := ha i d e
    have step : (ds.zipIdx).take (i + 1) = (ds.zipIdx).take i ++ [(d, i)] := by
      rw [List.take_add_one, List.getElem?_zipIdx, e]
      simp
    refine ⟨L, _, c i d, _, hL, fun Y ⟨s, H, C, cl, fp, hY⟩ => by subst hY; exact hA s H C cl fp, fun Y ⟨s, H, C, cl, fp, hY⟩ => by subst hY; exact ht i d e s H C cl fp, fun h => ⟨hlt, ?_, hg i d e⟩, fun h => ⟨f i d, _, fun Y ⟨s, H, C, cl, fp, hY⟩ => by subst hY; exact he i d e h s H C cl fp, ?_, hlt, ?_, hg i d e⟩⟩
    · rw [hacc, step, List.filter_append, List.filter_cons]
      simp only [h, List.filter_nil, List.append_nil]
      simp
    · rw [hacc, List.length_map]
      refine Nat.lt_of_le_of_lt (List.length_filter_le ..) ?_
      rw [List.length_take]; omega
    · rw [hacc, step, List.filter_append, List.filter_cons]
      simp only [h, List.filter_nil, if_true]
      rw [List.map_append]; rfl
  · rintro acc S' ⟨_, hacc, hS⟩
    refine ⟨?_, hS⟩
    rw [hacc, List.take_of_length_le (by rw [List.length_zipIdx]; exact Nat.le_refl _)]
theorem lc_map (own : List (Str × Nat)) (f : Nat → PyData → PyData) (g : PyData → ASt) (ok : BlkOk X.N X.env.scope scope own) (hi : ItD X tg it S ds Sa) (hw : wipeA Sa (own.map (·.2)) = Sa)
    (ha : ∀ (i : Nat) d, ds[i]? = some d → ∃ L, (∀ j ∈ L, j ∈ own.map (·.2)) ∧ ∀ s H C cl fp, Asg (X.blk s H scope (compEnvC scope cl C X.env) fp) tg L d Sa (g d))
    (hg : ∀ (i : Nat) d, ds[i]? = some d → wipeA (g d) (own.map (·.2)) = Sa)
    (he : ∀ i d, ds[i]? = some d → ∀ s H C cl fp, Ev (X.blk s H scope (compEnvC scope cl C X.env) fp) elt (g d) (f i d) (g d)) (hz : ds.length ≤ sizeLine) :
    LcIs X scope tg it elt [] S (ds.mapIdx f) Sa := by
  refine (lc_fil own f (fun _ _ => true) g ok hi hw ha hg (fun _ _ _ _ _ _ _ _ => evts_nil) (fun i d e _ => he i d e) hz).to ?_
  rw [List.mapIdx_eq_zipIdx_map]
  congr 1
  exact List.filter_eq_self.mpr fun _ _ => rfl
/-- one name as the target -/
theorem lc_map1 (v : Nat) {x : Str} {tpos : Pos} (f : Nat → PyData → PyData) (hi : ItD X (.Name x tpos) it S ds Sa) (ok : BlkOk X.N X.env.scope scope [(x, v)]) (hn : Sa[v]? = some none)
    (hs : ∀ i d, ds[i]? = some d → ∀ s H C cl fp, Ev (X.blk s H scope (compEnvC scope cl C X.env) fp) elt (Sa.set v (some (.dat d))) (f i d) (Sa.set v (some (.dat d))))
    (hz : ds.length ≤ sizeLine) (hN : X.N.Nodup)
    (hv : X.N[v]? = some x := by rfl) (hl : ∀ C cl, Loc (compEnvC scope cl C X.env).scope x := by first | exact fun _ _ => Or.inl rfl | exact fun _ _ => Or.inr rfl) (hf : ∀ s H C cl fp, (X.blk s H scope (compEnvC scope cl C X.env) fp).fn x = true ∨ (compEnvC scope cl C X.env).scope.names.lookup x = some .local := by first | exact fun _ _ _ _ _ => .inl rfl | exact fun _ _ _ _ _ => .inr rfl) :
    LcIs X scope (.Name x tpos) it elt [] S (ds.mapIdx f) Sa :=
  lc_map [(x, v)] f (fun d => Sa.set v (some (.dat d))) ok hi (wipeA_id hn) (fun i d e => ⟨[v], by simp, fun s H C cl fp => asg_name v hN hv (hl C cl) (hf s H C cl fp)⟩) (fun _ _ _ => wipeA_one hn) hs hz
theorem lc_fil1 (v : Nat) {x : Str} {tpos : Pos} (f : Nat → PyData → PyData) (c : Nat → PyData → Bool) (hi : ItD X (.Name x tpos) it S ds Sa) (ok : BlkOk X.N X.env.scope scope [(x, v)]) (hn : Sa[v]? = some none)
    (ht : ∀ i d, ds[i]? = some d → ∀ s H C cl fp, EvTs (X.blk s H scope (compEnvC scope cl C X.env) fp) ifs (Sa.set v (some (.dat d))) (c i d) (Sa.set v (some (.dat d))))
    (hs : ∀ i d, ds[i]? = some d → c i d = true → ∀ s H C cl fp, Ev (X.blk s H scope (compEnvC scope cl C X.env) fp) elt (Sa.set v (some (.dat d))) (f i d) (Sa.set v (some (.dat d))))
    (hz : ds.length ≤ sizeLine) (hN : X.N.Nodup)
    (hv : X.N[v]? = some x := by rfl) (hl : ∀ C cl, Loc (compEnvC scope cl C X.env).scope x := by first | exact fun _ _ => Or.inl rfl | exact fun _ _ => Or.inr rfl) (hf : ∀ s H C cl fp, (X.blk s H scope (compEnvC scope cl C X.env) fp).fn x = true ∨ (compEnvC scope cl C X.env).scope.names.lookup x = some .local := by first | exact fun _ _ _ _ _ => .inl rfl | exact fun _ _ _ _ _ => .inr rfl) :
    LcIs X scope (.Name x tpos) it elt ifs S ((ds.zipIdx.filter fun x => c x.2 x.1).map fun x => f x.2 x.1) Sa :=
  lc_fil [(x, v)] f c (fun d => Sa.set v (some (.dat d))) ok hi (wipeA_id hn) (fun i d e => ⟨[v], by simp, fun s H C cl fp => asg_name v hN hv (hl C cl) (hf s H C cl fp)⟩) (fun _ _ _ => wipeA_one hn) ht hs hz
/-- a pair of names as the target -/
def fstD : PyData → PyData
  | .tuple (a :: _) => a
  | _ => .none
def sndD : PyData → PyData
  | .tuple (_ :: b :: _) => b
  | _ => .none
theorem lc_fil2 (v u : Nat) {x y : Str} {xp yp tpos : Pos} {tk : Nat} (f : Nat → PyData → PyData) (c : Nat → PyData → Bool) (hi : ItD X (.Tuple [.Name x xp, .Name y yp] tk tpos) it S ds Sa) (ok : BlkOk X.N X.env.scope scope [(x, v), (y, u)]) (hn : Sa[v]? = some none) (hn2 : Sa[u]? = some none) (hvu : v ≠ u) (hp : ∀ d ∈ ds, ∃ a b, d = .tuple [a, b])
    (ht : ∀ i a b, ds[i]? = some (.tuple [a, b]) → ∀ s H C cl fp, EvTs (X.blk s H scope (compEnvC scope cl C X.env) fp) ifs ((Sa.set v (some (.dat a))).set u (some (.dat b))) (c i (.tuple [a, b])) ((Sa.set v (some (.dat a))).set u (some (.dat b))))
    (hs : ∀ i a b, ds[i]? = some (.tuple [a, b]) → c i (.tuple [a, b]) = true → ∀ s H C cl fp, Ev (X.blk s H scope (compEnvC scope cl C X.env) fp) elt ((Sa.set v (some (.dat a))).set u (some (.dat b))) (f i (.tuple [a, b])) ((Sa.set v (some (.dat a))).set u (some (.dat b))))
    (hz : ds.length ≤ sizeLine) (hN : X.N.Nodup)
    (hv : X.N[v]? = some x := by rfl) (hu : X.N[u]? = some y := by rfl) (hl : ∀ C cl, Loc (compEnvC scope cl C X.env).scope x := by first | exact fun _ _ => Or.inl rfl | exact fun _ _ => Or.inr rfl) (hlu : ∀ C cl, Loc (compEnvC scope cl C X.env).scope y := by first | exact fun _ _ => Or.inl rfl | exact fun _ _ => Or.inr rfl)
    (hf : ∀ s H C cl fp, (X.blk s H scope (compEnvC scope cl C X.env) fp).fn x = true ∨ (compEnvC scope cl C X.env).scope.names.lookup x = some .local := by first | exact fun _ _ _ _ _ => .inl rfl | exact fun _ _ _ _ _ => .inr rfl)
    (hfu : ∀ s H C cl fp, (X.blk s H scope (compEnvC scope cl C X.env) fp).fn y = true ∨ (compEnvC scope cl C X.env).scope.names.lookup y = some .local := by first | exact fun _ _ _ _ _ => .inl rfl | exact fun _ _ _ _ _ => .inr rfl)
    (hcb : ∀ s H C cl fp, (X.blk s H scope (compEnvC scope cl C X.env) fp).calm = true := by intros; rfl)
    (q1 : ∀ C cl, (assignEach [.Name x xp, .Name y yp] (compEnvC scope cl C X.env)).map (·.2) = assign (.Name x xp) (compEnvC scope cl C X.env) :: (assignEach [.Name y yp] (compEnvC scope cl C X.env)).map (·.2) := by intros; rfl)
    (q2 : ∀ C cl, (assignEach [.Name y yp] (compEnvC scope cl C X.env)).map (·.2) = assign (.Name y yp) (compEnvC scope cl C X.env) :: (assignEach [] (compEnvC scope cl C X.env)).map (·.2) := by intros; rfl)
    (q3 : ∀ C cl, (assignEach [.Name x xp, .Name y yp] (compEnvC scope cl C X.env)).length = 2 := by intros; rfl)
    (q4 : ∀ C cl, (assignEach [.Name x xp, .Name y yp] (compEnvC scope cl C X.env)).findIdx? (·.1) = none := by intros; rfl) :
    LcIs X scope (.Tuple [.Name x xp, .Name y yp] tk tpos) it elt ifs S ((ds.zipIdx.filter fun x => c x.2 x.1).map fun x => f x.2 x.1) Sa := by
  refine lc_fil [(x, v), (y, u)] f c (fun d => (Sa.set v (some (.dat (fstD d)))).set u (some (.dat (sndD d)))) ok hi (wipeA_id2 hn hn2 hvu) (fun i d e => ?_) (fun _ _ _ => wipeA_two hn hn2 hvu) (fun i d e => ?_) (fun i d e h => ?_) hz
  · obtain ⟨a, b, rfl⟩ := hp d (List.mem_of_getElem? e)
    exact ⟨[v] ++ ([u] ++ []), by simp, fun s H C cl fp => asg_tup (asgs_cons (asg_name v hN hv (hl C cl) (hf s H C cl fp)) (asgs_cons (asg_name u hN hu (hlu C cl) (hfu s H C cl fp)) asgs_nil (q2 C cl)) (q1 C cl)) rfl (hcb s H C cl fp) (q3 C cl) (q4 C cl)⟩
  · obtain ⟨a, b, rfl⟩ := hp d (List.mem_of_getElem? e)
    exact ht i a b e
  · obtain ⟨a, b, rfl⟩ := hp d (List.mem_of_getElem? e)
    exact hs i a b e h
theorem lc_map2 (v u : Nat) {x y : Str} {xp yp tpos : Pos} {tk : Nat} (f : Nat → PyData → PyData) (hi : ItD X (.Tuple [.Name x xp, .Name y yp] tk tpos) it S ds Sa) (ok : BlkOk X.N X.env.scope scope [(x, v), (y, u)]) (hn : Sa[v]? = some none) (hn2 : Sa[u]? = some none) (hvu : v ≠ u) (hp : ∀ d ∈ ds, ∃ a b, d = .tuple [a, b])
    (hs : ∀ i a b, ds[i]? = some (.tuple [a, b]) → ∀ s H C cl fp, Ev (X.blk s H scope (compEnvC scope cl C X.env) fp) elt ((Sa.set v (some (.dat a))).set u (some (.dat b))) (f i (.tuple [a, b])) ((Sa.set v (some (.dat a))).set u (some (.dat b))))
    (hz : ds.length ≤ sizeLine) (hN : X.N.Nodup)
    (hv : X.N[v]? = some x := by rfl) (hu : X.N[u]? = some y := by rfl) (hl : ∀ C cl, Loc (compEnvC scope cl C X.env).scope x := by first | exact fun _ _ => Or.inl rfl | exact fun _ _ => Or.inr rfl) (hlu : ∀ C cl, Loc (compEnvC scope cl C X.env).scope y := by first | exact fun _ _ => Or.inl rfl | exact fun _ _ => Or.inr rfl)
    (hf : ∀ s H C cl fp, (X.blk s H scope (compEnvC scope cl C X.env) fp).fn x = true ∨ (compEnvC scope cl C X.env).scope.names.lookup x = some .local := by first | exact fun _ _ _ _ _ => .inl rfl | exact fun _ _ _ _ _ => .inr rfl)
    (hfu : ∀ s H C cl fp, (X.blk s H scope (compEnvC scope cl C X.env) fp).fn y = true ∨ (compEnvC scope cl C X.env).scope.names.lookup y = some .local := by first | exact fun _ _ _ _ _ => .inl rfl | exact fun _ _ _ _ _ => .inr rfl)
    (hcb : ∀ s H C cl fp, (X.blk s H scope (compEnvC scope cl C X.env) fp).calm = true := by intros; rfl)
    (q1 : ∀ C cl, (assignEach [.Name x xp, .Name y yp] (compEnvC scope cl C X.env)).map (·.2) = assign (.Name x xp) (compEnvC scope cl C X.env) :: (assignEach [.Name y yp] (compEnvC scope cl C X.env)).map (·.2) := by intros; rfl)
    (q2 : ∀ C cl, (assignEach [.Name y yp] (compEnvC scope cl C X.env)).map (·.2) = assign (.Name y yp) (compEnvC scope cl C X.env) :: (assignEach [] (compEnvC scope cl C X.env)).map (·.2) := by intros; rfl)
    (q3 : ∀ C cl, (assignEach [.Name x xp, .Name y yp] (compEnvC scope cl C X.env)).length = 2 := by intros; rfl)
    (q4 : ∀ C cl, (assignEach [.Name x xp, .Name y yp] (compEnvC scope cl C X.env)).findIdx? (·.1) = none := by intros; rfl) :
    LcIs X scope (.Tuple [.Name x xp, .Name y yp] tk tpos) it elt [] S (ds.mapIdx f) Sa := by
  refine (lc_fil2 v u f (fun _ _ => true) hi ok hn hn2 hvu hp (fun _ _ _ _ _ _ _ _ _ => evts_nil) (fun i a b e _ => hs i a b e) hz hN hv hu hl hlu hf hfu hcb q1 q2 q3 q4).to ?_
  rw [List.mapIdx_eq_zipIdx_map]
  congr 1
  exact List.filter_eq_self.mpr fun _ _ => rfl
end
end SH
/-! SHe: the defs' contracts and their calls. -/
namespace SH
open PySem PySem.Spec PyProof.Rows L2

/-- a contract: the arguments, what is wanted of the answer and of the arguments behind the call -/
abbrev Ct := List OV → (OV → List OV → Prop) → Prop
abbrev args0 (args : List OV) : ASt := args.map some
def spC (P : Program) (w : World) (n : Nat) (ct : Ct) : Sp := fun vs H Q _ => ∃ F args, vs.length = n ∧ StOk P w F H (vs.map some) (args0 args) ∧
  ct args fun r args' => ∀ v F' H', Got P w F H (args0 args) F' H' (vs.map some) (args0 args') v r → Q v H'
def root : OV → Option Addr
  | .dat _ => none
  | .lst p _ => some p
  | .dK p _ => some p
  | .dN p _ => some p
  | .dL p _ => some p
  | .ins p _ _ _ => some p
  | .raw p => some p
  | .ptp p _ => some p
theorem Own.root {P : Program} {w : World} {F H : Hp} {v : V} {ov : OV} {p : Addr} (h : Own P w F H v ov) (e : SH.root ov = some p) : v = .ref p := by
  cases h with
  | dat _ => cases e
  | lst _ _ => cases e; rfl
  | dK _ _ => cases e; rfl
  | dN _ _ => cases e; rfl
  | dL _ _ => cases e; rfl
  | ins _ _ _ => cases e; rfl
  | raw => cases e; rfl
  | ptp _ _ _ => cases e; rfl
theorem root_none {ov : OV} (h : SH.root ov = none) : ∃ d, ov = .dat d := by
  cases ov with
  | dat d => exact ⟨d, rfl⟩
  | lst _ _ => cases h
  | dK _ _ => cases h
  | dN _ _ => cases h
  | dL _ _ => cases h
  | ins _ _ _ _ => cases h
  | raw _ => cases h
  | ptp _ _ => cases h
/-- the arguments behind the body, by the slots -/
def Back (args : List OV) (S' : ASt) (args' : List OV) : Prop := args'.length = args.length ∧ ∀ (i : Nat) (a a' : OV), args[i]? = some a → args'[i]? = some a' →
  (SH.root a = none ∧ a' = a) ∨ ∃ p, SH.root a = some p ∧ SH.root a' = some p ∧ S'[i]? = some (some a')
theorem back_data {ds : List PyData} {S' : ASt} : Back (ds.map .dat) S' (ds.map .dat) := ⟨rfl, fun i a a' e e' => by
  left
  rw [e] at e'; cases e'
  obtain ⟨d, _, rfl⟩ := List.mem_map.mp (List.mem_of_getElem? e)
  exact ⟨rfl, rfl⟩⟩
theorem back_nil {S' : ASt} : Back [] S' [] := ⟨rfl, fun i a a' e _ => by simp at e⟩
theorem back_shift {args args' : List OV} {S' : ASt} {x : Option OV} (h : Back args S' args') : ∀ (i : Nat) (a a' : OV), args[i]? = some a → args'[i]? = some a' →
    (SH.root a = none ∧ a' = a) ∨ ∃ p, SH.root a = some p ∧ SH.root a' = some p ∧ (x :: S')[i + 1]? = some (some a') := h.2
theorem back_d {args args' : List OV} {S' : ASt} {x : Option OV} {d : PyData} (h : Back args S' args') : Back (.dat d :: args) (x :: S') (.dat d :: args') := ⟨congrArg (· + 1) h.1, fun i a a' e e' => by
  cases i with
  | zero => cases e; cases e'; exact .inl ⟨rfl, rfl⟩
  | succ i => exact h.2 i a a' e e'⟩
theorem back_o {args args' : List OV} {S' : ASt} {a a' : OV} {p : Addr} (h : Back args S' args') (h1 : SH.root a = some p) (h2 : SH.root a' = some p) : Back (a :: args) (some a' :: S') (a' :: args') := ⟨congrArg (· + 1) h.1, fun i b b' e e' => by
  cases i with
  | zero => cases e; cases e'; exact .inr ⟨p, h1, h2, rfl⟩
  | succ i => exact h.2 i b b' e e'⟩

section
variable {P : Program} {w : World} {K : PySem.W.Frag} {mg : Str → Option Value} {base F F' H H' : Hp}
theorem feet_args {args : List OV} {n : Nat} {b : Addr} (h : inFeet (args0 args ++ List.replicate n none) b) : inFeet (args0 args) b := by
  obtain ⟨i, hb⟩ := h
  refine ⟨i, ?_⟩
  obtain ⟨ov, e, hf⟩ := StOk.some_of_foot hb
  by_cases hi : i < (args0 args).length
  · rw [List.getElem?_append_left hi] at e
    rw [footAt_some e]; exact hf
  · rw [List.getElem?_append_right (by omega), List.getElem?_replicate] at e
    split at e <;> cases e
theorem feet_args' {args : List OV} {n : Nat} {b : Addr} (h : inFeet (args0 args) b) : inFeet (args0 args ++ List.replicate n none) b := by
  obtain ⟨i, hb⟩ := h
  refine ⟨i, ?_⟩
  obtain ⟨ov, e, hf⟩ := StOk.some_of_foot hb
  have hi : i < (args0 args).length := (List.getElem?_eq_some_iff.mp e).1
  rw [footAt_some (by rw [List.getElem?_append_left hi]; exact e)]; exact hf
theorem args_get {args : List OV} {n i : Nat} {ov : OV} (e : (args0 args ++ List.replicate n none)[i]? = some (some ov)) : (args0 args)[i]? = some (some ov) := by
  by_cases hi : i < (args0 args).length
  · rw [List.getElem?_append_left hi] at e; exact e
  · rw [List.getElem?_append_right (by omega), List.getElem?_replicate] at e
    split at e <;> cases e
theorem StOk.entry {vs : List V} {args : List OV} {n : Nat} (st : StOk P w F H (vs.map some) (args0 args)) : StOk P w F H (vs.map some ++ List.replicate n none) (args0 args ++ List.replicate n none) where
  same := st.same
  len := by rw [List.length_append, List.length_append, st.len, List.length_replicate, List.length_replicate]
  slot := fun i ov e => by
    have e' := args_get e
    obtain ⟨v, h1, h2⟩ := st.slot i ov e'
    have hi : i < (vs.map some).length := (List.getElem?_eq_some_iff.mp h1).1
    exact ⟨v, by rw [List.getElem?_append_left hi]; exact h1, h2⟩
  nd := fun i => by
    cases h : (args0 args ++ List.replicate n none)[i]? with
    | none => unfold footAt; rw [h]; exact .nil
    | some x =>
      cases x with
      | none => unfold footAt; rw [h]; exact .nil
      | some ov => rw [footAt_some h, ← footAt_some (args_get h)]; exact st.nd i
  apart := fun i j b hij hb hb2 => by
    obtain ⟨o1, e1, f1⟩ := StOk.some_of_foot hb
    obtain ⟨o2, e2, f2⟩ := StOk.some_of_foot hb2
    exact st.apart i j b hij (by rw [footAt_some (args_get e1)]; exact f1) (by rw [footAt_some (args_get e2)]; exact f2)
  free := fun b hb => st.free b (feet_args hb)
theorem Got.leave {vs : List V} {args args' : List OV} {n : Nat} {σ' : L2.St} {S' : ASt} {v : V} {r : OV} (st : StOk P w F H (vs.map some) (args0 args)) (g : Got P w F H (args0 args ++ List.replicate n none) F' H' σ' S' v r) (hb : Back args S' args') :
    Got P w F H (args0 args) F' H' (vs.map some) (args0 args') v r := by
  have get : ∀ (i : Nat) (a' : OV), (args0 args')[i]? = some (some a') → ∃ a, args[i]? = some a ∧ args'[i]? = some a' := fun i a' e => by
    rw [List.getElem?_map] at e
    have e' : args'[i]? = some a' := by
      cases q : args'[i]? with
      | none => rw [q] at e; cases e
      | some z => rw [q] at e; cases e; rfl
    have hi : i < args.length := by rw [← hb.1]; exact (List.getElem?_eq_some_iff.mp e').1
    exact ⟨args[i], List.getElem?_eq_getElem hi, e'⟩
  have sub : ∀ i b, b ∈ footAt (args0 args') i → b ∈ footAt S' i := fun i b h => by
    obtain ⟨ov, e, hf⟩ := StOk.some_of_foot h
    obtain ⟨a, e1, e2⟩ := get i ov e
    rcases hb.2 i a ov e1 e2 with ⟨q, rfl⟩ | ⟨p, _, _, q⟩
    · obtain ⟨d, rfl⟩ := root_none q
      simp [foot] at hf
    · rw [footAt_some q]; exact hf
  have subF : ∀ b, inFeet (args0 args') b → inFeet S' b := fun b ⟨i, h⟩ => ⟨i, sub i b h⟩
  refine ⟨⟨g.st.same, by rw [List.length_map, List.length_map, hb.1]; have := st.len; simpa using this, fun i ov e => ?_, fun i => ?_, fun i j b hij h1 h2 => g.st.apart i j b hij (sub i b h1) (sub j b h2), fun b h => g.st.free b (subF b h)⟩, g.own, g.nd, fun b h => ⟨(g.new b h).1, fun z => (g.new b h).2 (subF b z)⟩, g.aft.mono fun b => feet_args, fun b h => (g.gr b (subF b h)).imp feet_args id, fun b h => (g.grv b h).imp feet_args id⟩
  · obtain ⟨a, e1, e2⟩ := get i ov e
    have e0 : (args0 args)[i]? = some (some a) := by rw [List.getElem?_map, e1]; rfl
    obtain ⟨u, h1, h2⟩ := st.slot i a e0
    rcases hb.2 i a ov e1 e2 with ⟨q, rfl⟩ | ⟨p, q1, q2, q⟩
    · obtain ⟨d, rfl⟩ := root_none q
      refine ⟨u, h1, h2.keep g.aft.ff fun b z => ?_⟩
      simp [foot] at z
    · obtain ⟨u', _, h4⟩ := g.st.slot i ov q
      refine ⟨u, h1, ?_⟩
      rw [h2.root q1, ← h4.root q2]
      exact h4
  · cases h : (args0 args')[i]? with
    | none => unfold footAt; rw [h]; exact .nil
    | some x =>
      cases x with
      | none => unfold footAt; rw [h]; exact .nil
      | some ov =>
        obtain ⟨a, e1, e2⟩ := get i ov h
        rw [footAt_some h]
        rcases hb.2 i a ov e1 e2 with ⟨q, rfl⟩ | ⟨p, q1, q2, q⟩
        · obtain ⟨d, rfl⟩ := root_none q
          exact .nil
        · rw [← footAt_some q]; exact g.st.nd i
end

/-- the context of a def's body -/
abbrev bx (P : Program) (w : World) (K : PySem.W.Frag) (mg : Str → Option Value) (base : Heap) (N : List Str) (qual : Str) (st : Stmt) (f : Addr) (cdv : Value) (A : Around) (outer : List Env) (s : Shared) (H : Hp) (E : XK) : Cx :=
  (cxOf CX0 P w K mg base N qual (defScope st) f cdv A outer s H E).nox
/-- a def by its body -/
theorem fc_of {P : Program} {w : World} {K : PySem.W.Frag} {mg : Str → Option Value} {base : Heap} {x qual : Str} {st : Stmt} {f : Addr} {fd : FuncData} {N ps : List Str} {k : Nat} (F : Fun K x qual st f fd) (S : FnScope N ps (defScope st)) (ct : Ct)
    (hb : ∀ (cdv : Value) (A : Around) (outer : List Env) (s : Shared) (H : Hp) (E : XK) (args : List OV) (Q : OV → List OV → Prop), Room k (A.deeper (envOfC qual (defScope st) s.heap.objs.size f cdv)) → args.length = ps.length → ct args Q →
      SX (bx P w K mg base N qual st f cdv A outer s H E) (defBody st) (args0 args ++ List.replicate (N.length - ps.length) none)
        { nx := fun S' => ∃ args', Back args S' args' ∧ Q (.dat .none) args', rt := fun r S' => ∃ args', Back args S' args' ∧ Q r args' }) : FnOk P w K mg base CX0 (k + 1) f fd ps (spC P w ps.length ct) := by
  refine F.ok S (fun vs H Q E h => ?_) (fun cdv A outer s H vs Q E hr h => ?_)
  · obtain ⟨_, _, h1, _⟩ := h
    exact h1
  · obtain ⟨F0, args, hl, st0, hc⟩ := h
    have hal : args.length = ps.length := by
      have := st0.len
      simp only [List.length_map] at this
      omega
    refine ⟨_, pssW _ _, ?_⟩
    have hst : L2.start N vs = vs.map some ++ List.replicate (N.length - ps.length) none := by unfold L2.start; rw [hl]
    show WPs _ _ _ (L2.start N vs) H
    rw [hst]
    refine hb cdv A outer s H E args _ hr hal hc F0 H _ st0.entry _ ⟨fun σ1 F1 H1 S1 p q => ?_, fun σ1 F1 H1 S1 v ov g q => ?_, fun σ1 F1 H1 S1 p q => q.elim, fun σ1 F1 H1 S1 p q => q.elim⟩
    · obtain ⟨args', hbk, q⟩ := q
      exact q .non F1 H1 (Got.leave st0 (.of p .non) hbk)
    · obtain ⟨args', hbk, q⟩ := q
      exact q v F1 H1 (Got.leave st0 g hbk)

/-- a def of the module that keeps a contract -/
structure Fc (P : Program) (w : World) (K : PySem.W.Frag) (mg : Str → Option Value) (base : Heap) (x : Str) (k n : Nat) (ct : Ct) : Prop where
  ex : ∃ (f : Addr) (fd : FuncData) (ps : List Str), FnOk P w K mg base CX0 k f fd ps (spC P w n ct) ∧ Binds K fd ps [] ∧ PySem.W.keepIn K (.ref f) = true ∧ mg x = some (.ref f)
  mono : ∀ args Q Q', (∀ r a, Q r a → Q' r a) → ct args Q → ct args Q'
theorem Fc.up {P : Program} {w : World} {K : PySem.W.Frag} {mg : Str → Option Value} {base : Heap} {x : Str} {j k n : Nat} {ct : Ct} (G : Fc P w K mg base x j n ct) (h : j ≤ k) : Fc P w K mg base x k n ct := by
  obtain ⟨⟨f, fd, ps, a, b⟩, m⟩ := G
  exact ⟨⟨f, fd, ps, a.mono h, b⟩, m⟩

/-! ### calls -/
inductive Ar where
  | d (d : PyData)
  | b (i : Nat)
def arOV (S : ASt) : Ar → OV
  | .d d => .dat d
  | .b i => match S[i]? with
    | some (some ov) => ov
    | _ => .dat .none
theorem arOV_b {S : ASt} {i : Nat} {ov : OV} (e : S[i]? = some (some ov)) : arOV S (.b i) = ov := by
  show (match S[i]? with | some (some ov) => ov | _ => OV.dat .none) = ov
  rw [e]
def arRel (F : Hp) (σ : L2.St) (v : V) : Ar → Prop
  | .d d => Da F v d
  | .b i => σ[i]? = some (some v)
def putBack (S : ASt) : List Ar → List OV → ASt
  | .d _ :: r, _ :: q => putBack S r q
  | .b i :: r, a :: q => putBack (S.set i (some a)) r q
  | _, _ => S
def slotsOf : List Ar → List Nat
  | [] => []
  | .d _ :: r => slotsOf r
  | .b i :: r => i :: slotsOf r
theorem putBack_len : ∀ (ars : List Ar) (as : List OV) (S : ASt), (putBack S ars as).length = S.length
  | [], _, _ => rfl
  | .d _ :: _, [], _ => rfl
  | .b _ :: _, [], _ => rfl
  | .d _ :: r, _ :: q, S => putBack_len r q S
  | .b i :: r, a :: q, S => by
    unfold putBack
    rw [putBack_len r q, List.length_set]
theorem putBack_out : ∀ (ars : List Ar) (as : List OV) (S : ASt) (i : Nat), i ∉ slotsOf ars → (putBack S ars as)[i]? = S[i]?
  | [], _, _, _, _ => rfl
  | .d _ :: _, [], _, _, _ => rfl
  | .b _ :: _, [], _, _, _ => rfl
  | .d _ :: r, _ :: q, S, i, h => putBack_out r q S i h
  | .b j :: r, a :: q, S, i, h => by
    unfold putBack
    rw [putBack_out r q _ i fun z => h (List.mem_cons_of_mem _ z), List.getElem?_set_ne fun z => h (by rw [z]; exact List.mem_cons_self ..)]
theorem putBack_in : ∀ (ars : List Ar) (as : List OV) (S : ASt) (j i : Nat) (a : OV), (slotsOf ars).Nodup → ars[j]? = some (.b i) → as[j]? = some a → i < S.length → (putBack S ars as)[i]? = some (some a)
  | [], _, _, _, _, _, _, h, _, _ => by simp at h
  | _ :: _, [], _, _, _, _, _, _, h, _ => by simp at h
  | .d _ :: r, _ :: q, S, 0, i, a, _, h, _, _ => by simp at h
  | .d _ :: r, _ :: q, S, j + 1, i, a, nd, h, h2, hl => putBack_in r q S j i a nd (by simpa using h) (by simpa using h2) hl
  | .b k :: r, x :: q, S, 0, i, a, nd, h, h2, hl => by
    simp only [List.getElem?_cons_zero, Option.some.injEq, Ar.b.injEq] at h h2
    subst h h2
    unfold putBack
    rw [putBack_out r q _ k (List.nodup_cons.mp nd).1, List.getElem?_set_self hl]
  | .b k :: r, x :: q, S, j + 1, i, a, nd, h, h2, hl => by
    unfold putBack
    exact putBack_in r q _ j i a (List.nodup_cons.mp nd).2 (by simpa using h) (by simpa using h2) (by rw [List.length_set]; exact hl)
theorem mem_slots : ∀ {ars : List Ar} {i : Nat}, i ∈ slotsOf ars → ∃ j : Nat, ars[j]? = some (Ar.b i)
  | .d _ :: r, i, h => by
    obtain ⟨j, e⟩ := mem_slots (ars := r) h
    exact ⟨j + 1, by simpa using e⟩
  | .b k :: r, i, h => by
    rcases List.mem_cons.mp h with rfl | h
    · exact ⟨0, rfl⟩
    · obtain ⟨j, e⟩ := mem_slots (ars := r) h
      exact ⟨j + 1, by simpa using e⟩
theorem slots_mem : ∀ {ars : List Ar} {j i : Nat}, ars[j]? = some (.b i) → i ∈ slotsOf ars
  | [], _, _, h => by simp at h
  | .d _ :: r, 0, i, h => by simp at h
  | .d _ :: r, j + 1, i, h => slots_mem (ars := r) (j := j) (by simpa using h)
  | .b k :: r, 0, i, h => by simp at h; subst h; exact List.mem_cons_self ..
  | .b k :: r, j + 1, i, h => List.mem_cons_of_mem _ (slots_mem (ars := r) (j := j) (by simpa using h))
theorem slots_inj : ∀ {ars : List Ar} {j l i : Nat}, (slotsOf ars).Nodup → ars[j]? = some (.b i) → ars[l]? = some (.b i) → j = l
  | [], _, _, _, _, h, _ => by simp at h
  | .d _ :: r, 0, _, i, _, h, _ => by simp at h
  | .d _ :: r, _ + 1, 0, i, _, _, h => by simp at h
  | .d _ :: r, j + 1, l + 1, i, nd, h, h2 => by rw [slots_inj (ars := r) (j := j) (l := l) nd (by simpa using h) (by simpa using h2)]
  | .b k :: r, 0, 0, i, _, _, _ => rfl
  | .b k :: r, 0, l + 1, i, nd, h, h2 => by
    simp at h; subst h
    exact absurd (slots_mem (ars := r) (j := l) (by simpa using h2)) (List.nodup_cons.mp nd).1
  | .b k :: r, j + 1, 0, i, nd, h, h2 => by
    simp at h2; subst h2
    exact absurd (slots_mem (ars := r) (j := j) (by simpa using h)) (List.nodup_cons.mp nd).1
  | .b k :: r, j + 1, l + 1, i, nd, h, h2 => by rw [slots_inj (ars := r) (j := j) (l := l) (List.nodup_cons.mp nd).2 (by simpa using h) (by simpa using h2)]

section
variable {P : Program} {w : World} {F F' H H' : Hp} {σ : L2.St} {S : ASt}
/-- the values of arguments -/
abbrev ArRel (F : Hp) (σ : L2.St) : List V → List Ar → Prop := Paired (arRel F σ)
theorem ArRel.get : ∀ {vs : List V} {ars : List Ar} {j : Nat} {a : Ar}, ArRel F σ vs ars → ars[j]? = some a → ∃ v, vs[j]? = some v ∧ arRel F σ v a
  | _, _, _, _, .nil, e => by simp at e
  | _, _, 0, _, .cons q _, e => by simp at e; subst e; exact ⟨_, rfl, q⟩
  | _, _, j + 1, _, .cons _ r, e => by
    obtain ⟨v, h1, h2⟩ := ArRel.get (j := j) r (by simpa using e)
    exact ⟨v, by simpa using h1, h2⟩
theorem arOV_foot {a : Ar} {b : Addr} (h : b ∈ foot (arOV S a)) : ∃ i, a = .b i ∧ b ∈ footAt S i := by
  cases a with
  | d d => simp [arOV, foot] at h
  | b i =>
    refine ⟨i, rfl, ?_⟩
    have h' : b ∈ foot (match S[i]? with | some (some ov) => ov | _ => OV.dat .none) := h
    cases e : S[i]? with
    | none => rw [e] at h'; simp [foot] at h'
    | some x =>
      cases x with
      | none => rw [e] at h'; simp [foot] at h'
      | some ov => rw [e] at h'; rw [footAt_some e]; exact h'
theorem ars_foot {ars : List Ar} {j : Nat} {b : Addr} (h : b ∈ footAt (args0 (ars.map (arOV S))) j) : ∃ i, ars[j]? = some (Ar.b i) ∧ b ∈ footAt S i := by
  obtain ⟨ov, e, hf⟩ := StOk.some_of_foot h
  rw [List.getElem?_map, List.getElem?_map] at e
  cases q : ars[j]? with
  | none => rw [q] at e; cases e
  | some a =>
    rw [q] at e
    simp only [Option.map_some, Option.some.injEq] at e
    subst e
    obtain ⟨i, rfl, h2⟩ := arOV_foot hf
    exact ⟨i, rfl, h2⟩
theorem StOk.ars {vs : List V} {ars : List Ar} (st : StOk P w F H σ S) (r : ArRel F σ vs ars) (nd : (slotsOf ars).Nodup) (hb : ∀ i ∈ slotsOf ars, ∃ ov, S[i]? = some (some ov)) : StOk P w F H (vs.map some) (args0 (ars.map (arOV S))) where
  same := st.same
  len := by rw [List.length_map, List.length_map, List.length_map]; exact Paired.length r
  slot := fun j ov e => by
    rw [List.getElem?_map, List.getElem?_map] at e
    cases q : ars[j]? with
    | none => rw [q] at e; cases e
    | some a =>
      rw [q] at e
      simp only [Option.map_some, Option.some.injEq] at e
      subst e
      obtain ⟨v, h1, h2⟩ := r.get q
      refine ⟨v, by rw [List.getElem?_map, h1]; rfl, ?_⟩
      cases a with
      | d d => exact .dat h2
      | b i =>
        obtain ⟨ov, eo⟩ := hb i (slots_mem q)
        obtain ⟨v', g1, g2⟩ := st.slot i ov eo
        have h2' : σ[i]? = some (some v) := h2
        rw [g1] at h2'; cases h2'
        have : arOV S (.b i) = ov := arOV_b eo
        rw [this]; exact g2
  nd := fun j => by
    cases q : ars[j]? with
    | none =>
      have : (args0 (ars.map (arOV S)))[j]? = none := by rw [List.getElem?_map, List.getElem?_map, q]; rfl
      unfold footAt; rw [this]; exact .nil
    | some a =>
      have e : (args0 (ars.map (arOV S)))[j]? = some (some (arOV S a)) := by rw [List.getElem?_map, List.getElem?_map, q]; rfl
      rw [footAt_some e]
      cases a with
      | d d => exact .nil
      | b i =>
        obtain ⟨ov, eo⟩ := hb i (slots_mem q)
        have : arOV S (.b i) = ov := arOV_b eo
        rw [this, ← footAt_some eo]; exact st.nd i
  apart := fun j l b hjl h1 h2 => by
    obtain ⟨i, e1, f1⟩ := ars_foot h1
    obtain ⟨i', e2, f2⟩ := ars_foot h2
    refine st.apart i i' b (fun z => ?_) f1 f2
    subst z
    exact hjl (slots_inj nd e1 e2)
  free := fun b ⟨j, h⟩ => by
    obtain ⟨i, _, f⟩ := ars_foot h
    exact st.free b ⟨i, f⟩
/-- behind the call, in the caller's slots -/
theorem Got.back {vs : List V} {ars : List Ar} {args' : List OV} {v : V} {r : OV} (st : StOk P w F H σ S) (rel : ArRel F σ vs ars) (nd : (slotsOf ars).Nodup) (hb : ∀ i ∈ slotsOf ars, ∃ ov, S[i]? = some (some ov))
    (g : Got P w F H (args0 (ars.map (arOV S))) F' H' (vs.map some) (args0 args') v r) : Got P w F H S F' H' σ (putBack S ars args') v r := by
  have hlen : args'.length = ars.length := by
    have h1 := g.st.len
    rw [List.length_map, List.length_map, Paired.length rel] at h1
    exact h1.symm
  have hin : ∀ i ∈ slotsOf ars, ∃ (j : Nat) (a : OV), ars[j]? = some (Ar.b i) ∧ args'[j]? = some a ∧ (putBack S ars args')[i]? = some (some a) ∧ i < S.length := fun i hi => by
    obtain ⟨j, e⟩ := mem_slots hi
    have hj : j < args'.length := by rw [hlen]; exact (List.getElem?_eq_some_iff.mp e).1
    obtain ⟨ov, eo⟩ := hb i hi
    have hl : i < S.length := (List.getElem?_eq_some_iff.mp eo).1
    exact ⟨j, args'[j], e, List.getElem?_eq_getElem hj, putBack_in ars args' S j i _ nd e (List.getElem?_eq_getElem hj) hl, hl⟩
  have a0 : ∀ b, inFeet (args0 (ars.map (arOV S))) b → ∃ i ∈ slotsOf ars, b ∈ footAt S i := fun b ⟨j, h⟩ => by
    obtain ⟨i, e, f⟩ := ars_foot h
    exact ⟨i, slots_mem e, f⟩
  have a0S : ∀ b, inFeet (args0 (ars.map (arOV S))) b → inFeet S b := fun b h => by
    obtain ⟨i, _, f⟩ := a0 b h
    exact ⟨i, f⟩
  -- a foot of a slot that was not lent
  have keepN : ∀ i, i ∉ slotsOf ars → ∀ b ∈ footAt S i, ¬ inFeet (args0 (ars.map (arOV S))) b := fun i hi b hbf h => by
    obtain ⟨i', hi', f⟩ := a0 b h
    exact st.apart i i' b (fun z => hi (z ▸ hi')) hbf f
  have at' : ∀ {i j : Nat} {a : OV}, ars[j]? = some (.b i) → args'[j]? = some a → (putBack S ars args')[i]? = some (some a) → footAt (putBack S ars args') i = footAt (args0 args') j := fun {i j a} e1 e2 e3 => by
    rw [footAt_some e3, footAt_some (by rw [List.getElem?_map, e2]; rfl)]
  have outF : ∀ i, i ∉ slotsOf ars → footAt (putBack S ars args') i = footAt S i := fun i hi => by unfold footAt; rw [putBack_out ars args' S i hi]
  have tr1 : ∀ i, ∀ b ∈ footAt S i, ∃ o, H b = some o := fun i b h => st.foot_tracked ⟨i, h⟩
  refine ⟨⟨g.st.same, by rw [putBack_len]; exact st.len, fun i ov e => ?_, fun i => ?_, fun i j b hij h1 h2 => ?_, fun b ⟨i, h⟩ => ?_⟩, g.own, g.nd, fun b h => ⟨(g.new b h).1, fun ⟨i, z⟩ => ?_⟩, g.aft.mono a0S, fun b ⟨i, h⟩ => ?_, fun b h => (g.grv b h).imp (a0S b) id⟩
  · by_cases hi : i ∈ slotsOf ars
    · obtain ⟨j, a, e1, e2, e3, hl⟩ := hin i hi
      have ea : a = ov := by rw [e3] at e; exact Option.some.inj (Option.some.inj e)
      subst ea
      obtain ⟨u, u1, u2⟩ := rel.get e1
      have u2' : σ[i]? = some (some u) := u2
      obtain ⟨u', g1, g2⟩ := g.st.slot j a (by rw [List.getElem?_map, e2]; rfl)
      rw [List.getElem?_map, u1] at g1
      cases g1
      exact ⟨u, u2', g2⟩
    · rw [putBack_out ars args' S i hi] at e
      obtain ⟨u, u1, u2⟩ := st.slot i ov e
      exact ⟨u, u1, u2.keep g.aft.ff fun b hb' o eo => g.aft.kp b o eo (keepN i hi b (by rw [footAt_some e]; exact hb'))⟩
  · by_cases hi : i ∈ slotsOf ars
    · obtain ⟨j, a, e1, e2, e3, hl⟩ := hin i hi
      rw [at' e1 e2 e3]; exact g.st.nd j
    · rw [outF i hi]; exact st.nd i
  · by_cases hi : i ∈ slotsOf ars
    · obtain ⟨l, a, e1, e2, e3, hl⟩ := hin i hi
      rw [at' e1 e2 e3] at h1
      by_cases hj : j ∈ slotsOf ars
      · obtain ⟨l', a', e1', e2', e3', hl'⟩ := hin j hj
        rw [at' e1' e2' e3'] at h2
        refine g.st.apart l l' b (fun z => ?_) h1 h2
        subst z
        rw [e1] at e1'; cases e1'
        exact hij rfl
      · rw [outF j hj] at h2
        rcases g.gr b ⟨l, h1⟩ with q | q
        · exact keepN j hj b h2 q
        · obtain ⟨o, eo⟩ := tr1 j b h2
          rw [q] at eo; cases eo
    · rw [outF i hi] at h1
      by_cases hj : j ∈ slotsOf ars
      · obtain ⟨l, a, e1, e2, e3, hl⟩ := hin j hj
        rw [at' e1 e2 e3] at h2
        rcases g.gr b ⟨l, h2⟩ with q | q
        · exact keepN i hi b h1 q
        · obtain ⟨o, eo⟩ := tr1 i b h1
          rw [q] at eo; cases eo
      · rw [outF j hj] at h2
        exact st.apart i j b hij h1 h2
  · by_cases hi : i ∈ slotsOf ars
    · obtain ⟨j, a, e1, e2, e3, hl⟩ := hin i hi
      rw [at' e1 e2 e3] at h
      exact g.st.free b ⟨j, h⟩
    · rw [outF i hi] at h
      obtain ⟨o, eo⟩ := tr1 i b h
      rw [g.aft.nf b o eo (keepN i hi b h)]
      exact st.free b ⟨i, h⟩
  · by_cases hi : i ∈ slotsOf ars
    · obtain ⟨j, a, e1, e2, e3, hl⟩ := hin i hi
      rw [at' e1 e2 e3] at z
      exact (g.new b h).2 ⟨j, z⟩
    · rw [outF i hi] at z
      rcases g.grv b h with q | q
      · exact keepN i hi b z q
      · obtain ⟨o, eo⟩ := tr1 i b z
        rw [q] at eo; cases eo
  · by_cases hi : i ∈ slotsOf ars
    · obtain ⟨j, a, e1, e2, e3, hl⟩ := hin i hi
      rw [at' e1 e2 e3] at h
      exact (g.gr b ⟨j, h⟩).imp (a0S b) id
    · rw [outF i hi] at h
      exact .inl ⟨i, h⟩
end

/-- arguments, some of them lent -/
def EvAB (X : Cx) (es : List Expr) (S : ASt) (ars : List Ar) (S' : ASt) : Prop :=
  ∀ F H σ, XOk X F H σ S → ∀ Q : List V → Hp → Prop, (∀ vs F' H', Stp X.prog X.w F H S F' H' σ S' → ArRel F' σ vs ars → Q vs H') → WPa X es σ H Q
section
variable {X : Cx} {S S1 S2 : ASt} {e : Expr} {es : List Expr} {d : PyData} {ars : List Ar} {pos p : Pos} {x : Str} {k n : Nat} {ct : Ct}
theorem arRel.mono {F F' : Hp} {σ : L2.St} {v : V} {a : Ar} (s : Same F F') (h : arRel F σ v a) : arRel F' σ v a := by
  cases a with
  | d d => exact Da.mono s _ _ h
  | b i => exact h
theorem ab_nil : EvAB X [] S [] S := fun F H σ st Q k => pa_nil.wp (k [] F H (.refl st) .nil)
theorem ab_d (h : Ev X e S d S1) (hr : EvAB X es S1 ars S2) (hs : starEach (e :: es) X.env = (false, eval e X.env) :: starEach es X.env := by exact star_plain rfl) : EvAB X (e :: es) S (.d d :: ars) S2 := fun F H σ st Q k => by
  refine (pa_cons (peW X e) (paW X es) hs).wp ?_
  refine h.use st fun v F' H' p w => hr F' H' σ p.st _ fun vs F2 H2 p2 w2 => ?_
  exact k (v :: vs) F2 H2 (p.trans p2) (.cons (Da.mono p2.aft.ff _ _ w) w2)
theorem ab_b (i : Nat) {y : Str} {py : Pos} {ov : OV} (hr : EvAB X es S ars S2) (hS : S[i]? = some (some ov) := by rfl) (hN : X.N[i]? = some y := by rfl) (hv : Vis X.env.scope y := by first | exact Or.inl rfl | exact Or.inr (Or.inl rfl) | exact Or.inr (Or.inr rfl))
    (hd : (y == ("__debug__" : Str)) = false := by decide) (hcd : (y == ("__classdict__" : Str)) = false := by decide) (hs : starEach (.Name y py :: es) X.env = (false, eval (.Name y py) X.env) :: starEach es X.env := by rfl) : EvAB X (.Name y py :: es) S (.b i :: ars) S2 := fun F H σ st Q k => by
  refine (pa_cons (pe_var hN hv hd hcd) (paW X es) hs).wp ?_
  obtain ⟨v, e1, _⟩ := st.slot i ov hS
  refine ⟨v, e1, ?_⟩
  refine hr F H σ st _ fun vs F2 H2 p2 w2 => ?_
  exact k (v :: vs) F2 H2 p2 (.cons e1 w2)
/-- f(..) -/
theorem evq_call {R : OV → ASt → Prop} (G : Fc X.prog X.w X.K X.mg X.base x k n ct) (hr : Room k X.A) (ha : EvAB X (e :: es) S ars S1) (hc : ct (ars.map (arOV S1)) fun r args' => R r (putBack S1 ars args')) (hn : ars.length = n := by rfl) (nd : (slotsOf ars).Nodup := by simp [slotsOf])
    (hb : ∀ i ∈ slotsOf ars, ∃ ov, S1[i]? = some (some ov) := by simp [slotsOf]) (hg : Gl X x := by rfl) (hdb : (x == ("__debug__" : Str)) = false := by decide)
    (he : starEach (e :: es) X.env = (false, eval e X.env) :: starEach es X.env := by exact star_plain rfl) (hpl : (backTo pos (starEach es X.env)).any (·.1) = false := by exact back_plain rfl) : EVQ X (.Call (.Name x p) (e :: es) [] pos) S R := fun F H σ st Q q => by
  obtain ⟨⟨f, fd, ps, hF, hB, hk, hm⟩, mono⟩ := G
  refine (pe_call hF hr hg hm hk hB .nil pass0 (paW X (e :: es)) hdb he hpl).wp ?_
  refine ha F H σ st _ fun vs F1 H1 p1 rel => ?_
  rw [List.append_nil]
  refine ⟨F1, ars.map (arOV S1), by rw [Paired.length rel]; exact hn, p1.st.ars rel nd hb, mono _ _ _ (fun r a h v F' H' g => ?_) hc⟩
  exact q v r F' H' _ (.thn p1 (.back p1.st rel nd hb g)) h
/-- all arguments data -/
theorem evd_call {R : OV → Prop} {ds : List PyData} (G : Fc X.prog X.w X.K X.mg X.base x k n ct) (hr : Room k X.A) (ha : EvA X (e :: es) S ds S1) (hc : ct (ds.map .dat) fun r _ => R r) (hn : ds.length = n := by rfl) (hg : Gl X x := by rfl) (hdb : (x == ("__debug__" : Str)) = false := by decide)
    (he : starEach (e :: es) X.env = (false, eval e X.env) :: starEach es X.env := by exact star_plain rfl) (hpl : (backTo pos (starEach es X.env)).any (·.1) = false := by exact back_plain rfl) : EVQ X (.Call (.Name x p) (e :: es) [] pos) S fun ov S' => R ov ∧ S' = S1 := by
  have sl : ∀ ds : List PyData, slotsOf (ds.map Ar.d) = [] := fun ds => by
    induction ds with
    | nil => rfl
    | cons d r ih => exact ih
  have pb : ∀ (ds : List PyData) (as : List OV), putBack S1 (ds.map Ar.d) as = S1 := fun ds => by
    induction ds with
    | nil => intro as; rfl
    | cons d r ih =>
      intro as
      cases as with
      | nil => rfl
      | cons a as => exact ih as
  have rel : ∀ {F : Hp} {σ : L2.St} {vs : List V} {ds : List PyData}, Das F vs ds → ArRel F σ vs (ds.map Ar.d) := fun {F σ vs ds} h => by
    induction vs generalizing ds with
    | nil => cases h; exact .nil
    | cons v vs ih =>
      cases h with
      | cons a b => exact .cons a (ih b)
  refine evq_call (ars := ds.map .d) (R := fun ov S' => R ov ∧ S' = S1) G hr (fun F H σ st Q k => ha F H σ st Q fun vs F' H' p w => k vs F' H' p (rel w)) ?_ (by rw [List.length_map]; exact hn) (by rw [sl]; exact .nil) (by rw [sl]; intro i h; simp at h) hg hdb he hpl
  have e : (ds.map Ar.d).map (arOV S1) = ds.map .dat := by rw [List.map_map]; rfl
  rw [e]
  exact G.mono _ _ _ (fun r a h => ⟨h, pb ds a⟩) hc
theorem evo_call {mk : Addr → OV} {ds : List PyData} (G : Fc X.prog X.w X.K X.mg X.base x k n ct) (hr : Room k X.A) (ha : EvA X (e :: es) S ds S1) (hc : ct (ds.map .dat) fun r _ => ∃ p, r = mk p) (hn : ds.length = n := by rfl) (hg : Gl X x := by rfl) (hdb : (x == ("__debug__" : Str)) = false := by decide)
    (he : starEach (e :: es) X.env = (false, eval e X.env) :: starEach es X.env := by exact star_plain rfl) (hpl : (backTo pos (starEach es X.env)).any (·.1) = false := by exact back_plain rfl) : EvO X (.Call (.Name x p) (e :: es) [] pos) S mk S1 :=
  evd_call G hr ha hc hn hg hdb he hpl
theorem ev_call {ds : List PyData} (G : Fc X.prog X.w X.K X.mg X.base x k n ct) (hr : Room k X.A) (ha : EvA X (e :: es) S ds S1) (hc : ct (ds.map .dat) fun r _ => r = .dat d) (hn : ds.length = n := by rfl) (hg : Gl X x := by rfl) (hdb : (x == ("__debug__" : Str)) = false := by decide)
    (he : starEach (e :: es) X.env = (false, eval e X.env) :: starEach es X.env := by exact star_plain rfl) (hpl : (backTo pos (starEach es X.env)).any (·.1) = false := by exact back_plain rfl) : Ev X (.Call (.Name x p) (e :: es) [] pos) S d S1 := 
  evd_call G hr ha hc hn hg hdb he hpl
theorem fc_mk {P : Program} {w : World} {K : PySem.W.Frag} {mg : Str → Option Value} {base : Heap} {x qual : Str} {st : Stmt} {f : Addr} {fd : FuncData} {ps : List Str} {k n : Nat} {ct : Ct} (F : Fun K x qual st f fd) (h : FnOk P w K mg base CX0 k f fd ps (spC P w n ct)) (b : Binds K fd ps []) (m : mg x = some (.ref f))
    (mono : ∀ args Q Q', (∀ r a, Q r a → Q' r a) → ct args Q → ct args Q') : Fc P w K mg base x k n ct := ⟨⟨f, fd, ps, h, b, F.kp, m⟩, mono⟩
end
end SH
/-! SHf: the operations by data. -/
namespace SH
open PySem PySem.Spec PyProof.Rows L2

section
variable {X : Cx} {F H : Hp} {σ : L2.St} {S S1 S2 : ASt} {a b e : Expr} {es : List Expr} {d d1 d2 r : PyData} {pos p : Pos}
/-- an owned object is rewritten where it stands -/
theorem Stp.poke {P : Program} {w : World} {j : Nat} {p' : Addr} {o : HO} {a a' : OV} (st : StOk P w F H σ S) (hS : S[j]? = some (some a)) (own : Own P w F (upd H p' o) (.ref p') a') (hf : foot a = [p']) (hf' : foot a' = [p'] := by rfl) : Stp P w F H S F (upd H p' o) σ (S.set j (some a')) := by
  obtain ⟨v, e1, o1⟩ := st.slot j a hS
  have hp : p' ∈ footAt S j := by rw [footAt_some hS, hf]; simp
  have hF : F p' = none := st.free p' ⟨j, hp⟩
  have hlt : j < S.length := (List.getElem?_eq_some_iff.mp hS).1
  obtain ⟨u, hu⟩ := o1.tracked p' (by rw [hf]; simp)
  have fj : footAt (S.set j (some a')) j = footAt S j := by rw [footAt_set hlt, footAt_some hS, hf, hf']
  have fall : ∀ i, footAt (S.set j (some a')) i = footAt S i := fun i => by
    by_cases h : j = i
    · subst h; exact fj
    · exact footAt_ne h
  have feq : ∀ b, inFeet (S.set j (some a')) b ↔ inFeet S b := fun b => ⟨fun ⟨i, h⟩ => ⟨i, by rw [← fall i]; exact h⟩, fun ⟨i, h⟩ => ⟨i, by rw [fall i]; exact h⟩⟩
  refine ⟨⟨fun b z e => ?_, by rw [List.length_set]; exact st.len, fun i ov h => ?_, fun i => by rw [fall]; exact st.nd i, fun i l b hil h1 h2 => st.apart i l b hil (by rw [← fall i]; exact h1) (by rw [← fall l]; exact h2), fun b h => st.free b ((feq b).mp h)⟩, ⟨Same.refl _, fun _ _ _ _ => rfl, fun b z e nb => ?_, fun b z e => ?_⟩, fun b h => .inl ((feq b).mp h)⟩
  · rw [upd_ne (fun q => by rw [q, hF] at e; cases e)]; exact st.same b z e
  · by_cases hij : j = i
    · subst hij
      rw [List.getElem?_set_self hlt] at h
      cases h
      refine ⟨v, e1, ?_⟩
      have : v = .ref p' := by
        cases o1 with
        | dat _ => simp [foot] at hf
        | lst _ _ => simp [foot] at hf; rw [hf]
        | dK _ _ => simp [foot] at hf; rw [hf]
        | dN _ _ => simp [foot] at hf; rw [hf]
        | dL _ _ => simp [foot] at hf; rw [hf.1]
        | ins _ _ _ => simp [foot] at hf
        | raw => simp [foot] at hf
        | ptp _ _ _ => simp [foot] at hf; rw [hf]
      rw [this]; exact own
    · rw [List.getElem?_set_ne hij] at h
      obtain ⟨x, g1, g2⟩ := st.slot i ov h
      refine ⟨x, g1, g2.keep (Same.refl _) fun b hb z e => ?_⟩
      rw [upd_ne (fun q => ?_)]
      · exact e
      · subst q
        exact st.apart j i b hij hp (by rw [footAt_some h]; exact hb)
  · rw [upd_ne (fun q => nb ⟨j, by rw [q]; exact hp⟩)]; exact e
  · by_cases hb : b = p'
    · exact ⟨o, by rw [hb]; exact upd_same⟩
    · exact ⟨z, by rw [upd_ne hb]; exact e⟩
/-! ### numbers -/
theorem OpD.i0 {f : Value → Value → Sem Value} {g : Int → Int → V} {i j : Int} (h : OpR X f (rI0 g)) (hr : ∀ F, Da F (g i j) r) : OpD X f (.int i) (.int j) r :=
  ⟨_, h, fun F H σ S v u st h1 h2 Q k => by
    cases h1; cases h2
    exact ⟨i, j, rfl, rfl, k _ F H (.refl st) (hr F)⟩⟩
theorem OpD.iC {f : Value → Value → Sem Value} {C : Int → Int → Prop} {g : Int → Int → V} {i j : Int} (h : OpR X f (rI C g)) (hc : C i j) (hr : ∀ F, Da F (g i j) r) : OpD X f (.int i) (.int j) r :=
  ⟨_, h, fun F H σ S v u st h1 h2 Q k => by
    cases h1; cases h2
    exact ⟨i, j, rfl, rfl, hc, k _ F H (.refl st) (hr F)⟩⟩
theorem o_add {i j : Int} : OpD X (binaryOp .Add) (.int i) (.int j) (.int (i + j)) := .i0 op_add fun _ => .int _
theorem o_sub {i j : Int} : OpD X (binaryOp .Sub) (.int i) (.int j) (.int (i - j)) := .i0 op_sub fun _ => .int _
theorem o_mul {i j : Int} (h : CMul i j) : OpD X (binaryOp .Mult) (.int i) (.int j) (.int (i * j)) := .iC op_mul h fun _ => .int _
theorem o_mod {i j : Int} (h : 0 < j) : OpD X (binaryOp .Mod) (.int i) (.int j) (.int (i % j)) := .iC op_mod h fun _ => .int _
theorem o_fdiv {i j : Int} (h : CDiv i j) : OpD X (binaryOp .FloorDiv) (.int i) (.int j) (.int (i / j)) := .iC op_fdiv h fun _ => .int _
theorem o_pow {i j : Int} (h : CPow i j) : OpD X (binaryOp .Pow) (.int i) (.int j) (.int (i ^ j.toNat)) := .iC op_pow h fun _ => .int _
theorem o_lt {i j : Int} : OpD X (compareOp .Lt) (.int i) (.int j) (.bool (decide (i < j))) := .i0 op_lt fun _ => .bl _
theorem o_le {i j : Int} : OpD X (compareOp .LtE) (.int i) (.int j) (.bool (decide (i ≤ j))) := .i0 op_le fun _ => .bl _
theorem o_gt {i j : Int} : OpD X (compareOp .Gt) (.int i) (.int j) (.bool (decide (j < i))) := .i0 op_gt fun _ => .bl _
theorem o_ge {i j : Int} : OpD X (compareOp .GtE) (.int i) (.int j) (.bool (decide (j ≤ i))) := .i0 op_ge fun _ => .bl _
theorem ev_neg {i : Int} (h : Ev X a S (.int i) S1) : Ev X (.UnaryOp .USub a pos) S (.int (-i)) S1 :=
  .ofPE (pe_un un_neg (peW X a)) fun F H σ st Q k => h.use st fun v F1 H1 p w => by
    cases w
    exact ⟨i, rfl, k _ F1 H1 p (.int _)⟩

/-! ### == and != of data, is -/
theorem o_eq (hu : X.A.units + 64 < cLine) (s1 : SeqAt.shaped d1 = true) (s2 : SeqAt.shaped d2 = true) : OpD X (compareOp .Eq) d1 d2 (.bool (PyData.eqv d1 d2)) :=
  ⟨_, op_eqD hu, fun F H σ S v u st h1 h2 Q k => ⟨d1, d2, Da.dp _ _ (Da.mono st.same _ _ h1), Da.dp _ _ (Da.mono st.same _ _ h2), s1, s2, k _ F H (.refl st) (.bl _)⟩⟩
theorem o_ne (hu : X.A.units + 64 < cLine) (s1 : SeqAt.shaped d1 = true) (s2 : SeqAt.shaped d2 = true) : OpD X (compareOp .NotEq) d1 d2 (.bool (!PyData.eqv d1 d2)) :=
  ⟨_, op_neD hu, fun F H σ S v u st h1 h2 Q k => ⟨d1, d2, Da.dp _ _ (Da.mono st.same _ _ h1), Da.dp _ _ (Da.mono st.same _ _ h2), s1, s2, k _ F H (.refl st) (.bl _)⟩⟩
def isNone : PyData → Bool
  | .none => true
  | _ => false
theorem Da.none_iff {v : V} (h : Da F v d) : decide (v = .non) = isNone d := by cases h <;> rfl
theorem o_isN : OpD X (compareOp .Is) d .none (.bool (isNone d)) :=
  ⟨_, op_isN, fun F H σ S v u st h1 h2 Q k => by
    cases h2
    refine ⟨rfl, ?_⟩
    rw [h1.none_iff]
    exact k _ F H (.refl st) (.bl _)⟩
theorem o_notN : OpD X (compareOp .IsNot) d .none (.bool (!isNone d)) :=
  ⟨_, op_notN, fun F H σ S v u st h1 h2 Q k => by
    cases h2
    refine ⟨rfl, ?_⟩
    rw [h1.none_iff]
    exact k _ F H (.refl st) (.bl _)⟩
theorem o_isB {c1 c2 : Bool} : OpD X (compareOp .Is) (.bool c1) (.bool c2) (.bool (decide (c1 = c2))) :=
  ⟨_, op_isBl, fun F H σ S v u st h1 h2 Q k => by
    cases h1; cases h2
    exact ⟨c1, c2, rfl, rfl, k _ F H (.refl st) (.bl _)⟩⟩
theorem o_notB {c1 c2 : Bool} : OpD X (compareOp .IsNot) (.bool c1) (.bool c2) (.bool (!decide (c1 = c2))) :=
  ⟨_, op_notBl, fun F H σ S v u st h1 h2 Q k => by
    cases h1; cases h2
    exact ⟨c1, c2, rfl, rfl, k _ F H (.refl st) (.bl _)⟩⟩

/-! ### texts, tuples, lists: + -/
theorem o_addS {x y : Str} (h : x.length + y.length ≤ sizeLine) : OpD X (binaryOp .Add) (.str x) (.str y) (.str (x ++ y)) :=
  ⟨_, op_add_str, fun F H σ S v u st h1 h2 Q k => by
    cases h1; cases h2
    exact ⟨x, y, rfl, rfl, h, k _ F H (.refl st) (.str _)⟩⟩
theorem o_catT {xs ys : List PyData} (h : xs.length + ys.length ≤ sizeLine) : OpD X (binaryOp .Add) (.tuple xs) (.tuple ys) (.tuple (xs ++ ys)) :=
  ⟨_, op_catA, fun F H σ S v u st h1 h2 Q k => by
    cases h1 with
    | @tup a us _ q1 r1 =>
      cases h2 with
      | @tup b ws _ q2 r2 =>
        refine ⟨a, b, us, ws, rfl, rfl, .inl (Rd.same st.same q1), .inl (Rd.same st.same q2), by rw [r1.length, r2.length]; exact h, fun e => ?_, fun _ e => ?_, fun _ _ p hp => ?_⟩
        · subst e; cases r1
          exact k _ F H (.refl st) (.tup q2 r2)
        · subst e; cases r2
          rw [List.append_nil] at k
          exact k _ F H (.refl st) (.tup q1 r1)
        · exact k _ _ _ (.frozen st hp) (.tup rd_new (Das.new (st.fnone hp) (r1.append r2)))⟩
theorem op_catR : OpR X (binaryOp .Add) (fun x y H Q => ∃ l b xs zs, x = .ref l ∧ y = .ref b ∧ Rd H l (.lst xs) ∧ Rd H b (.lst zs) ∧ xs.length + zs.length ≤ sizeLine ∧ ∀ p, H p = none → Q (.ref p) (upd H p (.lst (xs ++ zs)))) := by
  intro pins s σ H x y v u Q I rx ry h
  obtain ⟨l, b, xs, zs, rfl, rfl, hH, hB, hz, q⟩ := h
  cases rx
  cases ry
  obtain ⟨z, its, n, r1, e1⟩ := hH.ok I.hok
  obtain ⟨z2, its2, n2, r2, e2⟩ := hB.ok I.hok
  have l1 := r1.length
  have l2 := r2.length
  refine PySem.P.add_list e1 e2 ?_ (by rw [List.size_toArray, List.size_toArray]; omega)
  rw [show its.toArray ++ its2.toArray = (its ++ its2).toArray by simp]
  exact ⟨.ref _, _, I.lnew (t' := s.toks) (r1.append r2) (by rw [List.length_append]; omega), rfl, q _ I.fresh⟩
theorem o_catL {xs ys : List PyData} (h : xs.length + ys.length ≤ sizeLine) : OpD X (binaryOp .Add) (.list xs) (.list ys) (.list (xs ++ ys)) :=
  ⟨_, op_catR, fun F H σ S v u st h1 h2 Q k => by
    cases h1 with
    | @lst a us _ q1 r1 =>
      cases h2 with
      | @lst b ws _ q2 r2 =>
        refine ⟨a, b, us, ws, rfl, rfl, Rd.same st.same q1, Rd.same st.same q2, by rw [r1.length, r2.length]; exact h, fun p hp => ?_⟩
        exact k _ _ _ (.frozen st hp) (.lst rd_new (Das.new (st.fnone hp) (r1.append r2)))⟩

/-! ### in -/
theorem o_inL {ds : List PyData} (hu : X.A.units + 65 < cLine) (s1 : SeqAt.shaped d = true) (s2 : SeqAt.shaped (.list ds) = true) : OpD X (compareOp .In) d (.list ds) (.bool (ds.any fun z => PyData.eqv z d)) :=
  ⟨_, op_inD hu, fun F H σ S v u st h1 h2 Q k => ⟨d, ds, Da.dp _ _ (Da.mono st.same _ _ h1), Da.dp _ _ (Da.mono st.same _ _ h2), s1, s2, k _ F H (.refl st) (.bl _)⟩⟩
theorem o_notInL {ds : List PyData} (hu : X.A.units + 65 < cLine) (s1 : SeqAt.shaped d = true) (s2 : SeqAt.shaped (.list ds) = true) : OpD X (compareOp .NotIn) d (.list ds) (.bool (!ds.any fun z => PyData.eqv z d)) :=
  ⟨_, op_notInD hu, fun F H σ S v u st h1 h2 Q k => ⟨d, ds, Da.dp _ _ (Da.mono st.same _ _ h1), Da.dp _ _ (Da.mono st.same _ _ h2), s1, s2, k _ F H (.refl st) (.bl _)⟩⟩
theorem o_inSign {c : Nat} {z : Str} : OpD X (compareOp .In) (.str ⟨#[c]⟩) (.str z) (.bool (decide (c ∈ z.cps.toList))) :=
  ⟨_, op_in_sign, fun F H σ S v u st h1 h2 Q k => by
    cases h1; cases h2
    exact ⟨c, z, rfl, rfl, k _ F H (.refl st) (.bl _)⟩⟩
theorem o_notInSign {c : Nat} {z : Str} : OpD X (compareOp .NotIn) (.str ⟨#[c]⟩) (.str z) (.bool (!decide (c ∈ z.cps.toList))) :=
  ⟨_, op_notIn_sign, fun F H σ S v u st h1 h2 Q k => by
    cases h1; cases h2
    exact ⟨c, z, rfl, rfl, k _ F H (.refl st) (.bl _)⟩⟩

/-! ### items, slices -/
def IxD (X : Cx) (d e r : PyData) : Prop :=
  ∃ R : R2, IxR X R ∧ ∀ F H σ S v u, XOk X F H σ S → Da F v d → Da F u e → ∀ Q : VK, (∀ z F' H', Stp X.prog X.w F H S F' H' σ S → Da F' z r → Q z H') → R v u H Q
theorem ev_ix (ha : Ev X a S d1 S1) (hb : Ev X b S1 d2 S2) (ho : IxD X d1 d2 r) (hs : PlainIx b := by intro _ _; rfl) : Ev X (.Subscript a b pos) S r S2 := by
  obtain ⟨R, h1, h2⟩ := ho
  refine .ofPE (pe_ix h1 (peW X a) (peW X b) hs) fun F H σ st Q k => ?_
  refine ha.use st fun v F1 H1 p1 w1 => hb.use p1.st fun u F2 H2 p2 w2 => ?_
  exact h2 F2 H2 σ S2 v u p2.st (Da.mono p2.aft.ff _ _ w1) w2 Q fun z F' H' p w => k z F' H' ((p1.trans p2).trans p) w
theorem atI_das {vs : List V} {ds : List PyData} {i : Int} (w : Das F vs ds) (h : atI ds i = some r) : ∃ v, atI vs i = some v ∧ Da F v r := by
  unfold atI at h ⊢
  rw [w.length]
  cases e : ixN ds.length i with
  | none => rw [e] at h; cases h
  | some j =>
    rw [e] at h
    exact w.get h
theorem ix_l {ds : List PyData} {i : Int} (h : atI ds i = some r) : IxD X (.list ds) (.int i) r :=
  ⟨_, ix_list, fun F H σ S v u st h1 h2 Q k => by
    cases h1 with
    | @lst a us _ q1 r1 =>
      cases h2
      obtain ⟨z, e, w⟩ := atI_das r1 h
      exact ⟨a, us, i, z, rfl, rfl, .inl (Rd.same st.same q1), e, k _ F H (.refl st) w⟩⟩
theorem ix_t {ds : List PyData} {i : Int} (h : atI ds i = some r) : IxD X (.tuple ds) (.int i) r :=
  ⟨_, ix_tup, fun F H σ S v u st h1 h2 Q k => by
    cases h1 with
    | @tup a us _ q1 r1 =>
      cases h2
      obtain ⟨z, e, w⟩ := atI_das r1 h
      exact ⟨a, us, i, z, rfl, rfl, .inl (Rd.same st.same q1), e, k _ F H (.refl st) w⟩⟩
theorem ix_s {x : Str} {i : Int} {c : Nat} (h : atI x.cps.toList i = some c) (hz : x.length ≤ sizeLine) : IxD X (.str x) (.int i) (.str ⟨#[c]⟩) :=
  ⟨_, ix_str, fun F H σ S v u st h1 h2 Q k => by
    cases h1; cases h2
    exact ⟨x, i, c, rfl, rfl, hz, h, k _ F H (.refl st) (.str _)⟩⟩
/-- an item of a list that is owned -/
theorem ev_ixO {p' : Addr} {ds : List PyData} {i : Int} (ha : EvR X a S (OV.lst p' ds) S1) (hb : Ev X b S1 (.int i) S1) (h : atI ds i = some r) (own : ∃ j : Nat, S1[j]? = some (some (OV.lst p' ds))) (hs : PlainIx b := by intro _ _; rfl) : Ev X (.Subscript a b pos) S r S1 := by
  refine .ofPE (pe_ix ix_list (peW X a) (peW X b) hs) fun F H σ st Q k => ?_
  refine ha F H σ st _ fun v F1 H1 s1 => ?_
  have p1 : Stp X.prog X.w F H S F1 H1 σ S1 := s1.stp
  have hv : v = .ref p' := s1.own.root rfl
  refine hb.use p1.st fun u F2 H2 p2 w2 => ?_
  cases w2
  obtain ⟨j, ej⟩ := own
  obtain ⟨v2, _, o2⟩ := p2.st.slot j _ ej
  cases o2 with
  | @lst _ us _ q1 r1 =>
    obtain ⟨z, e, w⟩ := atI_das r1 h
    exact ⟨p', us, i, z, hv, rfl, .inl (.inl q1), e, k _ F2 H2 (p1.trans p2) w⟩
/-- a part of a slice -/
def EvP (X : Cx) (e : Option Expr) (S : ASt) (i : Option Int) (S' : ASt) : Prop :=
  ∃ t, PO X e t ∧ ∀ F H σ, XOk X F H σ S → ∀ Q : Option Int → Hp → Prop, (∀ F' H', Stp X.prog X.w F H S F' H' σ S' → Q i H') → t σ H Q
theorem evp_none : EvP X none S none S := ⟨_, po_none, fun F H σ st Q k => k F H (.refl st)⟩
theorem evp_some {i : Int} (h : Ev X e S (.int i) S1) : EvP X (some e) S (some i) S1 := ⟨_, po_some (peW X e), fun F H σ st Q k => h.use st fun v F' H' p w => by
  cases w
  exact ⟨i, rfl, k F' H' p⟩⟩
/-- the items lo .. hi -/
def cutD (ds : List PyData) (lo hi : Option Int) : List PyData := (ds.drop (HT.sIx ds.length 0 lo)).take (HT.sIx ds.length ds.length hi - HT.sIx ds.length 0 lo)
theorem cut_das {vs : List V} {ds : List PyData} {lo hi : Option Int} (w : Das F vs ds) : Das F (cutV vs lo hi) (cutD ds lo hi) := by
  unfold cutV cutD
  rw [w.length]
  exact (w.drop _).take _
theorem cut_whole {ds : List PyData} {lo hi : Option Int} (h : HT.sIx ds.length 0 lo = 0 ∧ HT.sIx ds.length ds.length hi = ds.length) : cutD ds lo hi = ds := by
  unfold cutD
  rw [h.1, h.2, List.drop_zero, Nat.sub_zero, List.take_length]
variable {lo hi : Option Expr} {l u : Option Int} {S3 : ASt} {p2 : Pos}
theorem ev_slT {ds : List PyData} (h : Ev X e S (.tuple ds) S1) (hl : EvP X lo S1 l S2) (hh : EvP X hi S2 u S3) : Ev X (.Subscript e (.Slice lo hi none p2) pos) S (.tuple (cutD ds l u)) S3 := by
  obtain ⟨tl, l1, l2⟩ := hl
  obtain ⟨th, u1, u2⟩ := hh
  refine .ofPE (pe_slice sl_tupA (peW X e) l1 u1) fun F H σ st Q k => ?_
  refine h.use st fun v F1 H1 q1 w => l2 F1 H1 σ q1.st _ fun F2 H2 q2 => u2 F2 H2 σ q2.st _ fun F3 H3 q3 => ?_
  cases w with
  | @tup a us _ r1 r2 =>
    have q23 := q2.trans q3
    have r1' := Rd.same q23.aft.ff r1
    have r2' := Das.mono q23.aft.ff _ _ r2
    refine ⟨a, us, rfl, .inl (Rd.same q3.st.same r1'), fun hw => ?_, fun _ p hp => ?_⟩
    · rw [r2.length] at hw
      rw [cut_whole hw] at k
      exact k _ F3 H3 (q1.trans q23) (.tup r1' r2')
    · exact k _ _ _ ((q1.trans q23).trans (.frozen q3.st hp)) (.tup rd_new (Das.new (q3.st.fnone hp) (cut_das r2')))
theorem ev_slL {ds : List PyData} (h : Ev X e S (.list ds) S1) (hl : EvP X lo S1 l S2) (hh : EvP X hi S2 u S3) : Ev X (.Subscript e (.Slice lo hi none p2) pos) S (.list (cutD ds l u)) S3 := by
  obtain ⟨tl, l1, l2⟩ := hl
  obtain ⟨th, u1, u2⟩ := hh
  refine .ofPE (pe_slice sl_list (peW X e) l1 u1) fun F H σ st Q k => ?_
  refine h.use st fun v F1 H1 q1 w => l2 F1 H1 σ q1.st _ fun F2 H2 q2 => u2 F2 H2 σ q2.st _ fun F3 H3 q3 => ?_
  cases w with
  | @lst a us _ r1 r2 =>
    have q23 := q2.trans q3
    have r1' := Rd.same q23.aft.ff r1
    have r2' := Das.mono q23.aft.ff _ _ r2
    refine ⟨a, us, rfl, .inl (Rd.same q3.st.same r1'), fun p hp => ?_⟩
    exact k _ _ _ ((q1.trans q23).trans (.frozen q3.st hp)) (.lst rd_new (Das.new (q3.st.fnone hp) (cut_das r2')))
theorem ev_slS {x : Str} (h : Ev X e S (.str x) S1) (hl : EvP X lo S1 l S2) (hh : EvP X hi S2 u S3) (hz : x.length ≤ sizeLine) : Ev X (.Subscript e (.Slice lo hi none p2) pos) S (.str (cutS x l u)) S3 := by
  obtain ⟨tl, l1, l2⟩ := hl
  obtain ⟨th, u1, u2⟩ := hh
  refine .ofPE (pe_slice sl_str (peW X e) l1 u1) fun F H σ st Q k => ?_
  refine h.use st fun v F1 H1 q1 w => l2 F1 H1 σ q1.st _ fun F2 H2 q2 => u2 F2 H2 σ q2.st _ fun F3 H3 q3 => ?_
  cases w
  exact ⟨x, rfl, hz, k _ F3 H3 (q1.trans (q2.trans q3)) (.str _)⟩

/-! ### built-ins -/
def CallD (X : Cx) (f : Value) (ds : List PyData) (r : PyData) : Prop :=
  ∃ R : List V → Hp → VK → Prop, CallR X f R ∧ ∀ F H σ S vs, XOk X F H σ S → Das F vs ds → ∀ Q : VK, (∀ z F' H', Stp X.prog X.w F H S F' H' σ S → Da F' z r → Q z H') → R vs H Q
variable {x : Str} {id T : String} {ds : List PyData}
theorem ev_bi (ho : CallD X (.builtin id) ds r) (ha : EvA X (e :: es) S ds S1) (hm : X.mg x = none) (hv : bootBuiltins x = some (.builtin id)) (hg : Gl X x := by rfl) (hn : x ≠ "__name__" := by decide) (hdb : (x == ("__debug__" : Str)) = false := by decide)
    (he : starEach (e :: es) X.env = (false, eval e X.env) :: starEach es X.env := by exact star_plain rfl) (hpl : (backTo pos (starEach es X.env)).any (·.1) = false := by exact back_plain rfl) : Ev X (.Call (.Name x p) (e :: es) [] pos) S r S1 := by
  obtain ⟨R, h1, h2⟩ := ho
  refine .ofPE (pe_callB h1 hg hm hv (paW X (e :: es)) hn hdb he hpl) fun F H σ st Q k => ?_
  exact ha F H σ st _ fun vs F1 H1 p1 w1 => h2 F1 H1 σ S1 vs p1.st w1 Q fun z F' H' p w => k z F' H' (p1.trans p) w
theorem ev_ty (ho : CallD X (.type T) ds r) (ha : EvA X (e :: es) S ds S1) (hm : X.mg x = none) (hv : bootBuiltins x = some (.type T)) (hg : Gl X x := by rfl) (hn : x ≠ "__name__" := by decide) (hdb : (x == ("__debug__" : Str)) = false := by decide)
    (he : starEach (e :: es) X.env = (false, eval e X.env) :: starEach es X.env := by exact star_plain rfl) (hpl : (backTo pos (starEach es X.env)).any (·.1) = false := by exact back_plain rfl) : Ev X (.Call (.Name x p) (e :: es) [] pos) S r S1 := by
  obtain ⟨R, h1, h2⟩ := ho
  refine .ofPE (pe_callTy h1 hg hm hv (paW X (e :: es)) hn hdb he hpl) fun F H σ st Q k => ?_
  exact ha F H σ st _ fun vs F1 H1 p1 w1 => h2 F1 H1 σ S1 vs p1.st w1 Q fun z F' H' p w => k z F' H' (p1.trans p) w
theorem das1 {vs : List V} (h : Das F vs [d]) : ∃ v, vs = [v] ∧ Da F v d := by
  cases h with
  | cons a b => cases b; exact ⟨_, rfl, a⟩
theorem das2 {vs : List V} (h : Das F vs [d1, d2]) : ∃ v u, vs = [v, u] ∧ Da F v d1 ∧ Da F u d2 := by
  cases h with
  | cons a b =>
    obtain ⟨u, rfl, q⟩ := das1 b
    exact ⟨_, u, rfl, a, q⟩
theorem c_lenL : CallD X (.builtin "len") [.list ds] (.int ds.length) := ⟨_, call_len_seq, fun F H σ S vs st w Q k => by
  obtain ⟨v, rfl, w1⟩ := das1 w
  cases w1 with
  | @lst a us _ q r =>
    refine ⟨a, us, rfl, .inl (.inl (Rd.same st.same q)), ?_⟩
    rw [r.length]
    exact k _ F H (.refl st) (.int _)⟩
theorem c_lenT : CallD X (.builtin "len") [.tuple ds] (.int ds.length) := ⟨_, call_len_seq, fun F H σ S vs st w Q k => by
  obtain ⟨v, rfl, w1⟩ := das1 w
  cases w1 with
  | @tup a us _ q r =>
    refine ⟨a, us, rfl, .inr (.inl (Rd.same st.same q)), ?_⟩
    rw [r.length]
    exact k _ F H (.refl st) (.int _)⟩
theorem c_lenS {y : Str} (h : y.length ≤ sizeLine) : CallD X (.builtin "len") [.str y] (.int y.length) := ⟨_, call_len_str, fun F H σ S vs st w Q k => by
  obtain ⟨v, rfl, w1⟩ := das1 w
  cases w1
  exact ⟨y, rfl, h, k _ F H (.refl st) (.int _)⟩⟩
theorem c_tupL : CallD X (.type "tuple") [.list ds] (.tuple ds) := ⟨_, call_tuple_of, fun F H σ S vs st w Q k => by
  obtain ⟨v, rfl, w1⟩ := das1 w
  cases w1 with
  | @lst a us _ q r => exact ⟨a, us, rfl, .inl ⟨.inl (Rd.same st.same q), fun l hl => k _ _ _ (.frozen st hl) (.tup rd_new (Das.new (st.fnone hl) r))⟩⟩⟩
theorem c_tupT : CallD X (.type "tuple") [.tuple ds] (.tuple ds) := ⟨_, call_tuple_of, fun F H σ S vs st w Q k => by
  obtain ⟨v, rfl, w1⟩ := das1 w
  cases w1 with
  | @tup a us _ q r => exact ⟨a, us, rfl, .inr ⟨.inl (Rd.same st.same q), k _ F H (.refl st) (.tup q r)⟩⟩⟩
theorem c_lstL : CallD X (.type "list") [.list ds] (.list ds) := ⟨_, call_list_of, fun F H σ S vs st w Q k => by
  obtain ⟨v, rfl, w1⟩ := das1 w
  cases w1 with
  | @lst a us _ q r => exact ⟨a, us, rfl, .inl (.inl (Rd.same st.same q)), fun l hl => k _ _ _ (.frozen st hl) (.lst rd_new (Das.new (st.fnone hl) r))⟩⟩
theorem c_lstT : CallD X (.type "list") [.tuple ds] (.list ds) := ⟨_, call_list_of, fun F H σ S vs st w Q k => by
  obtain ⟨v, rfl, w1⟩ := das1 w
  cases w1 with
  | @tup a us _ q r => exact ⟨a, us, rfl, .inr (.inl (Rd.same st.same q)), fun l hl => k _ _ _ (.frozen st hl) (.lst rd_new (Das.new (st.fnone hl) r))⟩⟩
theorem das_ints : ∀ {ns : List Int} {vs : List V}, Das F vs (ns.map .int) → vs = ns.map V.int
  | [], _, h => by cases h; rfl
  | n :: ns, _, h => by
    cases h with
    | cons q r => cases q; rw [das_ints r]; rfl
theorem das_bools : ∀ {ns : List Bool} {vs : List V}, Das F vs (ns.map .bool) → vs = ns.map V.bl
  | [], _, h => by cases h; rfl
  | n :: ns, _, h => by
    cases h with
    | cons q r => cases q; rw [das_bools r]; rfl
theorem das_strs : ∀ {ns : List Str} {vs : List V}, Das F vs (ns.map .str) → vs = ns.map V.str
  | [], _, h => by cases h; rfl
  | n :: ns, _, h => by
    cases h with
    | cons q r => cases q; rw [das_strs r]; rfl
theorem c_sum {ns : List Int} (hc : X.calm = true := by rfl) : CallD X (.builtin "sum") [.list (ns.map .int)] (.int ns.sum) := ⟨_, cr_sum hc, fun F H σ S vs st w Q k => by
  obtain ⟨v, rfl, w1⟩ := das1 w
  cases w1 with
  | @lst a us _ q r =>
    rw [das_ints r] at q
    exact ⟨a, ns, rfl, .inl (Rd.same st.same q), k _ F H (.refl st) (.int _)⟩⟩
theorem c_all {bs : List Bool} (hc : X.calm = true := by rfl) : CallD X (.builtin "all") [.list (bs.map .bool)] (.bool (bs.all fun c => c)) := ⟨_, cr_all hc, fun F H σ S vs st w Q k => by
  obtain ⟨v, rfl, w1⟩ := das1 w
  cases w1 with
  | @lst a us _ q r =>
    rw [das_bools r] at q
    exact ⟨a, bs, rfl, .inl (Rd.same st.same q), k _ F H (.refl st) (.bl _)⟩⟩
theorem c_any {bs : List Bool} (hc : X.calm = true := by rfl) : CallD X (.builtin "any") [.list (bs.map .bool)] (.bool (bs.any fun c => c)) := ⟨_, cr_any hc, fun F H σ S vs st w Q k => by
  obtain ⟨v, rfl, w1⟩ := das1 w
  cases w1 with
  | @lst a us _ q r =>
    rw [das_bools r] at q
    exact ⟨a, bs, rfl, .inl (Rd.same st.same q), k _ F H (.refl st) (.bl _)⟩⟩
theorem c_max {i j : Int} (hc : X.calm = true := by rfl) : CallD X (.builtin "max") [.int i, .int j] (.int (if j > i then j else i)) := ⟨_, call_max2 hc, fun F H σ S vs st w Q k => by
  obtain ⟨v, u, rfl, w1, w2⟩ := das2 w
  cases w1; cases w2
  exact ⟨i, j, rfl, k _ F H (.refl st) (.int _)⟩⟩
theorem c_min {i j : Int} (hc : X.calm = true := by rfl) : CallD X (.builtin "min") [.int i, .int j] (.int (if j < i then j else i)) := ⟨_, call_min2 hc, fun F H σ S vs st w Q k => by
  obtain ⟨v, u, rfl, w1, w2⟩ := das2 w
  cases w1; cases w2
  exact ⟨i, j, rfl, k _ F H (.refl st) (.int _)⟩⟩
theorem c_intB {c : Bool} : CallD X (.type "int") [.bool c] (.int (if c then 1 else 0)) := ⟨_, call_int1, fun F H σ S vs st w Q k => by
  obtain ⟨v, rfl, w1⟩ := das1 w
  cases w1
  exact .inr ⟨c, rfl, k _ F H (.refl st) (.int _)⟩⟩
/-- an item of an owned list is stored -/
theorem s_ixset (j : Nat) {i val : Expr} {n : Nat} {p' : Addr} {k : Int} {ds : List PyData} {x' : Str} {px tpos : Pos} {D : AE} (hv : Ev X val S d S1) (hi : Ev X i S1 (.int k) S2) (hS : S2[j]? = some (some (OV.lst p' ds))) (hk : ixN ds.length k = some n) (q : D.nx (S2.set j (some (.lst p' (ds.set n d))))) (hS1 : S1[j]? = some (some (OV.lst p' ds)) := by rfl)
    (hN : X.N[j]? = some x' := by rfl) (hvis : Vis X.env.scope x' := by first | exact Or.inl rfl | exact Or.inr (Or.inl rfl) | exact Or.inr (Or.inr rfl)) (hd : (x' == ("__debug__" : Str)) = false := by decide) (hcd : (x' == ("__classdict__" : Str)) = false := by decide)
    (ha : ∀ v, assign (.Subscript (.Name x' px) i tpos) X.env v = (do
      let ov ← holding [v] (eval (.Name x' px) X.env)
      let iv ← holding [v, ov] (eval i X.env)
      standAt tpos
      holding [v, ov, iv] (setItem ov iv v)
      release [v, ov, iv] []) := by intro _; rfl)
    (hs : swapsWithSole [.Subscript (.Name x' px) i tpos] val pos.line X.env = pure false := by rfl) (hw : swappedStores [.Subscript (.Name x' px) i tpos] val X.env = pure none := by rfl)
    (h1 : (assignEach [.Subscript (.Name x' px) i tpos] X.env).map (·.2) = [assign (.Subscript (.Name x' px) i tpos) X.env] := by rfl) : SH.S1 X (.Assign [.Subscript (.Name x' px) i tpos] val pos) S D := fun F H σ st D' kk => by
  refine (ps_asg (peW X val) (pg_sub (pe_var hN hvis hd hcd) (peW X i) set_list ha) hs hw h1).wp ?_
  refine hv.use st fun v F1 H1 p1 w1 => ?_
  obtain ⟨u, e1, o1⟩ := p1.st.slot j _ hS1
  refine ⟨u, e1, ?_⟩
  refine hi.use p1.st fun iv F2 H2 p2 w2 => ?_
  cases w2
  obtain ⟨u2, e2, o2⟩ := p2.st.slot j _ hS
  rw [e1] at e2; cases e2
  have hu := o2.root (p := p') rfl
  subst hu
  cases o2 with
  | @lst _ us _ q1 r1 =>
    refine ⟨p', us, k, n, rfl, rfl, q1, by rw [r1.length]; exact hk, ?_⟩
    have p12 := p1.trans p2
    refine kk.nx σ F2 _ _ (p12.thn (.poke (o := .lst (us.set n v)) p2.st hS ?_ rfl)) q
    exact .lst upd_same (Das.set (Da.mono p2.aft.ff _ _ w1) n r1)
/-- sep.join(a list of texts) -/
theorem ev_join {y : Str} {ys : List Str} {o : Expr} {apos cpos : Pos} (ho : Ev X o S (.str y) S1) (he : Ev X e S1 (.list (ys.map .str)) S2) (hz : (ys.map (·.length)).sum + ys.length * y.length ≤ 16777216) (hs : starEach [e] X.env = [(false, eval e X.env)] := by exact star_plain rfl)
    (hbase : attributeBase o "join" X.env (eval o X.env) = eval o X.env := by rfl) (hline : (apos.endLine == cpos.line) = true := by rfl) : Ev X (.Call (.Attribute o "join" apos) [e] [] cpos) S (.str (Txt.join y ys)) S2 := by
  refine .ofPE (pe_join (peW X o) (peW X e) hs hbase hline) fun F H σ st Q k => ?_
  refine ho.use st fun v F1 H1 p1 w1 => ?_
  cases w1
  refine ⟨⟨_, rfl⟩, ?_⟩
  refine he.use p1.st fun u F2 H2 p2 w2 => ?_
  cases w2 with
  | @lst a us _ q r =>
    rw [das_strs r] at q
    exact ⟨y, a, ys, rfl, rfl, .inl (.inl (Rd.same p2.st.same q)), hz, k _ F2 H2 (p1.trans p2) (.str _)⟩
end
end SH
/-! SHg: freezing in place, lists' methods, isinstance, chains, truth. -/
namespace SH
open PySem PySem.Spec PyProof.Rows L2

section
variable {X : Cx} {F H F' H' : Hp} {σ : L2.St} {S S1 S2 : ASt} {a b c e : Expr} {es : List Expr} {d d1 d2 r : PyData} {pos p : Pos}
theorem sx_freeze (j : Nat) {p' : Addr} {ds : List PyData} {st : List Stmt} {D : AE} (hS : S[j]? = some (some (.lst p' ds))) (h : SX X st (S.set j (some (.dat (.list ds)))) D) : SX X st S D := fun F H σ ok D' k => by
  obtain ⟨F', p⟩ := ok.freeze hS
  exact h F' H σ p.st D' (k.go p)
/-- return of an owned list, frozen -/
theorem s_retO (j : Nat) {p' : Addr} {ds : List PyData} {D : AE} {x : Str} {npos : Pos} (hS : S[j]? = some (some (.lst p' ds))) (q : D.rt (.dat (.list ds)) (S.set j (some (.dat (.list ds))))) (hN : X.N[j]? = some x := by rfl) (hv : Vis X.env.scope x := by first | exact Or.inl rfl | exact Or.inr (Or.inl rfl) | exact Or.inr (Or.inr rfl))
    (hd : (x == ("__debug__" : Str)) = false := by decide) (hcd : (x == ("__classdict__" : Str)) = false := by decide) : SH.S1 X (.Return (some (.Name x npos)) pos) S D := fun F H σ ok D' k => by
  obtain ⟨F', p⟩ := ok.freeze hS
  have hlt : j < S.length := (List.getElem?_eq_some_iff.mp hS).1
  exact s_ret (ev_name j (List.getElem?_set_self hlt) hN hv hd hcd) q F' H σ p.st D' (k.go p)

/-! ### the methods of an owned list -/
section
variable {j : Nat} {p' : Addr} {ds : List PyData} {x : Str} {px apos cpos : Pos} {D : AE}
theorem own_at {P : Program} {w : World} (st : StOk P w F H σ S) (hS : S[j]? = some (some (.lst p' ds))) : σ[j]? = some (some (.ref p')) ∧ ∃ us, H p' = some (.lst us) ∧ Das F us ds := by
  obtain ⟨v, e1, o1⟩ := st.slot j _ hS
  cases o1 with
  | lst q w => exact ⟨e1, _, q, w⟩
/-- xs.append(e) -/
theorem ev_append (hS : S[j]? = some (some (.lst p' ds))) (he : Ev X e S d S1) (hS1 : S1[j]? = some (some (.lst p' ds))) (hz : ds.length < sizeLine) (hN : X.N[j]? = some x := by rfl) (hv : Vis X.env.scope x := by first | exact Or.inl rfl | exact Or.inr (Or.inl rfl) | exact Or.inr (Or.inr rfl))
    (hd : (x == ("__debug__" : Str)) = false := by decide) (hcd : (x == ("__classdict__" : Str)) = false := by decide)
    (hbase : attributeBase (.Name x px) "append" X.env (eval (.Name x px) X.env) = eval (.Name x px) X.env := by rfl)
    (hfew : ((backTo cpos (starEach [e] X.env)).all (fun x => !x.1) && (backToKw cpos (keywordEach [] X.env)).all (fun x => x.1.isSome)
      && decide (([e] : List Expr).length + ([] : List Keyword).length + (if ([] : List Keyword).isEmpty then 0 else 1) < 30)) = true := by rfl)
    (hline : (apos.endLine == cpos.line) = true := by rfl) (hs : starEach [e] X.env = (false, eval e X.env) :: starEach [] X.env := by exact star_plain rfl) (hplain : (backTo cpos (starEach [] X.env)).any (·.1) = false := by exact back_plain rfl) :
    Ev X (.Call (.Attribute (.Name x px) "append" apos) [e] [] cpos) S .none (S1.set j (some (.lst p' (ds ++ [d])))) := by
  refine .ofPE (pe_bm PySem.F.plainAttrs_list PySem.F.slot_list_append PySem.F.type_list_append mt_append (pe_var hN hv hd hcd) (paW X [e]) hbase hfew hline hs hplain) fun F H σ st Q k => ?_
  obtain ⟨e1, us, q1, w1⟩ := own_at st hS
  refine ⟨_, e1, .inl ⟨rfl, us, SqL.of q1⟩, ?_⟩
  refine eva_cons he eva_nil hs F H σ st _ fun vs F1 H1 p1 w2 => ?_
  obtain ⟨v, rfl, wv⟩ := das1 w2
  obtain ⟨e2, us2, q2, w3⟩ := own_at p1.st hS1
  refine ⟨p', us2, v, rfl, rfl, q2, by rw [w3.length]; exact hz, ?_⟩
  exact k _ F1 _ (p1.trans (.poke p1.st hS1 (.lst upd_same (w3.append (.cons wv .nil))) rfl)) .non
theorem m_extendT (l : Addr) (xs : Array Value) (n : Nat) (b : Addr) (ys : Array Value) (n2 : Nat) (dd : Option Addr) (sl : Array (Option Value)) (h0 : ¬(!xs.isEmpty && Builtin.List.listTooLong (xs.size + ys.size)) = true) (h1 : xs.size ≤ sizeLine) (h2 : xs.size + ys.size ≤ sizeLine + 1) :
    Meets (Builtin.«list.extend» ⟨[.ref l, .ref b], []⟩) (fun _ R s => s.heap.get? l = some { cls := .type "list", dict := none, data := .seq xs n, slots := #[] } ∧ s.heap.get? b = some { cls := .type "tuple", dict := dd, data := .seq ys n2, slots := sl } ∧
      R (.ok (.ret Value.none)) { s with heap := s.heap.update l (Obj.mapSeq fun x => x ++ ys), toks := s.toks }) :=
  .of_wp fun prog w A R s h => by
    obtain ⟨hp, g, d, tk, os⟩ := s
    obtain ⟨hl, hb, h⟩ := h
    have f1 := AutoSeq1.idx_int
    have f2 := AutoSeq1.sub_tuple_tuple
    have f3 := AutoSeq1.sub_list_list
    have f4 := AutoSeq1.sub_tuple_list
    have f5 := AutoSeq1.sub_list_tuple
    have hz' : (xs ++ ys).size ≤ sizeLine + 1 := by rw [Array.size_append]; exact h2
    wp_walk using (wpAny_updateSeq hl rfl (hz := h1) (_hz' := hz')), AutoSeq1.wpAny_loadPart' hl, AutoSeq1.wpAny_loadPart' hb
    exact ⟨_, rfl, h⟩
theorem mt_extendR : MtR X "list.extend" (fun x vs H Q => ∃ l b xs zs, x = .ref l ∧ vs = [.ref b] ∧ H l = some (.lst xs) ∧ (Rd H b (.lst zs) ∨ Rd H b (.tup zs)) ∧ xs.length + zs.length ≤ sizeLine ∧ Q .non (upd H l (.lst (xs ++ zs)))) := by
  intro pins s σ H x vs v us Q I rx rv h
  obtain ⟨l, b, xs, zs, rfl, rfl, hH, hB, hz, q⟩ := h
  cases rx
  obtain ⟨u, rfl, ru⟩ := rv.one
  cases ru
  obtain ⟨z, its, n, r, hl, e⟩ := I.lstM hH
  have fin : ∀ (its2 : List Value) (tk : Nat), Vals zs its2 → EP X pins σ Q Value.none { s with heap := s.heap.update l (Obj.mapSeq (fun a => a ++ its2.toArray)), toks := tk } := fun its2 tk r2 => by
    refine ⟨.non, _, I.lset (its' := its ++ its2) hH e (by simp) (r.append r2) ?_, rfl, q⟩
    rw [List.length_append]; exact hz
  rcases hB with hB | hB
  · obtain ⟨z2, its2, n2, r2, e2⟩ := hB.ok I.hok
    have hl2 := r2.length
    have hsz : its.toArray.size + its2.toArray.size ≤ sizeLine := by rw [List.size_toArray, List.size_toArray]; omega
    have hlong : ¬ (!its.toArray.isEmpty && Builtin.List.listTooLong (its.toArray.size + its2.toArray.size)) = true := by
      rw [notLongL hsz, Bool.and_false]
      exact Bool.false_ne_true
    refine call_meets F.slot_list_extend ⟨_, e, rfl⟩ F.entry_list_extend (F.args_list_extend_2 _ _)
      (AutoSeq1.list_extend_list_list_0 l its.toArray n b its2.toArray n2 hlong (by rw [List.size_toArray]; omega) (by omega)) ⟨e, e2, ?_⟩
    exact fin its2 _ r2
  · have ht : SqT X.K H b zs := .inl hB
    obtain ⟨its2, r2, pl, hz2⟩ := I.tuple ht
    have hl2 := r2.length
    have hsz : its.toArray.size + its2.toArray.size ≤ sizeLine := by rw [List.size_toArray, List.size_toArray]; omega
    have hlong : ¬ (!its.toArray.isEmpty && Builtin.List.listTooLong (its.toArray.size + its2.toArray.size)) = true := by
      rw [notLongL hsz, Bool.and_false]
      exact Bool.false_ne_true
    obtain ⟨⟨oc, od, dt, sl⟩, e2, hc, n2, hd⟩ := pl
    simp only at hc hd
    subst hc hd
    refine call_meets F.slot_list_extend ⟨_, e, rfl⟩ F.entry_list_extend (F.args_list_extend_2 _ _) (m_extendT l its.toArray n b its2.toArray n2 od sl hlong (by rw [List.size_toArray]; omega) (by omega)) ⟨e, e2, ?_⟩
    exact fin its2 _ r2

/-- xs.extend(e), e a list or a tuple -/
theorem ev_extend {es' : List PyData} (hS : S[j]? = some (some (.lst p' ds))) (he : Ev X e S d S1) (hd' : d = .list es' ∨ d = .tuple es') (hS1 : S1[j]? = some (some (.lst p' ds))) (hz : ds.length + es'.length ≤ sizeLine) (hN : X.N[j]? = some x := by rfl) (hv : Vis X.env.scope x := by first | exact Or.inl rfl | exact Or.inr (Or.inl rfl) | exact Or.inr (Or.inr rfl))
    (hd : (x == ("__debug__" : Str)) = false := by decide) (hcd : (x == ("__classdict__" : Str)) = false := by decide)
    (hbase : attributeBase (.Name x px) "extend" X.env (eval (.Name x px) X.env) = eval (.Name x px) X.env := by rfl)
    (hfew : ((backTo cpos (starEach [e] X.env)).all (fun x => !x.1) && (backToKw cpos (keywordEach [] X.env)).all (fun x => x.1.isSome)
      && decide (([e] : List Expr).length + ([] : List Keyword).length + (if ([] : List Keyword).isEmpty then 0 else 1) < 30)) = true := by rfl)
    (hline : (apos.endLine == cpos.line) = true := by rfl) (hs : starEach [e] X.env = (false, eval e X.env) :: starEach [] X.env := by exact star_plain rfl) (hplain : (backTo cpos (starEach [] X.env)).any (·.1) = false := by exact back_plain rfl) :
    Ev X (.Call (.Attribute (.Name x px) "extend" apos) [e] [] cpos) S .none (S1.set j (some (.lst p' (ds ++ es')))) := by
  refine .ofPE (pe_bm PySem.F.plainAttrs_list PySem.F.slot_list_extend PySem.F.type_list_extend mt_extendR (pe_var hN hv hd hcd) (paW X [e]) hbase hfew hline hs hplain) fun F H σ st Q k => ?_
  obtain ⟨e1, us, q1, w1⟩ := own_at st hS
  refine ⟨_, e1, .inl ⟨rfl, us, SqL.of q1⟩, ?_⟩
  refine eva_cons he eva_nil hs F H σ st _ fun vs F1 H1 p1 w2 => ?_
  obtain ⟨v, rfl, wv⟩ := das1 w2
  obtain ⟨e2, us2, q2, w3⟩ := own_at p1.st hS1
  have fin : ∀ zs, Das F1 zs es' → Stp X.prog X.w F H S F1 (upd H1 p' (.lst (us2 ++ zs))) σ (S1.set j (some (.lst p' (ds ++ es')))) := fun zs wz =>
    p1.trans (.poke p1.st hS1 (.lst upd_same (w3.append wz)) rfl)
  rcases hd' with rfl | rfl
  · cases wv with
    | @lst b zs _ qb wz => exact ⟨p', b, us2, zs, rfl, rfl, q2, .inl (Rd.same p1.st.same qb), by rw [w3.length, wz.length]; exact hz, k _ F1 _ (fin zs wz) .non⟩
  · cases wv with
    | @tup b zs _ qb wz => exact ⟨p', b, us2, zs, rfl, rfl, q2, .inr (Rd.same p1.st.same qb), by rw [w3.length, wz.length]; exact hz, k _ F1 _ (fin zs wz) .non⟩
/-- xs.pop() -/
theorem ev_pop (hS : S[j]? = some (some (.lst p' ds))) (hl : ds[ds.length - 1]? = some d) (hN : X.N[j]? = some x := by rfl) (hv : Vis X.env.scope x := by first | exact Or.inl rfl | exact Or.inr (Or.inl rfl) | exact Or.inr (Or.inr rfl))
    (hd : (x == ("__debug__" : Str)) = false := by decide) (hcd : (x == ("__classdict__" : Str)) = false := by decide)
    (hbase : attributeBase (.Name x px) "pop" X.env (eval (.Name x px) X.env) = eval (.Name x px) X.env := by rfl)
    (hline : (apos.endLine == cpos.line) = true := by rfl) :
    Ev X (.Call (.Attribute (.Name x px) "pop" apos) [] [] cpos) S d (S.set j (some (.lst p' ds.dropLast))) := by
  refine .ofPE (pe_bm0 PySem.F.plainAttrs_list PySem.F.slot_list_pop PySem.F.type_list_pop mt_pop (pe_var hN hv hd hcd) hbase hline) fun F H σ st Q k => ?_
  obtain ⟨e1, us, q1, w1⟩ := own_at st hS
  refine ⟨_, e1, .inl ⟨rfl, us, SqL.of q1⟩, ?_⟩
  obtain ⟨v, hv, wv⟩ := w1.get hl
  refine ⟨p', us, v, rfl, rfl, q1, by rw [w1.length]; exact hv, ?_⟩
  have hw : Das F us.dropLast ds.dropLast := by
    rw [List.dropLast_eq_take, List.dropLast_eq_take, w1.length]; exact w1.take _
  exact k _ F _ (.poke st hS (.lst upd_same hw) rfl) wv
/-- xs.insert(0, e) -/
theorem ev_insert0 {i : Expr} (hS : S[j]? = some (some (.lst p' ds))) (he0 : Ev X i S (.int 0) S2) (he : Ev X e S2 d S1) (hS1 : S1[j]? = some (some (.lst p' ds))) (hz : ds.length < sizeLine) (hN : X.N[j]? = some x := by rfl) (hv : Vis X.env.scope x := by first | exact Or.inl rfl | exact Or.inr (Or.inl rfl) | exact Or.inr (Or.inr rfl))
    (hd : (x == ("__debug__" : Str)) = false := by decide) (hcd : (x == ("__classdict__" : Str)) = false := by decide)
    (hbase : attributeBase (.Name x px) "insert" X.env (eval (.Name x px) X.env) = eval (.Name x px) X.env := by rfl)
    (hfew : ((backTo cpos (starEach [i, e] X.env)).all (fun x => !x.1) && (backToKw cpos (keywordEach [] X.env)).all (fun x => x.1.isSome)
      && decide (([i, e] : List Expr).length + ([] : List Keyword).length + (if ([] : List Keyword).isEmpty then 0 else 1) < 30)) = true := by rfl)
    (hline : (apos.endLine == cpos.line) = true := by rfl) (hs : starEach [i, e] X.env = (false, eval i X.env) :: starEach [e] X.env := by exact star_plain rfl) (hs2 : starEach [e] X.env = (false, eval e X.env) :: starEach [] X.env := by exact star_plain rfl) (hplain : (backTo cpos (starEach [e] X.env)).any (·.1) = false := by exact back_plain rfl) :
    Ev X (.Call (.Attribute (.Name x px) "insert" apos) [i, e] [] cpos) S .none (S1.set j (some (.lst p' (d :: ds)))) := by
  refine .ofPE (pe_bm PySem.F.plainAttrs_list PySem.F.slot_list_insert PySem.F.type_list_insert mt_insert (pe_var hN hv hd hcd) (paW X [i, e]) hbase hfew hline hs hplain) fun F H σ st Q k => ?_
  obtain ⟨e1, us, q1, w1⟩ := own_at st hS
  refine ⟨_, e1, .inl ⟨rfl, us, SqL.of q1⟩, ?_⟩
  refine eva_cons he0 (eva_cons he eva_nil hs2) hs F H σ st _ fun vs F1 H1 p1 w2 => ?_
  obtain ⟨v0, v, rfl, wv0, wv⟩ := das2 w2
  cases wv0
  obtain ⟨e2, us2, q2, w3⟩ := own_at p1.st hS1
  refine ⟨p', us2, 0, v, rfl, rfl, q2, by rw [w3.length]; exact hz, Int.le_refl 0, by decide, ?_⟩
  exact k _ F1 _ (p1.trans (.poke p1.st hS1 (.lst upd_same (.cons wv w3)) rfl)) .non
end

/-! ### isinstance -/
/-- the name of a datum's type -/
def dty : PyData → String
  | .none => "NoneType"
  | .bool _ => "bool"
  | .int _ => "int"
  | .str _ => "str"
  | .list _ => "list"
  | .tuple _ => "tuple"
  | .dict _ => "dict"
theorem Da.ty {K : PySem.W.Frag} {v : V} (st : Same F H) (h : Da F v d) : TyX K H v (.type (dty d)) := by
  cases h with
  | non => exact .base .non
  | bl b => exact .base (.bl b)
  | int i => exact .base (.int i)
  | str y => exact .base (.str y)
  | lst q _ =>
    rcases Rd.same st q with q | ⟨o, q⟩
    · exact .base (.lst q)
    · exact .base (.frz q)
  | tup q _ =>
    rcases Rd.same st q with q | ⟨o, q⟩
    · exact .base (.tup q)
    · exact .fTuple q
theorem ev_isi {T : String} {y : Str} {py : Pos} {t : Bool} (he : Ev X e S d S1) (hk : kitB (dty d) T = some t) (hm : X.mg "isinstance" = none) (hmy : X.mg y = none) (hv : bootBuiltins y = some (.type T)) (hg : Gl X "isinstance" := by rfl) (hgy : Gl X y := by rfl) (hn : y ≠ "__name__" := by decide) (hdb : (y == ("__debug__" : Str)) = false := by decide)
    (hs : starEach [e, .Name y py] X.env = (false, eval e X.env) :: starEach [.Name y py] X.env := by exact star_plain rfl) (hs2 : starEach [.Name y py] X.env = (false, eval (.Name y py) X.env) :: starEach [] X.env := by exact star_plain rfl) (hpl : (backTo pos (starEach [.Name y py] X.env)).any (·.1) = false := by exact back_plain rfl) :
    Ev X (.Call (.Name "isinstance" p) [e, .Name y py] [] pos) S (.bool t) S1 := by
  refine .ofPE (pe_callB call_isi hg hm PyProof.Rows.boot_isinstance (pa_cons (peW X e) (pa_cons (pe_bltn (v := .ty T) hgy hmy hv rfl hn hdb) pa_nil hs2) hs) (by decide) (by decide) hs hpl) fun F H σ st Q k => ?_
  refine he.use st fun v F1 H1 p1 w1 => ?_
  exact ⟨v, .ty T, _, _, t, rfl, .ty T, w1.ty p1.st.same, kit_ty hk, k _ F1 H1 p1 (.bl t)⟩

/-! ### a <= b <= c -/
theorem ev_chain {op op' : CmpOp} {c1 c2 : Bool} {d3 : PyData} {S3 : ASt} (ha : Ev X a S d1 S1) (hb : Ev X b S1 d2 S2) (ho : OpD X (compareOp op) d1 d2 (.bool c1)) (hc : c1 = true → Ev X c S2 d3 S2) (ho' : c1 = true → OpD X (compareOp op') d2 d3 (.bool c2))
    (hm : lastMarks [op, op'] [b, c] = false := by with_unfolding_all rfl) : Ev X (.Compare a [op, op'] [b, c] pos) S (.bool (c1 && c2)) S2 := by
  obtain ⟨R, h1, h2⟩ := ho
  cases c1 with
  | false =>
    refine .ofPE (pe_chain h1 (r' := fun _ _ _ _ => False) (fun _ _ _ _ _ _ _ _ _ _ _ _ h => h.elim) (peW X a) (peW X b) (peW X c) hm) fun F H σ st Q k => ?_
    refine ha.use st fun v F1 H1 p1 w1 => hb.use p1.st fun u F2 H2 p2 w2 => ?_
    refine h2 F2 H2 σ S2 v u p2.st (Da.mono p2.aft.ff _ _ w1) w2 _ fun z F' H' p w => ?_
    cases w
    refine ⟨false, rfl, ?_⟩
    rw [if_neg Bool.false_ne_true]
    exact k _ F' H' ((p1.trans p2).trans p) (.bl _)
  | true =>
    obtain ⟨R', g1, g2⟩ := ho' rfl
    refine .ofPE (pe_chain h1 g1 (peW X a) (peW X b) (peW X c) hm) fun F H σ st Q k => ?_
    refine ha.use st fun v F1 H1 p1 w1 => hb.use p1.st fun u F2 H2 p2 w2 => ?_
    refine h2 F2 H2 σ S2 v u p2.st (Da.mono p2.aft.ff _ _ w1) w2 _ fun z F' H' p w => ?_
    cases w
    refine ⟨true, rfl, ?_⟩
    rw [if_pos rfl]
    refine (hc rfl).use p.st fun y F3 H3 p3 w3 => ?_
    refine g2 F3 H3 σ S2 u y p3.st (Da.mono (p.aft.ff.trans p3.aft.ff) _ _ w2) w3 _ fun z F4 H4 p4 w4 => ?_
    exact k z F4 H4 ((((p1.trans p2).trans p).trans p3).trans p4) w4
theorem evt_chain {op op' : CmpOp} {c1 c2 : Bool} {d3 : PyData} (ha : Ev X a S d1 S1) (hb : Ev X b S1 d2 S2) (ho : OpD X (compareOp op) d1 d2 (.bool c1)) (hc : c1 = true → Ev X c S2 d3 S2) (ho' : c1 = true → OpD X (compareOp op') d2 d3 (.bool c2))
    (hm : lastMarks [op, op'] [b, c] = false := by with_unfolding_all rfl) : EvT X (.Compare a [op, op'] [b, c] pos) S (c1 && c2) S2 := by
  obtain ⟨R, h1, h2⟩ := ho
  cases c1 with
  | false =>
    intro F H σ st Q k
    refine (pt_chain h1 (r' := fun _ _ _ _ => False) (fun _ _ _ _ _ _ _ _ _ _ _ _ h => h.elim) (peW X a) (peW X b) (peW X c) hm).wp ?_
    refine ha.use st fun v F1 H1 p1 w1 => hb.use p1.st fun u F2 H2 p2 w2 => ?_
    refine h2 F2 H2 σ S2 v u p2.st (Da.mono p2.aft.ff _ _ w1) w2 _ fun z F' H' p w => ?_
    cases w
    refine ⟨false, rfl, ?_⟩
    rw [if_neg Bool.false_ne_true]
    exact ⟨false, rfl, k F' H' ((p1.trans p2).trans p)⟩
  | true =>
    obtain ⟨R', g1, g2⟩ := ho' rfl
    intro F H σ st Q k
    refine (pt_chain h1 g1 (peW X a) (peW X b) (peW X c) hm).wp ?_
    refine ha.use st fun v F1 H1 p1 w1 => hb.use p1.st fun u F2 H2 p2 w2 => ?_
    refine h2 F2 H2 σ S2 v u p2.st (Da.mono p2.aft.ff _ _ w1) w2 _ fun z F' H' p w => ?_
    cases w
    refine ⟨true, rfl, ?_⟩
    rw [if_pos rfl]
    refine (hc rfl).use p.st fun y F3 H3 p3 w3 => ?_
    refine g2 F3 H3 σ S2 u y p3.st (Da.mono (p.aft.ff.trans p3.aft.ff) _ _ w2) w3 _ fun z F4 H4 p4 w4 => ?_
    cases w4
    exact ⟨c2, rfl, k F4 H4 ((((p1.trans p2).trans p).trans p3).trans p4)⟩

/-! ### texts times numbers -/
theorem op_mulS : OpR X (binaryOp .Mult) (fun x y H Q => ∃ z n, x = .str z ∧ y = .int n ∧ PySem.MulOk z n ∧ Q (.str (Txt.mul z n)) H) := by
  intro pins s σ H x y v u Q I rx ry h
  obtain ⟨z, n, rfl, rfl, ok, q⟩ := h
  obtain ⟨t, rfl⟩ := rx
  obtain ⟨t', rfl⟩ := ry
  exact PySem.SB.mul ok fun t2 k => ⟨.str (Txt.mul z n), H, I.tok _, ⟨t2, rfl⟩, q⟩
theorem o_mulS {z : Str} {n : Int} (h : PySem.MulOk z n) : OpD X (binaryOp .Mult) (.str z) (.int n) (.str (Txt.mul z n)) :=
  ⟨_, op_mulS, fun F H σ S v u st h1 h2 Q k => by
    cases h1; cases h2
    exact ⟨z, n, rfl, rfl, h, k _ F H (.refl st) (.str _)⟩⟩

/-! ### truth of data -/
def dtru : PyData → Bool
  | .none => false
  | .bool b => b
  | .int i => i != 0
  | .str y => (y.length : Int) != 0
  | .list ds => !ds.isEmpty
  | .tuple ds => !ds.isEmpty
  | .dict ds => !ds.isEmpty
theorem das_empty {vs : List V} {ds : List PyData} (h : Das F vs ds) : vs.isEmpty = ds.isEmpty := by cases h <;> rfl
theorem Da.tru {K : PySem.W.Frag} {v : V} (st : Same F H) (h : Da F v d) (hz : ∀ y, d = .str y → y.length ≤ sizeLine) : TruV K v H (dtru d) := by
  cases h with
  | non => rfl
  | bl b => rfl
  | int i => rfl
  | str y => exact ⟨hz y rfl, rfl⟩
  | lst q w => exact .inl ⟨_, .inl (Rd.same st q), by rw [das_empty w]; rfl⟩
  | tup q w => exact .inr (.inl ⟨_, .inl (Rd.same st q), by rw [das_empty w]; rfl⟩)
theorem evt_tru (h : Ev X e S d S1) (hz : ∀ y, d = .str y → y.length ≤ sizeLine := by intro _ h; cases h) (he : ∀ whole, isTrue e X.env whole = (do let v ← whole; standAt e.pos; holding [v] (truthy v)) := by intro _; rfl) : EvT X e S (dtru d) S1 := fun F H σ st Q k => by
  refine (pt_truth (peW X e) he).wp ?_
  refine h.use st fun v F1 H1 p1 w1 => ⟨_, w1.tru p1.st.same hz, k F1 H1 p1⟩
/-- an owned list as a test -/
theorem evt_truO (j : Nat) {x : Str} {px : Pos} {p' : Addr} {ds : List PyData} (hS : S[j]? = some (some (.lst p' ds))) (hN : X.N[j]? = some x := by rfl) (hv : Vis X.env.scope x := by first | exact Or.inl rfl | exact Or.inr (Or.inl rfl) | exact Or.inr (Or.inr rfl))
    (hd : (x == ("__debug__" : Str)) = false := by decide) (hcd : (x == ("__classdict__" : Str)) = false := by decide) (he : ∀ whole, isTrue (.Name x px) X.env whole = (do let v ← whole; standAt (Expr.Name x px).pos; holding [v] (truthy v)) := by intro _; rfl) : EvT X (.Name x px) S (!ds.isEmpty) S := fun F H σ st Q k => by
  refine (pt_truth (pe_var hN hv hd hcd) he).wp ?_
  obtain ⟨e1, us, q1, w1⟩ := own_at st hS
  exact ⟨_, e1, _, .inl ⟨us, SqL.of q1, by rw [das_empty w1]⟩, k F H (.refl st)⟩
/-! ### == of numbers and texts -/
theorem o_eqI {i j : Int} : OpD X (compareOp .Eq) (.int i) (.int j) (.bool (decide (i = j))) :=
  ⟨_, op_eq, fun F H σ S v u st h1 h2 Q k => by
    cases h1; cases h2
    exact ⟨rfl, by rw [dec_int, show (i == j) = decide (i = j) from rfl]; exact k _ F H (.refl st) (.bl _)⟩⟩
theorem o_neI {i j : Int} : OpD X (compareOp .NotEq) (.int i) (.int j) (.bool (!decide (i = j))) :=
  ⟨_, op_ne, fun F H σ S v u st h1 h2 Q k => by
    cases h1; cases h2
    exact ⟨rfl, by rw [dec_int, show (i == j) = decide (i = j) from rfl]; exact k _ F H (.refl st) (.bl _)⟩⟩
theorem dec_strD {x y : Str} : decide (V.str x = V.str y) = decide (x = y) := by
  rw [Bool.eq_iff_iff]
  simp
theorem o_eqS {x y : Str} : OpD X (compareOp .Eq) (.str x) (.str y) (.bool (decide (x = y))) :=
  ⟨_, op_eq, fun F H σ S v u st h1 h2 Q k => by
    cases h1; cases h2
    exact ⟨rfl, by rw [dec_strD]; exact k _ F H (.refl st) (.bl _)⟩⟩
theorem o_neS {x y : Str} : OpD X (compareOp .NotEq) (.str x) (.str y) (.bool (!decide (x = y))) :=
  ⟨_, op_ne, fun F H σ S v u st h1 h2 Q k => by
    cases h1; cases h2
    exact ⟨rfl, by rw [dec_strD]; exact k _ F H (.refl st) (.bl _)⟩⟩
/-! ### lists that are new -/
theorem evo_catL {xs ys : List PyData} (ha : Ev X a S (.list xs) S1) (hb : Ev X b S1 (.list ys) S2) (h : xs.length + ys.length ≤ sizeLine) : EvO X (.BinOp a .Add b pos) S (fun p => .lst p (xs ++ ys)) S2 := fun F H σ st Q q => by
  refine (pe_op op_catR (peW X a) (peW X b)).wp ?_
  refine ha.use st fun v F1 H1 p1 w1 => hb.use p1.st fun u F2 H2 p2 w2 => ?_
  cases w1 with
  | @lst l us _ q1 r1 =>
    cases w2 with
    | @lst l2 ws _ q2 r2 =>
      have p12 := p1.trans p2
      have r1' := Das.mono p2.aft.ff _ _ r1
      refine ⟨l, l2, us, ws, rfl, rfl, Rd.same (p2.aft.ff.trans p2.st.same) q1, Rd.same p2.st.same q2, by rw [r1.length, r2.length]; exact h, fun p hp => ?_⟩
      exact q _ _ _ _ S2 (Got.made p12 hp rfl (.lst upd_same (r1'.append r2))) ⟨⟨p, rfl⟩, rfl⟩
/-- list(xs) as a list of one's own -/
theorem evo_list {xs : List PyData} {p : Pos} (ha : Ev X a S d S1) (hd : d = .list xs ∨ d = .tuple xs) (hm : X.mg "list" = none) (hv : bootBuiltins "list" = some (.type "list") := by decide +kernel) (hg : Gl X "list" := by rfl)
    (he : starEach [a] X.env = (false, eval a X.env) :: starEach [] X.env := by exact star_plain rfl) (hpl : (backTo pos (starEach [] X.env)).any (·.1) = false := by exact back_plain rfl) : EvO X (.Call (.Name "list" p) [a] [] pos) S (fun p => .lst p xs) S1 := fun F H σ st Q q => by
  refine (pe_callTy call_list_of hg hm hv (paW X [a]) (by decide) (by decide) he hpl).wp ?_
  refine (eva_cons ha eva_nil he) F H σ st _ fun vs F1 H1 p1 w1 => ?_
  obtain ⟨v, rfl, wv⟩ := das1 w1
  rcases hd with rfl | rfl
  · cases wv with
    | @lst l us _ q1 r1 => exact ⟨l, us, rfl, .inl (.inl (Rd.same p1.st.same q1)), fun p hp => q _ _ _ _ S1 (Got.made p1 hp rfl (.lst upd_same r1)) ⟨⟨p, rfl⟩, rfl⟩⟩
  · cases wv with
    | @tup l us _ q1 r1 => exact ⟨l, us, rfl, .inr (.inl (Rd.same p1.st.same q1)), fun p hp => q _ _ _ _ S1 (Got.made p1 hp rfl (.lst upd_same r1)) ⟨⟨p, rfl⟩, rfl⟩⟩
/-- xs[::-1] -/
theorem ev_revL {xs : List PyData} {k : Nat} {p1 p2 p3 : Pos} (h : Ev X e S (.list xs) S1) : Ev X (.Subscript e (.Slice none none (some (.UnaryOp .USub (.Constant (.int 1) k p1) p2)) p3) pos) S (.list xs.reverse) S1 :=
  .ofPE (pe_revL (peW X e)) fun F H σ st Q q => h.use st fun v F1 H1 p w => by
    cases w with
    | @lst a us _ q1 r1 => exact ⟨a, us, rfl, .inl (Rd.same p.st.same q1), fun l hl => q _ _ _ (p.trans (.frozen p.st hl)) (.lst rd_new (Das.new (p.st.fnone hl) r1.reverse))⟩
end
end SH
/-! SHt: terms as data. -/
namespace SH
open PySem PySem.Spec PyProof.Rows L2

inductive T where
  | t0 (h : Str)
  | t1 (h : Str) (a : T)
  | t2 (h : Str) (a b : T)
  deriving DecidableEq, Repr
namespace T
def hd : T → Str
  | t0 h => h
  | t1 h _ => h
  | t2 h _ _ => h
def ps : T → List T
  | t0 _ => []
  | t1 _ a => [a]
  | t2 _ a b => [a, b]
def size : T → Nat
  | t0 _ => 1
  | t1 _ a => 1 + a.size
  | t2 _ a b => 1 + (a.size + b.size)
def depth : T → Nat
  | t0 _ => 1
  | t1 _ a => a.depth + 1
  | t2 _ a b => max a.depth b.depth + 1
/-- the term as data -/
def enc : T → PyData
  | t0 h => .tuple [.str h]
  | t1 h a => .tuple [.str h, a.enc]
  | t2 h a b => .tuple [.str h, a.enc, b.enc]
def key : T → NestedKey
  | t0 h => .tup [.text h]
  | t1 h a => .tup [.text h, a.key]
  | t2 h a b => .tup [.text h, a.key, b.key]
theorem key_data : ∀ t : T, t.key.data = t.enc
  | t0 _ => rfl
  | t1 _ a => by simp only [key, NestedKey.data, NestedKey.datas, key_data a, enc]
  | t2 _ a b => by simp only [key, NestedKey.data, NestedKey.datas, key_data a, key_data b, enc]
theorem key_depth : ∀ t : T, t.key.depth = t.depth
  | t0 _ => rfl
  | t1 _ a => by simp only [key, NestedKey.depth, NestedKey.depthAll, key_depth a, depth]; omega
  | t2 _ a b => by simp only [key, NestedKey.depth, NestedKey.depthAll, key_depth a, key_depth b, depth]; omega
theorem enc_depth : ∀ t : T, t.enc.depth = t.depth
  | t0 _ => by simp [enc, PyData.depth, PyData.depthAll, depth]
  | t1 _ a => by simp only [enc, PyData.depth, PyData.depthAll, enc_depth a, depth]; omega
  | t2 _ a b => by simp only [enc, PyData.depth, PyData.depthAll, enc_depth a, enc_depth b, depth]; omega
theorem enc_eq (t : T) : ∃ x r, t.enc = .tuple (x :: r) := by cases t <;> exact ⟨_, _, rfl⟩
def items (t : T) : List PyData := .str t.hd :: t.ps.map enc
theorem enc_items (t : T) : t.enc = .tuple t.items := by cases t <;> rfl
theorem items_len (t : T) : t.items.length = t.ps.length + 1 := by simp [items]
theorem ps_le (t : T) : t.ps.length ≤ 2 := by cases t <;> simp [ps]
theorem key_inj : ∀ {t u : T}, t.key = u.key → t = u
  | t0 _, t0 _, h => by simp only [key, NestedKey.tup.injEq, List.cons.injEq, NestedKey.text.injEq, and_true] at h; rw [h]
  | t1 _ a, t1 _ b, h => by
    simp only [key, NestedKey.tup.injEq, List.cons.injEq, NestedKey.text.injEq, and_true] at h
    rw [h.1, key_inj h.2]
  | t2 _ a b, t2 _ c d, h => by
    simp only [key, NestedKey.tup.injEq, List.cons.injEq, NestedKey.text.injEq, and_true] at h
    rw [h.1, key_inj h.2.1, key_inj h.2.2]
  | t0 _, t1 _ _, h => by simp [key] at h
  | t0 _, t2 _ _ _, h => by simp [key] at h
  | t1 _ _, t0 _, h => by simp [key] at h
  | t1 _ _, t2 _ _ _, h => by simp [key] at h
  | t2 _ _ _, t0 _, h => by simp [key] at h
  | t2 _ _ _, t1 _ _, h => by simp [key] at h
/-- all heads are such -/
def All (p : Str → Prop) : T → Prop
  | t0 h => p h
  | t1 h a => p h ∧ a.All p
  | t2 h a b => p h ∧ a.All p ∧ b.All p
theorem All.imp {p q : Str → Prop} (hpq : ∀ x, p x → q x) : ∀ {t : T}, t.All p → t.All q
  | t0 _, h => hpq _ h
  | t1 _ _, h => ⟨hpq _ h.1, All.imp hpq h.2⟩
  | t2 _ _ _, h => ⟨hpq _ h.1, All.imp hpq h.2.1, All.imp hpq h.2.2⟩
theorem All.ps {p : Str → Prop} {t : T} (h : t.All p) : ∀ u ∈ t.ps, u.All p := by
  cases t with
  | t0 _ => intro u hu; simp [T.ps] at hu
  | t1 _ a => intro u hu; simp [T.ps] at hu; subst hu; exact h.2
  | t2 _ a b =>
    intro u hu
    simp only [T.ps, List.mem_cons, List.not_mem_nil, or_false] at hu
    rcases hu with rfl | rfl
    · exact h.2.1
    · exact h.2.2
end T

/-! ### == of data -/
mutual
/-- no truths, no dicts in it -/
def plainD : PyData → Bool
  | .none => true
  | .bool _ => false
  | .int _ => true
  | .str _ => true
  | .list xs => plainDs xs
  | .tuple xs => plainDs xs
  | .dict _ => false
def plainDs : List PyData → Bool
  | [] => true
  | x :: xs => plainD x && plainDs xs
end
mutual
theorem eqv_iff : ∀ d e : PyData, plainD d = true → plainD e = true → (PyData.eqv d e = true ↔ d = e)
  | .none, .none, _, _ => by simp [PyData.eqv]
  | .int a, .int b, _, _ => by simp [PyData.eqv]
  | .str a, .str b, _, _ => by simp [PyData.eqv]
  | .list a, .list b, h1, h2 => by
    simp only [PyData.eqv, PyData.list.injEq]
    exact eqvs_iff a b (by simpa [plainD] using h1) (by simpa [plainD] using h2)
  | .tuple a, .tuple b, h1, h2 => by
    simp only [PyData.eqv, PyData.tuple.injEq]
    exact eqvs_iff a b (by simpa [plainD] using h1) (by simpa [plainD] using h2)
  | .bool _, _, h, _ => by simp [plainD] at h
  | .dict _, _, h, _ => by simp [plainD] at h
  | .none, .bool _, _, h => by simp [plainD] at h
  | .none, .int _, _, _ => by simp [PyData.eqv]
  | .none, .str _, _, _ => by simp [PyData.eqv]
  | .none, .list _, _, _ => by simp [PyData.eqv]
  | .none, .tuple _, _, _ => by simp [PyData.eqv]
  | .none, .dict _, _, h => by simp [plainD] at h
  | .int _, .none, _, _ => by simp [PyData.eqv]
  | .int _, .bool _, _, h => by simp [plainD] at h
  | .int _, .str _, _, _ => by simp [PyData.eqv]
  | .int _, .list _, _, _ => by simp [PyData.eqv]
  | .int _, .tuple _, _, _ => by simp [PyData.eqv]
  | .int _, .dict _, _, h => by simp [plainD] at h
  | .str _, .none, _, _ => by simp [PyData.eqv]
  | .str _, .bool _, _, h => by simp [plainD] at h
  | .str _, .int _, _, _ => by simp [PyData.eqv]
  | .str _, .list _, _, _ => by simp [PyData.eqv]
  | .str _, .tuple _, _, _ => by simp [PyData.eqv]
  | .str _, .dict _, _, h => by simp [plainD] at h
  | .list _, .none, _, _ => by simp [PyData.eqv]
  | .list _, .bool _, _, h => by simp [plainD] at h
  | .list _, .int _, _, _ => by simp [PyData.eqv]
  | .list _, .str _, _, _ => by simp [PyData.eqv]
  | .list _, .tuple _, _, _ => by simp [PyData.eqv]
  | .list _, .dict _, _, h => by simp [plainD] at h
  | .tuple _, .none, _, _ => by simp [PyData.eqv]
  | .tuple _, .bool _, _, h => by simp [plainD] at h
  | .tuple _, .int _, _, _ => by simp [PyData.eqv]
  | .tuple _, .str _, _, _ => by simp [PyData.eqv]
  | .tuple _, .list _, _, _ => by simp [PyData.eqv]
  | .tuple _, .dict _, _, h => by simp [plainD] at h
theorem eqvs_iff : ∀ d e : List PyData, plainDs d = true → plainDs e = true → (PyData.eqvAll d e = true ↔ d = e)
  | [], [], _, _ => by simp [PyData.eqvAll]
  | [], _ :: _, _, _ => by simp [PyData.eqvAll]
  | _ :: _, [], _, _ => by simp [PyData.eqvAll]
  | x :: xs, y :: ys, h1, h2 => by
    simp only [plainDs, Bool.and_eq_true] at h1 h2
    simp only [PyData.eqvAll, Bool.and_eq_true, List.cons.injEq]
    rw [eqv_iff x y h1.1 h2.1, eqvs_iff xs ys h1.2 h2.2]
end
theorem eqv_dec {α : Type} [DecidableEq α] {f : α → PyData} (hp : ∀ a, plainD (f a) = true) (hi : ∀ a b, f a = f b → a = b) (a b : α) : PyData.eqv (f a) (f b) = decide (a = b) := by
  by_cases h : a = b
  · subst h
    rw [decide_eq_true rfl]
    exact (eqv_iff _ _ (hp a) (hp a)).mpr rfl
  · rw [decide_eq_false h]
    cases q : PyData.eqv (f a) (f b) with
    | false => rfl
    | true => exact absurd (hi a b ((eqv_iff _ _ (hp a) (hp b)).mp q)) h
theorem plain_enc : ∀ t : T, plainD t.enc = true
  | .t0 _ => by simp [T.enc, plainD, plainDs]
  | .t1 _ a => by simp [T.enc, plainD, plainDs, plain_enc a]
  | .t2 _ a b => by simp [T.enc, plainD, plainDs, plain_enc a, plain_enc b]
mutual
theorem keyData_inj : ∀ a b : NestedKey, a.data = b.data → a = b
  | .none, .none, _ => rfl
  | .num _, .num _, h => by simp only [NestedKey.data, PyData.int.injEq] at h; rw [h]
  | .text _, .text _, h => by simp only [NestedKey.data, PyData.str.injEq] at h; rw [h]
  | .tup a, .tup b, h => by simp only [NestedKey.data, PyData.tuple.injEq] at h; rw [keyDatas_inj a b h]
  | .none, .num _, h | .none, .text _, h | .none, .tup _, h => by simp [NestedKey.data] at h
  | .num _, .none, h | .num _, .text _, h | .num _, .tup _, h => by simp [NestedKey.data] at h
  | .text _, .none, h | .text _, .num _, h | .text _, .tup _, h => by simp [NestedKey.data] at h
  | .tup _, .none, h | .tup _, .num _, h | .tup _, .text _, h => by simp [NestedKey.data] at h
theorem keyDatas_inj : ∀ a b : List NestedKey, NestedKey.datas a = NestedKey.datas b → a = b
  | [], [], _ => rfl
  | [], _ :: _, h => by simp [NestedKey.datas] at h
  | _ :: _, [], h => by simp [NestedKey.datas] at h
  | x :: xs, y :: ys, h => by
    simp only [NestedKey.datas, List.cons.injEq] at h
    rw [keyData_inj x y h.1, keyDatas_inj xs ys h.2]
end
theorem enc_inj {t u : T} (h : t.enc = u.enc) : t = u := by
  rw [← T.key_data, ← T.key_data] at h
  exact T.key_inj (keyData_inj _ _ h)
theorem eqv_enc (t u : T) : PyData.eqv t.enc u.enc = decide (t = u) := eqv_dec plain_enc (fun _ _ => enc_inj) t u
/-! ### shapes -/
theorem strOk_of {x : Str} (h : ∀ c ∈ x.cps.toList, c < 0x110000) : PyData.strOk x = true := by
  unfold PyData.strOk
  rw [Array.all_eq_true_iff_forall_mem]
  intro c hc
  exact decide_eq_true (h c (by simpa using hc))
theorem canLay_enc : ∀ {t : T}, t.All (fun x => PyData.strOk x = true) → t.enc.canLay0 = true
  | .t0 _, h => by
    have h' : PyData.strOk _ = true := h
    simp [T.enc, PyData.canLay0, PyData.canLayAll0, h']
  | .t1 _ a, h => by
    have h' : PyData.strOk _ = true := h.1
    simp [T.enc, PyData.canLay0, PyData.canLayAll0, h', canLay_enc h.2]
  | .t2 _ a b, h => by
    have h' : PyData.strOk _ = true := h.1
    simp [T.enc, PyData.canLay0, PyData.canLayAll0, h', canLay_enc h.2.1, canLay_enc h.2.2]
theorem shaped_mk {d : PyData} (h1 : d.canLay0 = true) (h2 : d.depth ≤ 64) : SeqAt.shaped d = true := by
  show (d.canLay0 && decide (d.depth ≤ 64)) = true
  rw [h1, decide_eq_true h2]; rfl
theorem shaped_enc {t : T} (h : t.All (fun x => PyData.strOk x = true)) (hd : t.depth ≤ 64) : SeqAt.shaped t.enc = true := shaped_mk (canLay_enc h) (by rw [T.enc_depth]; exact hd)
end SH
/-! SHm: the laws' drawn names and terms, as plain functions. -/
namespace SH
open PySem PySem.Spec PyProof.Rows L2

/-! ### texts as lists of codes -/
def sOf (l : List Nat) : Str := ⟨l.toArray⟩
theorem sOf_codes (l : List Nat) : (sOf l).cps.toList = l := by simp [sOf]
theorem sOf_of (x : Str) : x = sOf x.cps.toList := by
  cases x; simp [sOf]
theorem sOf_len (l : List Nat) : (sOf l).length = l.length := by simp [sOf, Str.length]
theorem sOf_inj {a b : List Nat} (h : sOf a = sOf b) : a = b := by rw [← sOf_codes a, ← sOf_codes b, h]
theorem sOf_app (a b : List Nat) : sOf a ++ sOf b = sOf (a ++ b) := by
  show Str.append (sOf a) (sOf b) = _
  simp [sOf, Str.append]
theorem sOf_one (c : Nat) : (⟨#[c]⟩ : Str) = sOf [c] := rfl
theorem cutS_to (l : List Nat) (n : Nat) : cutS (sOf l) none (some (n : Int)) = sOf (l.take n) := by
  unfold cutS
  rw [sOf_codes, sOf_len, HT.sIx_none, HT.sIx_nat, List.drop_zero, Nat.sub_zero]
  unfold sOf
  congr 2
  rw [Nat.min_def]
  split
  · rfl
  · rw [List.take_length, List.take_of_length_le (by omega)]
theorem cutS_2 (l : List Nat) : cutS (sOf l) none (some 2) = sOf (l.take 2) := cutS_to l 2
theorem cutS_from (l : List Nat) (n : Nat) : cutS (sOf l) (some (n : Int)) none = sOf (l.drop n) := by
  unfold cutS
  rw [sOf_codes, sOf_len, HT.sIx_none, HT.sIx_nat]
  unfold sOf
  congr 2
  rw [Nat.min_def]
  split
  · rw [List.take_of_length_le (by rw [List.length_drop]; exact Nat.le_refl _)]
  · rw [Nat.sub_self, List.take_zero, List.drop_eq_nil_of_le (by omega)]
theorem join_ones (l : List Nat) : Txt.join (sOf []) (l.map fun c => sOf [c]) = sOf l := by
  rw [show Txt.join (sOf []) (l.map fun c => sOf [c]) = Str.join (sOf []) (l.map fun c => sOf [c]) from StrLaws.glued_eq_join _ _]
  induction l with
  | nil => rfl
  | cons c r ih =>
    cases r with
    | nil => rfl
    | cons d r =>
      have e : Str.join (sOf []) ((c :: d :: r).map fun c => sOf [c]) = sOf [c] ++ sOf [] ++ Str.join (sOf []) ((d :: r).map fun c => sOf [c]) := rfl
      rw [e, ih, sOf_app, sOf_app]; rfl
theorem mul3 (c : Nat) : Txt.mul (sOf [c]) 3 = sOf [c, c, c] := by
  simp [Txt.mul, sOf, Str.length, List.replicate]

/-! ### heads -/
def isLetter (c : Nat) : Bool := 97 ≤ c && c < 123
/-- a head: one to three letters -/
def isHd (x : Str) : Bool := 1 ≤ x.length && x.length ≤ 3 && x.cps.toList.all isLetter
theorem isHd_ok {x : Str} (h : isHd x = true) : PyData.strOk x = true := by
  simp only [isHd, Bool.and_eq_true, List.all_eq_true] at h
  refine strOk_of fun c hc => ?_
  have := h.2 c hc
  simp only [isLetter, Bool.and_eq_true, decide_eq_true_eq] at this
  omega
theorem isHd_of {l : List Nat} (h1 : 1 ≤ l.length) (h2 : l.length ≤ 3) (h : ∀ c ∈ l, isLetter c = true) : isHd (sOf l) = true := by
  simp only [isHd, sOf_len, sOf_codes, Bool.and_eq_true, List.all_eq_true, decide_eq_true_eq]
  exact ⟨⟨h1, h2⟩, h⟩
abbrev T.Ok (t : T) : Prop := t.All fun x => isHd x = true
theorem T.Ok.shaped {t : T} (h : t.Ok) (hd : t.depth ≤ 64) : SeqAt.shaped t.enc = true := shaped_enc (T.All.imp (fun _ => isHd_ok) h) hd
/-- the alphabet as it is written -/
abbrev abc : Str := PySem.Str.ofString "abcdefghijklmnopqrstuvwxyz"
theorem abc_codes : abc.cps.toList = List.range' 97 26 := by decide +kernel
theorem abc_len : abc.length = 26 := by decide +kernel
theorem abc_at {i : Int} (h0 : 0 ≤ i) (h : i < 26) : atI abc.cps.toList i = some (97 + i.toNat) := by
  obtain ⟨n, rfl⟩ : ∃ n : Nat, i = n := ⟨i.toNat, by omega⟩
  rw [abc_codes]
  exact atI_nat (by rw [List.getElem?_range' (by omega)]; simp)

/-! ### the laws' draws -/
abbrev dInts (ns : List Int) : PyData := .list (ns.map .int)
def lcell (ns : List Int) (k : Nat) : Int := ns.getD k 0
theorem lcell_at {ns : List Int} {k : Nat} (h : decide ((k : Int) < ((ns.map PyData.int).length : Nat)) = true) : atI (ns.map PyData.int) (k : Int) = some (.int (lcell ns k)) := by
  rw [decide_eq_true_eq, List.length_map] at h
  have h' : k < ns.length := by omega
  refine atI_nat ?_
  rw [List.getElem?_map, lcell, List.getD_eq_getElem?_getD, List.getElem?_eq_getElem h']; rfl
theorem lcell_out {ns : List Int} {k : Nat} (h : decide ((k : Int) < ((ns.map PyData.int).length : Nat)) = false) : lcell ns k = 0 := by
  rw [decide_eq_false_iff_not, List.length_map] at h
  rw [lcell, List.getD_eq_getElem?_getD, List.getElem?_eq_none (by omega)]; rfl
def lmix (c p m : Int) : Int := c * 48271 % p % m
theorem lmix_lt {c p m : Int} (h : 0 < m) : lmix c p m < m := Int.emod_lt_of_pos _ h
theorem lmix_nn {c p m : Int} (h : 0 < m) : 0 ≤ lmix c p m := Int.emod_nonneg _ (by omega)
def letr (i : Int) : Nat := 97 + i.toNat
theorem letr_ok {i : Int} (h : i < 26) : isLetter (letr i) = true := by
  unfold isLetter letr
  have : i.toNat < 26 := by omega
  simp only [Bool.and_eq_true, decide_eq_true_eq]; omega
def lsign (ns : List Int) (k : Nat) : Int := (lmix (lcell ns 0) 9949 26 + 5 * (k : Int)) % 26
theorem lsign_nn (ns : List Int) (k : Nat) : 0 ≤ lsign ns k := Int.emod_nonneg _ (by decide)
theorem lsign_lt (ns : List Int) (k : Nat) : lsign ns k < 26 := Int.emod_lt_of_pos _ (by decide)
def ltail (ns : List Int) : List Nat := (List.range (lmix (lcell ns 0) 9931 3).toNat).map fun (j : Nat) => letr (lmix (lcell ns 0 + 3 * (j : Int)) 9941 26)
def lat (ns : List Int) : Nat := (lmix (lcell ns 0) 9929 ((ltail ns).length + 1)).toNat
def lheadL (ns : List Int) (k : Nat) : List Nat := (ltail ns).take (lat ns) ++ [letr (lsign ns k)] ++ (ltail ns).drop (lat ns)
def lhead (ns : List Int) (k : Nat) : Str := sOf (lheadL ns k)
theorem ltail_n (ns : List Int) : (lmix (lcell ns 0) 9931 3).toNat ≤ 2 := by
  have := lmix_lt (c := lcell ns 0) (p := 9931) (m := 3) (by decide)
  omega
theorem ltail_len (ns : List Int) : (ltail ns).length ≤ 2 := by
  unfold ltail
  rw [List.length_map, List.length_range]
  have := lmix_lt (c := lcell ns 0) (p := 9931) (m := 3) (by decide)
  omega
theorem ltail_join (ns : List Int) : (upTo (lmix (lcell ns 0) 9931 3).toNat).mapIdx (fun i _ => PyData.str (sOf [letr (lmix (lcell ns 0 + 3 * (i : Int)) 9941 26)])) = ((ltail ns).map fun c => sOf [c]).map .str := by
  unfold upTo ltail
  apply List.ext_getElem?
  intro i
  rw [List.getElem?_mapIdx, List.getElem?_map, List.getElem?_map, List.getElem?_map, List.getElem?_map]
  by_cases h : i < (lmix (lcell ns 0) 9931 3).toNat
  · rw [List.getElem?_range h]; rfl
  · rw [List.getElem?_eq_none (by rw [List.length_range]; omega)]; rfl
theorem ltail_small (ns : List Int) : ((ltail ns).map ((fun z : Str => z.length) ∘ fun c => sOf [c])).sum + (ltail ns).length * (Str.ofString "").length ≤ 16777216 := by
  have h := ltail_len ns
  have e : ∀ l : List Nat, (l.map ((fun z : Str => z.length) ∘ fun c => sOf [c])).sum = l.length := fun l => by
    induction l with
    | nil => rfl
    | cons c r ih => rw [List.map_cons, List.sum_cons, ih, List.length_cons]; show (sOf [c]).length + _ = _; rw [sOf_len, List.length_singleton]; omega
  rw [e, show (Str.ofString "").length = 0 from rfl]
  omega
theorem lat_int (ns : List Int) : PyData.int (lmix (lcell ns 0) 9929 (((sOf (ltail ns)).length : Nat) + 1)) = .int (lat ns : Nat) := by
  unfold lat
  rw [sOf_len, Int.toNat_of_nonneg (lmix_nn (by omega))]
theorem lheadL_len (ns : List Int) (k : Nat) : (lheadL ns k).length = (ltail ns).length + 1 := by
  unfold lheadL
  rw [List.length_append, List.length_append, List.length_take, List.length_drop, List.length_singleton]
  omega
theorem ltail_letters (ns : List Int) : ∀ c ∈ ltail ns, isLetter c = true := by
  intro c hc
  unfold ltail at hc
  obtain ⟨j, _, rfl⟩ := List.mem_map.mp hc
  exact letr_ok (lmix_lt (by decide))
theorem lheadL_letters (ns : List Int) (k : Nat) : ∀ c ∈ lheadL ns k, isLetter c = true := by
  intro c hc
  unfold lheadL at hc
  rw [List.mem_append, List.mem_append] at hc
  rcases hc with (hc | hc) | hc
  · exact ltail_letters ns c (List.mem_of_mem_take hc)
  · rw [List.mem_singleton] at hc
    rw [hc]
    exact letr_ok (Int.emod_lt_of_pos _ (by decide))
  · exact ltail_letters ns c (List.mem_of_mem_drop hc)
theorem lhead_ok (ns : List Int) (k : Nat) : isHd (lhead ns k) = true := by
  have h := lheadL_len ns k
  have h2 := ltail_len ns
  exact isHd_of (by omega) (by omega) (lheadL_letters ns k)
/-- the second name, of another length -/
def lother (a b : List Nat) : List Nat := (b.take 2 ++ [97, 97, 97]).take (a.length % 3 + 1)
def lhs0 (ns : List Int) : List (List Nat) := (List.range 5).map (lheadL ns)
def lhs1 (ns : List Int) : List (List Nat) := if lcell ns 0 % 4 = 0 then (lhs0 ns).set 3 ((lhs0 ns).getD 0 []) else lhs0 ns
def lhs2 (ns : List Int) : List (List Nat) := if lcell ns 0 % 5 = 1 then (lhs1 ns).set 4 ((lhs1 ns).getD 3 []) else lhs1 ns
def lhs3 (ns : List Int) : List (List Nat) := if lcell ns 0 % 3 = 1 then (lhs2 ns).set 1 (lother ((lhs2 ns).getD 0 []) ((lhs2 ns).getD 1 [])) else lhs2 ns
def lheads (ns : List Int) : List Str := (lhs3 ns).map sOf
theorem lhs0_len (ns : List Int) : (lhs0 ns).length = 5 := by simp [lhs0]
theorem lhs1_len (ns : List Int) : (lhs1 ns).length = 5 := by unfold lhs1; split <;> simp [lhs0_len]
theorem lhs2_len (ns : List Int) : (lhs2 ns).length = 5 := by unfold lhs2; split <;> simp [lhs1_len]
theorem lhs3_len (ns : List Int) : (lhs3 ns).length = 5 := by unfold lhs3; split <;> simp [lhs2_len]
theorem lheads_len (ns : List Int) : (lheads ns).length = 5 := by simp [lheads, lhs3_len]
def okL (l : List Nat) : Prop := 1 ≤ l.length ∧ l.length ≤ 3 ∧ ∀ c ∈ l, isLetter c = true
theorem okL_set {L : List (List Nat)} (h : ∀ l ∈ L, okL l) {i : Nat} {x : List Nat} (hx : okL x) : ∀ l ∈ L.set i x, okL l := fun l hl => by
  rcases List.mem_or_eq_of_mem_set hl with q | q
  · exact h l q
  · rw [q]; exact hx
theorem okL_get {L : List (List Nat)} (h : ∀ l ∈ L, okL l) {i : Nat} (hi : i < L.length) : okL (L.getD i []) := by
  rw [List.getD_eq_getElem?_getD, List.getElem?_eq_getElem hi]
  exact h _ (List.getElem_mem hi)
theorem lhs0_ok (ns : List Int) : ∀ l ∈ lhs0 ns, okL l := fun l hl => by
  unfold lhs0 at hl
  obtain ⟨k, _, rfl⟩ := List.mem_map.mp hl
  have h := lheadL_len ns k
  have h2 := ltail_len ns
  exact ⟨by omega, by omega, lheadL_letters ns k⟩
theorem lhs1_ok (ns : List Int) : ∀ l ∈ lhs1 ns, okL l := by
  unfold lhs1
  split
  · exact okL_set (lhs0_ok ns) (okL_get (lhs0_ok ns) (by rw [lhs0_len]; decide))
  · exact lhs0_ok ns
theorem lhs2_ok (ns : List Int) : ∀ l ∈ lhs2 ns, okL l := by
  unfold lhs2
  split
  · exact okL_set (lhs1_ok ns) (okL_get (lhs1_ok ns) (by rw [lhs1_len]; decide))
  · exact lhs1_ok ns
theorem lother_ok {a b : List Nat} (hb : okL b) : okL (lother a b) := by
  unfold lother
  refine ⟨?_, ?_, fun c hc => ?_⟩
  · rw [List.length_take, List.length_append]; simp only [List.length_cons, List.length_nil]; omega
  · rw [List.length_take]; omega
  · have hc := List.mem_of_mem_take hc
    rw [List.mem_append] at hc
    rcases hc with q | q
    · exact hb.2.2 c (List.mem_of_mem_take q)
    · simp only [List.mem_cons, List.not_mem_nil, or_false, or_self] at q
      rw [q]; rfl
theorem lhs3_ok (ns : List Int) : ∀ l ∈ lhs3 ns, okL l := by
  unfold lhs3
  split
  · exact okL_set (lhs2_ok ns) (lother_ok (okL_get (lhs2_ok ns) (by rw [lhs2_len]; decide)))
  · exact lhs2_ok ns
theorem lhs0_eq (ns : List Int) : (upTo 5).mapIdx (fun i _ => PyData.str (lhead ns i)) = (lhs0 ns).map fun l => .str (sOf l) := rfl
theorem lhs_at {L : List (List Nat)} {i : Nat} (h : i < L.length) : atI (L.map fun l => PyData.str (sOf l)) (i : Int) = some (.str (sOf (L.getD i []))) := by
  refine atI_nat ?_
  rw [List.getElem?_map, List.getD_eq_getElem?_getD, List.getElem?_eq_getElem h]; rfl
theorem lhs_ix {L : List (List Nat)} {k : Nat} (h : k < L.length) : ixN (L.map fun l => PyData.str (sOf l)).length (k : Int) = some k := by
  rw [List.length_map]
  unfold ixN
  rw [if_pos (by omega), if_pos (by omega), Int.toNat_natCast]
theorem mul3_ok : PySem.MulOk (Str.ofString "a") 3 := ⟨by decide, fun _ _ => by decide, fun _ _ => by decide +kernel⟩
theorem mul3' : Txt.mul (Str.ofString "a") 3 = sOf [97, 97, 97] := mul3 97
theorem lhs2_small (ns : List Int) {i : Nat} (h : i < 5) : (sOf ((lhs2 ns).getD i [])).length ≤ sizeLine := by
  rw [sOf_len]
  exact Nat.le_trans (okL_get (lhs2_ok ns) (by rw [lhs2_len]; exact h)).2.1 (by decide)
theorem lother_eq (a b : List Nat) : PyData.str (cutS (cutS (sOf b) none (some 2) ++ Txt.mul (Str.ofString "a") 3) none (some (((sOf a).length : Nat) % 3 + 1))) = .str (sOf (lother a b)) := by
  rw [mul3', show (2 : Int) = ((2 : Nat) : Int) from rfl, cutS_to, sOf_app, sOf_len, show ((a.length : Int) % 3 + 1) = ((a.length % 3 + 1 : Nat) : Int) by omega, cutS_to]
  rfl
/-- five heads -/
structure HsOk (hs : List Str) : Prop where
  len : hs.length = 5
  ok : ∀ x ∈ hs, isHd x = true
theorem lheads_ok (ns : List Int) : HsOk (lheads ns) := ⟨lheads_len ns, fun x hx => by
  unfold lheads at hx
  obtain ⟨l, hl, rfl⟩ := List.mem_map.mp hx
  obtain ⟨h1, h2, h3⟩ := lhs3_ok ns l hl
  exact isHd_of h1 h2 h3⟩
abbrev dStrs (hs : List Str) : PyData := .list (hs.map .str)
theorem HsOk.get {hs : List Str} (h : HsOk hs) {i : Nat} (hi : i < 5) : isHd (hs.getD i (sOf [])) = true := by
  have hl : i < hs.length := by rw [h.len]; exact hi
  rw [List.getD_eq_getElem?_getD, List.getElem?_eq_getElem hl]
  exact h.ok _ (List.getElem_mem hl)
abbrev hat (hs : List Str) (i : Nat) : Str := hs.getD i (sOf [])
theorem hat_at {hs : List Str} (h : HsOk hs) {i : Nat} (hi : i < 5) : atI (hs.map PyData.str) (i : Int) = some (.str (hat hs i)) := by
  refine atI_nat ?_
  have hl : i < hs.length := by rw [h.len]; exact hi
  rw [List.getElem?_map, hat, List.getD_eq_getElem?_getD, List.getElem?_eq_getElem hl]; rfl
/-- a drawn term -/
def lterm (hs : List Str) : Nat → Int → T
  | 0, s => .t0 (hat hs (lmix s 9967 3).toNat)
  | n + 1, s => if lmix s 9973 7 < 2 then .t0 (hat hs (lmix s 9967 3).toNat) else
    if lmix s 9973 7 < 5 then .t1 (hat hs 3) (lterm hs n (s * 3 + 1)) else .t2 (hat hs 4) (lterm hs n (s * 3 + 1)) (lterm hs n (s * 5 + 2))
theorem lterm_ok {hs : List Str} (h : HsOk hs) : ∀ (n : Nat) (s : Int), (lterm hs n s).Ok
  | 0, s => h.get (by have := lmix_lt (c := s) (p := 9967) (m := 3) (by decide); omega)
  | n + 1, s => by
    unfold lterm
    split
    · exact h.get (by have := lmix_lt (c := s) (p := 9967) (m := 3) (by decide); omega)
    · split
      · exact ⟨h.get (by decide), lterm_ok h n _⟩
      · exact ⟨h.get (by decide), lterm_ok h n _, lterm_ok h n _⟩
theorem lterm_depth {hs : List Str} : ∀ (n : Nat) (s : Int), (lterm hs n s).depth ≤ n + 1
  | 0, s => by simp [lterm, T.depth]
  | n + 1, s => by
    unfold lterm
    split
    · simp [T.depth]
    · split
      · simp only [T.depth]
        have := lterm_depth (hs := hs) n (s * 3 + 1)
        omega
      · simp only [T.depth]
        have := lterm_depth (hs := hs) n (s * 3 + 1)
        have := lterm_depth (hs := hs) n (s * 5 + 2)
        omega

theorem hat_at' {hs : List Str} (h : HsOk hs) {i : Int} (h0 : 0 ≤ i) (hi : i < 5) : atI (hs.map PyData.str) i = some (.str (hat hs i.toNat)) := by
  have := hat_at h (i := i.toNat) (by omega)
  rw [Int.toNat_of_nonneg h0] at this
  exact this
theorem lterm_0 {hs : List Str} {l : Nat} {s : Int} (h : (decide ((l : Int) = 0) || decide (lmix s 9973 7 < 2)) = true) : lterm hs l s = .t0 (hat hs (lmix s 9967 3).toNat) := by
  cases l with
  | zero => rfl
  | succ n =>
    rw [show decide (((n + 1 : Nat) : Int) = 0) = false from decide_eq_false (by omega), Bool.false_or, decide_eq_true_eq] at h
    unfold lterm
    rw [if_pos h]
theorem lterm_s {l : Nat} {s : Int} (h : (decide ((l : Int) = 0) || decide (lmix s 9973 7 < 2)) = false) : ∃ m, l = m + 1 ∧ ¬ lmix s 9973 7 < 2 := by
  rw [Bool.or_eq_false_iff, decide_eq_false_iff_not, decide_eq_false_iff_not] at h
  exact ⟨l - 1, by omega, h.2⟩
theorem lterm_1 {hs : List Str} {n : Nat} {s : Int} (h2 : ¬ lmix s 9973 7 < 2) (h : decide (lmix s 9973 7 < 5) = true) : lterm hs (n + 1) s = .t1 (hat hs 3) (lterm hs n (s * 3 + 1)) := by
  rw [decide_eq_true_eq] at h
  rw [lterm, if_neg h2, if_pos h]
theorem lterm_2 {hs : List Str} {n : Nat} {s : Int} (h2 : ¬ lmix s 9973 7 < 2) (h : decide (lmix s 9973 7 < 5) = false) : lterm hs (n + 1) s = .t2 (hat hs 4) (lterm hs n (s * 3 + 1)) (lterm hs n (s * 5 + 2)) := by
  rw [decide_eq_false_iff_not] at h
  rw [lterm, if_neg h2, if_neg h]
/-! ### their contracts -/
def ct_cell : Ct := fun args Q => ∃ (ns : List Int) (k : Nat), args = [.dat (dInts ns), .dat (.int (k : Nat))] ∧ ns.length ≤ 1000 ∧ Q (.dat (.int (lcell ns k))) args
def ct_mix : Ct := fun args Q => ∃ c p m : Int, args = [.dat (.int c), .dat (.int p), .dat (.int m)] ∧ 0 < p ∧ 0 < m ∧ Q (.dat (.int (lmix c p m))) args
def ct_head : Ct := fun args Q => ∃ (ns : List Int) (k : Nat), args = [.dat (dInts ns), .dat (.int (k : Nat))] ∧ ns.length ≤ 1000 ∧ Q (.dat (.str (lhead ns k))) args
def ct_heads : Ct := fun args Q => ∃ ns : List Int, args = [.dat (dInts ns)] ∧ ns.length ≤ 1000 ∧ Q (.dat (dStrs (lheads ns))) args
def ct_term (n : Nat) : Ct := fun args Q => ∃ (hs : List Str) (s : Int) (l : Nat), args = [.dat (dStrs hs), .dat (.int s), .dat (.int (l : Nat))] ∧ HsOk hs ∧ l ≤ n ∧ Q (.dat (lterm hs l s).enc) args
theorem mo_cell : ∀ args Q Q', (∀ r a, Q r a → Q' r a) → ct_cell args Q → ct_cell args Q' := fun _ _ _ h ⟨ns, k, e, z, q⟩ => ⟨ns, k, e, z, h _ _ q⟩
theorem mo_mix : ∀ args Q Q', (∀ r a, Q r a → Q' r a) → ct_mix args Q → ct_mix args Q' := fun _ _ _ h ⟨c, p, m, e, h1, h2, q⟩ => ⟨c, p, m, e, h1, h2, h _ _ q⟩
theorem mo_head : ∀ args Q Q', (∀ r a, Q r a → Q' r a) → ct_head args Q → ct_head args Q' := fun _ _ _ h ⟨ns, k, e, z, q⟩ => ⟨ns, k, e, z, h _ _ q⟩
theorem mo_heads : ∀ args Q Q', (∀ r a, Q r a → Q' r a) → ct_heads args Q → ct_heads args Q' := fun _ _ _ h ⟨ns, e, z, q⟩ => ⟨ns, e, z, h _ _ q⟩
theorem mo_term (n : Nat) : ∀ args Q Q', (∀ r a, Q r a → Q' r a) → ct_term n args Q → ct_term n args Q' := fun _ _ _ h ⟨hs, s, l, e, z, hl, q⟩ => ⟨hs, s, l, e, z, hl, h _ _ q⟩
theorem cut_int {ns : List Int} {l u : Option Int} {i : Nat} {d : PyData} (e : (cutD (ns.map PyData.int) l u)[i]? = some d) : ∃ x, d = .int x := by
  have h := List.mem_of_getElem? e
  unfold cutD at h
  have h2 := List.mem_of_mem_drop (List.mem_of_mem_take h)
  obtain ⟨x, _, rfl⟩ := List.mem_map.mp h2
  exact ⟨x, rfl⟩
/-- the cells a .. b -/
def lcut (ns : List Int) (a b : Nat) : List Int := (ns.drop (min a ns.length)).take (min b ns.length - min a ns.length)
theorem cut_ints (ns : List Int) (a b : Nat) : PyData.list (cutD (ns.map .int) (some (a : Int)) (some (b : Int))) = .list ((lcut ns a b).map .int) := by
  unfold cutD lcut
  rw [HT.sIx_nat, HT.sIx_nat, List.length_map, List.map_take, List.map_drop]
theorem lcut_len (ns : List Int) (a b : Nat) : (lcut ns a b).length ≤ b - a := by
  unfold lcut
  rw [List.length_take]
  omega
theorem lcut_sub {ns : List Int} {a b : Nat} {x : Int} (h : x ∈ lcut ns a b) : x ∈ ns := List.mem_of_mem_drop (List.mem_of_mem_take h)
end SH
/-! SHw: from a law's def to its row. -/
namespace SH
open PySem PySem.Spec PyProof.Rows L2
/-- the built-ins' names are not the module's -/
structure Bt (mg : Str → Option Value) : Prop where
  len : mg "len" = none
  isinstance : mg "isinstance" = none
  str : mg "str" = none
  tuple : mg "tuple" = none
  list : mg "list" = none
  all : mg "all" = none
  any : mg "any" = none
  range : mg "range" = none
  sum : mg "sum" = none
  sorted : mg "sorted" = none
  set : mg "set" = none
  zip : mg "zip" = none
  enumerate : mg "enumerate" = none
  int : mg "int" = none
  bool : mg "bool" = none
  dict : mg "dict" = none
  max : mg "max" = none
  min : mg "min" = none
  reversed : mg "reversed" = none
/-- what law(script) promises -/
def ct_law : Ct := fun args Q => ∃ ns : List Int, args = [.dat (dInts ns)] ∧ ns.length ≤ 63 ∧ Q (.dat (.bool true)) args
/-- no list stands in the written part -/
def noList (K : PySem.W.Frag) : Bool := K.all fun p => !(p.2.cls == .type "list")
theorem noList_get {K : PySem.W.Frag} (h : noList K = true) {a : Addr} {o : Obj} (e : K.lookup a = some o) : o.cls ≠ .type "list" := by
  intro hc
  unfold noList at h
  rw [List.all_eq_true] at h
  have mem : ∀ (L : List (Addr × Obj)), L.lookup a = some o → (a, o) ∈ L := fun L => by
    induction L with
    | nil => intro e; cases e
    | cons x r ih =>
      intro e
      obtain ⟨b, u⟩ := x
      rw [List.lookup_cons] at e
      by_cases hb : a == b
      · rw [hb] at e
        have := beq_iff_eq.mp hb
        cases e
        rw [this]
        exact List.mem_cons_self ..
      · rw [show (a == b) = false by simpa using hb] at e
        exact List.mem_cons_of_mem _ (ih e)
  have := h _ (mem K e)
  rw [hc] at this
  simp at this
theorem law_sp {P : Program} {w : World} {K : PySem.W.Frag} (hk : noList K = true) {H : Hp} {a : Addr} {ns : List Int} (hl : ns.length ≤ 63) (hS : SqL K H a (ns.map V.int)) : spC P w 1 ct_law [.ref a] H (fun v _ => v = .bl true) fun _ _ _ => False := by
  have hr : Rd H a (.lst (ns.map V.int)) := by
    rcases hS with q | ⟨o, its, n, e, c, _⟩
    · exact q
    · exact absurd c (noList_get hk e)
  have das : ∀ ms : List Int, Das H (ms.map V.int) (ms.map .int) := fun ms => by
    induction ms with
    | nil => exact .nil
    | cons m r ih => exact .cons (.int m) ih
  refine ⟨H, [.dat (dInts ns)], rfl, ⟨Same.refl _, rfl, fun i ov e => ?_, fun i => ?_, fun i j b hij h => ?_, fun b ⟨i, h⟩ => ?_⟩, ns, rfl, hl, fun v F' H' g => ?_⟩
  · cases i with
    | zero => cases e; exact ⟨_, rfl, .dat (.lst hr (das ns))⟩
    | succ i => simp at e
  · cases i with
    | zero => exact .nil
    | succ i => exact .nil
  · cases i with
    | zero => simp [footAt, foot] at h
    | succ i => simp [footAt] at h
  · cases i with
    | zero => simp [footAt, foot] at h
    | succ i => simp [footAt] at h
  · have o := g.own
    cases o with
    | dat q => cases q; rfl
theorem walkC {l : PySem.W.OpenLaw} {k : Nat} {q : Program} {loose : List Str} {XP : (Str → Option Value) → Heap → Prop} {YP : World → Heap → Prop} {d : DefRec} {K : Params → PySem.W.Frag} (hn : l.most = some 63) (hdf : d.params.defaults = []) (hr : Room k callerA)
    (hY : ∀ (w : World) (h : Heap), YP w h → (K w.params).In h) (hK : ∀ w : World, noList (K w.params) = true)
    (F : ∀ (w : World) (mg : Str → Option Value) (fa : Addr) (h : Heap), (K w.params).In h → h.Ns mainGlobals mg → mg d.name = some (.ref fa) →
      ∃ fd : FuncData, (∀ (s : Shared) (u : Value), BindsTo s fd ⟨[u], []⟩ [("_law_script", u)]) ∧ ∀ base : Heap, (K w.params).In base → base.Ns mainGlobals mg → FnOk l.prog w (K w.params) mg base CX0 k fa fd ["_law_script"] (spC l.prog w 1 ct_law)) :
    PySem.W.WalkO q loose XP YP l.row.toRowW d [] (fun f vs => PySem.call f vs) :=
  L2.walk_of (n := 63) (k := k) (x := "_law_script") (CX := fun _ => CX0) (sp := fun w => spC l.prog w 1 ct_law) hn (by decide) hdf hr hY F (fun w H a ns hl _ hS => law_sp (hK w) hl hS) fun _ _ _ _ _ z => z
/-! ### isinstance with a written type -/
def isStrD : PyData → Bool
  | .str _ => true
  | _ => false
def isTupD : PyData → Bool
  | .tuple _ => true
  | _ => false
def isBoolD : PyData → Bool
  | .bool _ => true
  | _ => false
def isIntD : PyData → Bool
  | .int _ => true
  | .bool _ => true
  | _ => false
theorem kit_str (d : PyData) : kitB (dty d) "str" = some (isStrD d) := by
  cases d with
  | none => show kitB "NoneType" "str" = some false; decide +kernel
  | bool _ => show kitB "bool" "str" = some false; decide +kernel
  | int _ => show kitB "int" "str" = some false; decide +kernel
  | str _ => show kitB "str" "str" = some true; decide +kernel
  | list _ => show kitB "list" "str" = some false; decide +kernel
  | tuple _ => show kitB "tuple" "str" = some false; decide +kernel
  | dict _ => show kitB "dict" "str" = some false; decide +kernel
theorem kit_tup (d : PyData) : kitB (dty d) "tuple" = some (isTupD d) := by
  cases d with
  | none => show kitB "NoneType" "tuple" = some false; decide +kernel
  | bool _ => show kitB "bool" "tuple" = some false; decide +kernel
  | int _ => show kitB "int" "tuple" = some false; decide +kernel
  | str _ => show kitB "str" "tuple" = some false; decide +kernel
  | list _ => show kitB "list" "tuple" = some false; decide +kernel
  | tuple _ => show kitB "tuple" "tuple" = some true; decide +kernel
  | dict _ => show kitB "dict" "tuple" = some false; decide +kernel
theorem kit_bool (d : PyData) : kitB (dty d) "bool" = some (isBoolD d) := by
  cases d with
  | none => show kitB "NoneType" "bool" = some false; decide +kernel
  | bool _ => show kitB "bool" "bool" = some true; decide +kernel
  | int _ => show kitB "int" "bool" = some false; decide +kernel
  | str _ => show kitB "str" "bool" = some false; decide +kernel
  | list _ => show kitB "list" "bool" = some false; decide +kernel
  | tuple _ => show kitB "tuple" "bool" = some false; decide +kernel
  | dict _ => show kitB "dict" "bool" = some false; decide +kernel
theorem kit_int (d : PyData) : kitB (dty d) "int" = some (isIntD d) := by
  cases d with
  | none => show kitB "NoneType" "int" = some false; decide +kernel
  | bool _ => show kitB "bool" "int" = some true; decide +kernel
  | int _ => show kitB "int" "int" = some true; decide +kernel
  | str _ => show kitB "str" "int" = some false; decide +kernel
  | list _ => show kitB "list" "int" = some false; decide +kernel
  | tuple _ => show kitB "tuple" "int" = some false; decide +kernel
  | dict _ => show kitB "dict" "int" = some false; decide +kernel
theorem boot_tStr : bootBuiltins "str" = some (.type "str") := by decide +kernel
theorem boot_tTuple : bootBuiltins "tuple" = some (.type "tuple") := by decide +kernel
theorem boot_tBool : bootBuiltins "bool" = some (.type "bool") := by decide +kernel
theorem boot_tInt : bootBuiltins "int" = some (.type "int") := by decide +kernel
theorem boot_tList : bootBuiltins "list" = some (.type "list") := by decide +kernel
section
variable {X : Cx} {e : Expr} {S S1 : ASt} {d : PyData} {p py pos : Pos}
theorem ev_isStr (B : Bt X.mg) (he : Ev X e S d S1) (hg : Gl X "isinstance" := by rfl) (hgy : Gl X "str" := by rfl) (hs : starEach [e, .Name "str" py] X.env = (false, eval e X.env) :: starEach [.Name "str" py] X.env := by exact star_plain rfl) (hs2 : starEach [.Name "str" py] X.env = (false, eval (.Name "str" py) X.env) :: starEach [] X.env := by exact star_plain rfl) (hpl : (backTo pos (starEach [.Name "str" py] X.env)).any (·.1) = false := by exact back_plain rfl) :
    Ev X (.Call (.Name "isinstance" p) [e, .Name "str" py] [] pos) S (.bool (isStrD d)) S1 := ev_isi he (kit_str d) B.isinstance B.str boot_tStr hg hgy (by decide) (by decide) hs hs2 hpl
theorem ev_isTup (B : Bt X.mg) (he : Ev X e S d S1) (hg : Gl X "isinstance" := by rfl) (hgy : Gl X "tuple" := by rfl) (hs : starEach [e, .Name "tuple" py] X.env = (false, eval e X.env) :: starEach [.Name "tuple" py] X.env := by exact star_plain rfl) (hs2 : starEach [.Name "tuple" py] X.env = (false, eval (.Name "tuple" py) X.env) :: starEach [] X.env := by exact star_plain rfl) (hpl : (backTo pos (starEach [.Name "tuple" py] X.env)).any (·.1) = false := by exact back_plain rfl) :
    Ev X (.Call (.Name "isinstance" p) [e, .Name "tuple" py] [] pos) S (.bool (isTupD d)) S1 := ev_isi he (kit_tup d) B.isinstance B.tuple boot_tTuple hg hgy (by decide) (by decide) hs hs2 hpl
theorem ev_isBool (B : Bt X.mg) (he : Ev X e S d S1) (hg : Gl X "isinstance" := by rfl) (hgy : Gl X "bool" := by rfl) (hs : starEach [e, .Name "bool" py] X.env = (false, eval e X.env) :: starEach [.Name "bool" py] X.env := by exact star_plain rfl) (hs2 : starEach [.Name "bool" py] X.env = (false, eval (.Name "bool" py) X.env) :: starEach [] X.env := by exact star_plain rfl) (hpl : (backTo pos (starEach [.Name "bool" py] X.env)).any (·.1) = false := by exact back_plain rfl) :
    Ev X (.Call (.Name "isinstance" p) [e, .Name "bool" py] [] pos) S (.bool (isBoolD d)) S1 := ev_isi he (kit_bool d) B.isinstance B.bool boot_tBool hg hgy (by decide) (by decide) hs hs2 hpl
theorem ev_isInt (B : Bt X.mg) (he : Ev X e S d S1) (hg : Gl X "isinstance" := by rfl) (hgy : Gl X "int" := by rfl) (hs : starEach [e, .Name "int" py] X.env = (false, eval e X.env) :: starEach [.Name "int" py] X.env := by exact star_plain rfl) (hs2 : starEach [.Name "int" py] X.env = (false, eval (.Name "int" py) X.env) :: starEach [] X.env := by exact star_plain rfl) (hpl : (backTo pos (starEach [.Name "int" py] X.env)).any (·.1) = false := by exact back_plain rfl) :
    Ev X (.Call (.Name "isinstance" p) [e, .Name "int" py] [] pos) S (.bool (isIntD d)) S1 := ev_isi he (kit_int d) B.isinstance B.int boot_tInt hg hgy (by decide) (by decide) hs hs2 hpl
end
theorem signs_at {x : Str} {i : Nat} {d : PyData} (e : (signs x)[i]? = some d) : ∃ c, d = .str ⟨#[c]⟩ := by
  unfold signs at e
  rw [List.getElem?_map] at e
  cases h : x.cps.toList[i]? with
  | none => rw [h] at e; cases e
  | some c => rw [h] at e; cases e; exact ⟨c, rfl⟩
theorem signs_len (x : Str) : (signs x).length = x.length := by unfold signs; rw [List.length_map]; simp [Str.length]
def signL : PyData → Bool
  | .str y => isLetter (y.cps.toList.headD 0)
  | _ => false
theorem signs_map (x : Str) : (signs x).mapIdx (fun _ d => PyData.bool (signL d)) = (x.cps.toList.map isLetter).map .bool := by
  unfold signs
  apply List.ext_getElem?
  intro i
  rw [List.getElem?_mapIdx, List.getElem?_map, List.getElem?_map, List.getElem?_map]
  cases x.cps.toList[i]? <;> rfl
end SH
/-! SHn: what is a term (law 1), in plain Lean. -/
namespace SH
open PySem PySem.Spec PyProof.Rows L2
/-- is_head, is_term of any datum -/
def isHdD : PyData → Bool
  | .str x => isHd x
  | _ => false
mutual
def isTm : PyData → Bool
  | .tuple ds => match ds with
    | [] => false
    | h :: r => decide (r.length ≤ 2) && (isHdD h && isTms r)
  | _ => false
def isTms : List PyData → Bool
  | [] => true
  | d :: r => isTm d && isTms r
end
mutual
/-- how deep -/
def tdep : PyData → Nat
  | .tuple ds => tdeps ds + 1
  | _ => 0
def tdeps : List PyData → Nat
  | [] => 0
  | d :: r => max (tdep d) (tdeps r)
end
mutual
def tsm : PyData → Bool
  | .str x => decide (x.length ≤ 1000)
  | .tuple ds => decide (ds.length ≤ 1000) && tsms ds
  | _ => true
def tsms : List PyData → Bool
  | [] => true
  | d :: r => tsm d && tsms r
end
theorem isTms_all (ds : List PyData) : isTms ds = (ds.map isTm).all fun c => c := by
  induction ds with
  | nil => rfl
  | cons d r ih => rw [isTms, ih]; rfl
theorem tdeps_mem {ds : List PyData} {d : PyData} (h : d ∈ ds) : tdep d ≤ tdeps ds := by
  induction ds with
  | nil => cases h
  | cons e r ih =>
    rw [tdeps]
    rcases List.mem_cons.mp h with rfl | h
    · omega
    · have := ih h; omega
theorem tsms_mem {ds : List PyData} {d : PyData} (h : d ∈ ds) (hs : tsms ds = true) : tsm d = true := by
  induction ds with
  | nil => cases h
  | cons e r ih =>
    rw [tsms, Bool.and_eq_true] at hs
    rcases List.mem_cons.mp h with rfl | h
    · exact hs.1
    · exact ih h hs.2
def ct_isHead : Ct := fun args Q => ∃ d, args = [.dat d] ∧ tsm d = true ∧ Q (.dat (.bool (isHdD d))) args
def ct_isTerm (n : Nat) : Ct := fun args Q => ∃ d, args = [.dat d] ∧ tsm d = true ∧ tdep d ≤ n ∧ Q (.dat (.bool (isTm d))) args
theorem mo_isHead : ∀ args Q Q', (∀ r a, Q r a → Q' r a) → ct_isHead args Q → ct_isHead args Q' := fun _ _ _ h ⟨d, e, z, q⟩ => ⟨d, e, z, h _ _ q⟩
theorem mo_isTerm (n : Nat) : ∀ args Q Q', (∀ r a, Q r a → Q' r a) → ct_isTerm n args Q → ct_isTerm n args Q' := fun _ _ _ h ⟨d, e, z, y, q⟩ => ⟨d, e, z, y, h _ _ q⟩
/-- the letter test by the alphabet -/
theorem in_abc (c : Nat) : decide (c ∈ abc.cps.toList) = isLetter c := by
  rw [abc_codes, Bool.eq_iff_iff, decide_eq_true_eq, List.mem_range'_1]
  unfold isLetter
  rw [Bool.and_eq_true, decide_eq_true_eq, decide_eq_true_eq]
/-- terms are terms -/
theorem isHdD_str {x : Str} : isHdD (.str x) = isHd x := rfl
theorem isTm_enc : ∀ {t : T}, t.Ok → isTm t.enc = true
  | .t0 h, o => by
    show (decide (([] : List PyData).length ≤ 2) && (isHd h && isTms [])) = true
    rw [show isHd h = true from o]; rfl
  | .t1 h a, o => by
    show (decide ([a.enc].length ≤ 2) && (isHd h && (isTm a.enc && isTms []))) = true
    rw [show isHd h = true from o.1, isTm_enc o.2]; rfl
  | .t2 h a b, o => by
    show (decide ([a.enc, b.enc].length ≤ 2) && (isHd h && (isTm a.enc && (isTm b.enc && isTms [])))) = true
    rw [show isHd h = true from o.1, isTm_enc o.2.1, isTm_enc o.2.2]; rfl
theorem tdep_enc : ∀ t : T, tdep t.enc = t.depth
  | .t0 h => rfl
  | .t1 h a => by
    show max 0 (max (tdep a.enc) 0) + 1 = _
    rw [tdep_enc a, T.depth]; omega
  | .t2 h a b => by
    show max 0 (max (tdep a.enc) (max (tdep b.enc) 0)) + 1 = _
    rw [tdep_enc a, tdep_enc b, T.depth]; omega
theorem isHd_small {x : Str} (h : isHd x = true) : x.length ≤ 1000 := by
  simp only [isHd, Bool.and_eq_true, decide_eq_true_eq] at h
  omega
theorem tsm_enc : ∀ {t : T}, t.Ok → tsm t.enc = true
  | .t0 h, o => by
    show (decide ([PyData.str h].length ≤ 1000) && (decide (h.length ≤ 1000) && true)) = true
    rw [decide_eq_true (isHd_small o)]; rfl
  | .t1 h a, o => by
    show (decide ([PyData.str h, a.enc].length ≤ 1000) && (decide (h.length ≤ 1000) && (tsm a.enc && true))) = true
    rw [decide_eq_true (isHd_small o.1), tsm_enc o.2]; rfl
  | .t2 h a b, o => by
    show (decide ([PyData.str h, a.enc, b.enc].length ≤ 1000) && (decide (h.length ≤ 1000) && (tsm a.enc && (tsm b.enc && true)))) = true
    rw [decide_eq_true (isHd_small o.1), tsm_enc o.2.1, tsm_enc o.2.2]; rfl

theorem isTm_long {ds : List PyData} (h : (!(decide ((1 : Int) ≤ (ds.length : Nat)) && decide (((ds.length : Nat) : Int) ≤ 3))) = true) : isTm (.tuple ds) = false := by
  rw [Bool.not_eq_true', Bool.and_eq_false_iff, decide_eq_false_iff_not, decide_eq_false_iff_not] at h
  cases ds with
  | nil => rfl
  | cons a r =>
    show (decide (r.length ≤ 2) && _) = false
    rw [List.length_cons] at h
    rw [decide_eq_false (by omega)]; rfl
theorem isTm_short {ds : List PyData} (h : (!(decide ((1 : Int) ≤ (ds.length : Nat)) && decide (((ds.length : Nat) : Int) ≤ 3))) = false) : ∃ a r, ds = a :: r ∧ r.length ≤ 2 ∧ isTm (.tuple ds) = (isHdD a && isTms r) := by
  rw [Bool.not_eq_false', Bool.and_eq_true, decide_eq_true_eq, decide_eq_true_eq] at h
  cases ds with
  | nil => simp at h
  | cons a r =>
    rw [List.length_cons] at h
    have h2 : r.length ≤ 2 := by omega
    refine ⟨a, r, rfl, h2, ?_⟩
    show (decide (r.length ≤ 2) && _) = _
    rw [decide_eq_true h2]; rfl
theorem cut_tail (a : PyData) (r : List PyData) : PyData.tuple (cutD (a :: r) (some 1) none) = .tuple r := by
  unfold cutD
  rw [show (1 : Int) = ((1 : Nat) : Int) from rfl, HT.sIx_nat, HT.sIx_none]
  rw [show min 1 (a :: r).length = 1 by rw [List.length_cons]; omega]
  rw [List.drop_one, List.tail_cons, List.take_of_length_le (by rw [List.length_cons]; omega)]
theorem mapIdx_map {f : PyData → PyData} (ds : List PyData) : ds.mapIdx (fun _ d => f d) = ds.map f := by
  rw [List.mapIdx_eq_zipIdx_map]
  apply List.ext_getElem?
  intro i
  rw [List.getElem?_map, List.getElem?_map, List.getElem?_zipIdx]
  cases ds[i]? <;> rfl
theorem isTm_nt {d : PyData} (h : ¬ ∃ ds, d = .tuple ds) : isTm d = false := by
  cases d with
  | tuple x => exact absurd ⟨x, rfl⟩ h
  | none => rw [isTm]; intro a e; cases e
  | bool _ => rw [isTm]; intro a e; cases e
  | int _ => rw [isTm]; intro a e; cases e
  | str _ => rw [isTm]; intro a e; cases e
  | list _ => rw [isTm]; intro a e; cases e
  | dict _ => rw [isTm]; intro a e; cases e
theorem at_0 {a : PyData} {r : List PyData} : atI (a :: r) 0 = some a := atI_nat (j := 0) rfl
/-! ### the spoilt ones -/
abbrev sS (x : String) : PyData := .str (Str.ofString x)
abbrev sT (x : String) : PyData := .tuple [sS x]
def lbads (hs : List Str) (t : T) : List PyData :=
  [.none, .int 7, .str (hat hs 0), .tuple [], sT "", sT "abcd", sT "A", sT "a1", sT "a b", sT "f(", .tuple [.none], .tuple [.int 7], .tuple [sT "a"]] ++
  [.list t.items, .tuple [.str (hat hs 4), t.enc, t.enc, t.enc], .tuple [.str (hat hs 3), .none], .tuple [.str (hat hs 3), .str (hat hs 0)]] ++
  [.tuple [.str (hat hs 3), .list [.str (hat hs 0)]]] ++
  [.tuple [.str (hat hs 4), .tuple [.str (hat hs 0)], .tuple []], .tuple [.bool true], .tuple [.str (hat hs 3), sT "a_"], .tuple [.str (hat hs 4), sT "Z", .tuple [.str (hat hs 0)]]]
theorem lbads_len (hs : List Str) (t : T) : (lbads hs t).length = 22 := rfl
def lbad (hs : List Str) (t : T) (c : Int) : PyData := (lbads hs t).getD (c % 22).toNat .none
def larounds (hs : List Str) (b : PyData) (t : T) : List PyData :=
  [b, .tuple [.str (hat hs 3), b], .tuple [.str (hat hs 4), b, t.enc], .tuple [.str (hat hs 4), t.enc, b], .tuple [.str (hat hs 3), .tuple [.str (hat hs 3), b]]]
def laround (hs : List Str) (b : PyData) (t : T) (c : Int) : PyData := (larounds hs b t).getD (c % 5).toNat .none
theorem atI_mod {ds : List PyData} {c n : Int} (hn : 0 < n) (h : (ds.length : Int) = n) : atI ds (c % n) = some (ds.getD (c % n).toNat .none) := by
  have h0 := Int.emod_nonneg c (by omega : n ≠ 0)
  have h1 := Int.emod_lt_of_pos c hn
  obtain ⟨k, hk⟩ : ∃ k : Nat, c % n = k := ⟨(c % n).toNat, by omega⟩
  rw [hk]
  refine atI_nat ?_
  rw [Int.toNat_natCast, List.getD_eq_getElem?_getD, List.getElem?_eq_getElem (by omega)]; rfl
/-- what a spoilt one is asked of -/
def Bad (n : Nat) (d : PyData) : Prop := isTm d = false ∧ tsm d = true ∧ tdep d ≤ n
theorem lbads_bad {hs : List Str} (ho : HsOk hs) {t : T} (ht : t.Ok) {n : Nat} (hd : t.depth + 1 ≤ n) (h2 : 3 ≤ n) : ∀ d ∈ lbads hs t, Bad n d := by
  have h0 : isHd (hat hs 0) = true := ho.get (i := 0) (by decide)
  have h3 : isHd (hat hs 3) = true := ho.get (i := 3) (by decide)
  have h4 : isHd (hat hs 4) = true := ho.get (i := 4) (by decide)
  have s0 := isHd_small h0
  have s3 := isHd_small h3
  have s4 := isHd_small h4
  have et := isTm_enc ht
  have st := tsm_enc ht
  have dt := tdep_enc t
  have it : tsms t.items = true ∧ (t.items.length ≤ 1000) := by
    have := tsm_enc ht
    rw [T.enc_items, tsm, Bool.and_eq_true, decide_eq_true_eq] at this
    exact ⟨this.2, this.1⟩
  intro d hd'
  unfold lbads at hd'
  generalize hat hs 0 = a0 at h0 s0 hd'
  generalize hat hs 3 = a3 at h3 s3 hd'
  generalize hat hs 4 = a4 at h4 s4 hd'
  simp only [List.mem_append, List.mem_cons, List.not_mem_nil, or_false] at hd'
  have e1 : isHd (Str.ofString "") = false := by decide +kernel
  have e2 : isHd (Str.ofString "abcd") = false := by decide +kernel
  have e3 : isHd (Str.ofString "A") = false := by decide +kernel
  have e4 : isHd (Str.ofString "a1") = false := by decide +kernel
  have e5 : isHd (Str.ofString "a b") = false := by decide +kernel
  have e6 : isHd (Str.ofString "f(") = false := by decide +kernel
  have e7 : isHd (Str.ofString "a_") = false := by decide +kernel
  have e8 : isHd (Str.ofString "Z") = false := by decide +kernel
  have l1 : (Str.ofString "").length ≤ 1000 := by decide +kernel
  have l2 : (Str.ofString "abcd").length ≤ 1000 := by decide +kernel
  have l3 : (Str.ofString "A").length ≤ 1000 := by decide +kernel
  have l4 : (Str.ofString "a1").length ≤ 1000 := by decide +kernel
  have l5 : (Str.ofString "a b").length ≤ 1000 := by decide +kernel
  have l6 : (Str.ofString "f(").length ≤ 1000 := by decide +kernel
  have l7 : (Str.ofString "a_").length ≤ 1000 := by decide +kernel
  have l8 : (Str.ofString "Z").length ≤ 1000 := by decide +kernel
  have l9 : (Str.ofString "a").length ≤ 1000 := by decide +kernel
  rcases hd' with ((((rfl | rfl | rfl | rfl | rfl | rfl | rfl | rfl | rfl | rfl | rfl | rfl | rfl) | (rfl | rfl | rfl | rfl)) | rfl) | (rfl | rfl | rfl | rfl)) <;>
    (refine ⟨?_, ?_, ?_⟩ <;> simp [isTm, isTms, isHdD, tsm, tsms, tdep, tdeps, s0, s3, s4, et, st, dt, e1, e2, e3, e4, e5, e6, e7, e8, l1, l2, l3, l4, l5, l6, l7, l8, l9] <;> omega)
theorem lbad_bad {hs : List Str} (ho : HsOk hs) {t : T} (ht : t.Ok) {n : Nat} (hd : t.depth + 1 ≤ n) (h2 : 3 ≤ n) (c : Int) : Bad n (lbad hs t c) := by
  have h0 := Int.emod_nonneg c (by decide : (22 : Int) ≠ 0)
  have h1 := Int.emod_lt_of_pos c (by decide : (0 : Int) < 22)
  unfold lbad
  rw [List.getD_eq_getElem?_getD, List.getElem?_eq_getElem (by rw [lbads_len]; omega)]
  exact lbads_bad ho ht hd h2 _ (List.getElem_mem _)
theorem larounds_bad {hs : List Str} (ho : HsOk hs) {t : T} (ht : t.Ok) {b : PyData} {n : Nat} (hb : Bad n b) (hd : t.depth ≤ n) : ∀ d ∈ larounds hs b t, Bad (n + 2) d := by
  have h3 : isHd (hat hs 3) = true := ho.get (i := 3) (by decide)
  have h4 : isHd (hat hs 4) = true := ho.get (i := 4) (by decide)
  have s3 := isHd_small h3
  have s4 := isHd_small h4
  have et := isTm_enc ht
  have st := tsm_enc ht
  have dt := tdep_enc t
  obtain ⟨b1, b2, b3⟩ := hb
  intro d hd'
  unfold larounds at hd'
  generalize hat hs 3 = a3 at h3 s3 hd'
  generalize hat hs 4 = a4 at h4 s4 hd'
  simp only [List.mem_cons, List.not_mem_nil, or_false] at hd'
  rcases hd' with rfl | rfl | rfl | rfl | rfl <;>
    (refine ⟨?_, ?_, ?_⟩ <;> (try simp [isTm, isTms, isHdD, tsm, tsms, tdep, tdeps, s3, s4, h3, h4, et, st, dt, b1, b2, b3]) <;> first | assumption | omega)
theorem laround_bad {hs : List Str} (ho : HsOk hs) {t : T} (ht : t.Ok) {b : PyData} {n : Nat} (hb : Bad n b) (hd : t.depth ≤ n) (c : Int) : Bad (n + 2) (laround hs b t c) := by
  have h0 := Int.emod_nonneg c (by decide : (5 : Int) ≠ 0)
  have h1 := Int.emod_lt_of_pos c (by decide : (0 : Int) < 5)
  unfold laround
  rw [List.getD_eq_getElem?_getD, List.getElem?_eq_getElem (by show _ < 5; omega)]
  exact larounds_bad ho ht hb hd _ (List.getElem_mem _)
def ct_bad : Ct := fun args Q => ∃ (hs : List Str) (t : T) (c : Int), args = [.dat (dStrs hs), .dat t.enc, .dat (.int c)] ∧ HsOk hs ∧ Q (.dat (lbad hs t c)) args
def ct_around : Ct := fun args Q => ∃ (hs : List Str) (b : PyData) (t : T) (c : Int), args = [.dat (dStrs hs), .dat b, .dat t.enc, .dat (.int c)] ∧ HsOk hs ∧ Q (.dat (laround hs b t c)) args
theorem mo_bad : ∀ args Q Q', (∀ r a, Q r a → Q' r a) → ct_bad args Q → ct_bad args Q' := fun _ _ _ h ⟨hs, t, c, e, z, q⟩ => ⟨hs, t, c, e, z, h _ _ q⟩
theorem mo_around : ∀ args Q Q', (∀ r a, Q r a → Q' r a) → ct_around args Q → ct_around args Q' := fun _ _ _ h ⟨hs, b, t, c, e, z, q⟩ => ⟨hs, b, t, c, e, z, h _ _ q⟩
theorem zzz_tm : isTm (.tuple [.str (Str.ofString "zzz"), .tuple [.str (Str.ofString "a")], .tuple [.str (Str.ofString "zzz")]]) = true := by decide +kernel
end SH
/-! SHr: comprehensions over terms; terms as texts. -/
namespace SH
open PySem PySem.Spec PyProof.Rows L2
theorem mapIdx_enc (g : T → PyData) (ts : List T) : (ts.map T.enc).mapIdx (fun i _ => ((ts[i]?).map g).getD .none) = ts.map g := by
  apply List.ext_getElem?
  intro i
  rw [List.getElem?_mapIdx, List.getElem?_map, List.getElem?_map]
  cases ts[i]? <;> rfl
theorem enc_at {ts : List T} {i : Nat} {d : PyData} (e : (ts.map T.enc)[i]? = some d) : ∃ u, ts[i]? = some u ∧ u ∈ ts ∧ d = u.enc := by
  rw [List.getElem?_map] at e
  cases h : ts[i]? with
  | none => rw [h] at e; cases e
  | some u => rw [h] at e; cases e; exact ⟨u, rfl, List.mem_of_getElem? h, rfl⟩
section
variable {X : Cx} {S Sa : ASt} {it elt : Expr} {scope : Scope}
/-- [elt for x in terms] -/
theorem lc_mapT (v : Nat) {x : Str} {tpos : Pos} (g : T → PyData) {ts : List T} (hi : ItD X (.Name x tpos) it S (ts.map T.enc) Sa) (ok : BlkOk X.N X.env.scope scope [(x, v)]) (hn : Sa[v]? = some none)
    (hs : ∀ u ∈ ts, ∀ s H C cl fp, Ev (X.blk s H scope (compEnvC scope cl C X.env) fp) elt (Sa.set v (some (.dat u.enc))) (g u) (Sa.set v (some (.dat u.enc))))
    (hz : ts.length ≤ sizeLine) (hN : X.N.Nodup)
    (hv : X.N[v]? = some x := by rfl) (hl : ∀ C cl, Loc (compEnvC scope cl C X.env).scope x := by first | exact fun _ _ => Or.inl rfl | exact fun _ _ => Or.inr rfl) (hf : ∀ s H C cl fp, (X.blk s H scope (compEnvC scope cl C X.env) fp).fn x = true ∨ (compEnvC scope cl C X.env).scope.names.lookup x = some .local := by first | exact fun _ _ _ _ _ => .inl rfl | exact fun _ _ _ _ _ => .inr rfl) :
    LcIs X scope (.Name x tpos) it elt [] S (ts.map g) Sa := by
  refine (lc_map1 v (fun i _ => ((ts[i]?).map g).getD .none) hi ok hn (fun i d e => ?_) (by rw [List.length_map]; exact hz) hN hv hl hf).to (mapIdx_enc g ts)
  obtain ⟨u, h1, h2, rfl⟩ := enc_at e
  rw [h1]
  exact hs u h2
end

theorem mapIdx_by {β : Type} (en g : β → PyData) (bs : List β) : (bs.map en).mapIdx (fun i _ => ((bs[i]?).map g).getD .none) = bs.map g := by
  apply List.ext_getElem?
  intro i
  rw [List.getElem?_mapIdx, List.getElem?_map, List.getElem?_map]
  cases bs[i]? <;> rfl
theorem by_at {β : Type} {en : β → PyData} {bs : List β} {i : Nat} {d : PyData} (e : (bs.map en)[i]? = some d) : ∃ b, bs[i]? = some b ∧ b ∈ bs ∧ d = en b := by
  rw [List.getElem?_map] at e
  cases h : bs[i]? with
  | none => rw [h] at e; cases e
  | some u => rw [h] at e; cases e; exact ⟨u, rfl, List.mem_of_getElem? h, rfl⟩
section
variable {X : Cx} {S Sa : ASt} {it elt : Expr} {scope : Scope} {β : Type}
theorem lc_mapE (v : Nat) {x : Str} {tpos : Pos} (en g : β → PyData) {bs : List β} (hi : ItD X (.Name x tpos) it S (bs.map en) Sa) (ok : BlkOk X.N X.env.scope scope [(x, v)]) (hn : Sa[v]? = some none)
    (hs : ∀ b ∈ bs, ∀ s H C cl fp, Ev (X.blk s H scope (compEnvC scope cl C X.env) fp) elt (Sa.set v (some (.dat (en b)))) (g b) (Sa.set v (some (.dat (en b)))))
    (hz : bs.length ≤ sizeLine) (hN : X.N.Nodup)
    (hv : X.N[v]? = some x := by rfl) (hl : ∀ C cl, Loc (compEnvC scope cl C X.env).scope x := by first | exact fun _ _ => Or.inl rfl | exact fun _ _ => Or.inr rfl) (hf : ∀ s H C cl fp, (X.blk s H scope (compEnvC scope cl C X.env) fp).fn x = true ∨ (compEnvC scope cl C X.env).scope.names.lookup x = some .local := by first | exact fun _ _ _ _ _ => .inl rfl | exact fun _ _ _ _ _ => .inr rfl) :
    LcIs X scope (.Name x tpos) it elt [] S (bs.map g) Sa := by
  refine (lc_map1 v (fun i _ => ((bs[i]?).map g).getD .none) hi ok hn (fun i d e => ?_) (by rw [List.length_map]; exact hz) hN hv hl hf).to (mapIdx_by en g bs)
  obtain ⟨u, h1, h2, rfl⟩ := by_at e
  rw [h1]
  exact hs u h2
end
/-! ### a term as a text -/
namespace T
def shL : T → List Nat
  | t0 h => h.cps.toList
  | t1 h a => h.cps.toList ++ 40 :: (a.shL ++ [41])
  | t2 h a b => h.cps.toList ++ 40 :: (a.shL ++ 44 :: (b.shL ++ [41]))
theorem isHd_small' {x : Str} (h : isHd x = true) : x.cps.size ≤ 3 := by
  simp only [isHd, Bool.and_eq_true, decide_eq_true_eq] at h
  exact h.1.2
theorem hd_len {h : Str} (o : isHd h = true) : h.cps.toList.length ≤ 3 := by
  have := isHd_small' o
  rw [Array.length_toList]; exact this
theorem shL_len : ∀ {t : T}, t.Ok → t.shL.length + 6 ≤ 6 * 2 ^ t.depth
  | t0 h, o => by
    have := hd_len (h := h) o
    simp only [shL, depth]; omega
  | t1 h a, o => by
    have h1 := hd_len o.1
    have h2 := shL_len o.2
    simp only [shL, depth, List.length_append, List.length_cons, List.length_nil, Nat.pow_succ]
    omega
  | t2 h a b, o => by
    have h1 := hd_len o.1
    have h2 := shL_len o.2.1
    have h3 := shL_len o.2.2
    have h4 : 2 ^ a.depth ≤ 2 ^ max a.depth b.depth := Nat.pow_le_pow_right (by decide) (Nat.le_max_left ..)
    have h5 : 2 ^ b.depth ≤ 2 ^ max a.depth b.depth := Nat.pow_le_pow_right (by decide) (Nat.le_max_right ..)
    simp only [shL, depth, List.length_append, List.length_cons, List.length_nil, Nat.pow_succ]
    omega
theorem shL_small {t : T} (o : t.Ok) (h : t.depth ≤ 6) : t.shL.length ≤ 400 := by
  have h1 := shL_len o
  have h2 : 2 ^ t.depth ≤ 2 ^ 6 := Nat.pow_le_pow_right (by decide) h
  omega
theorem ps_depth {t u : T} (h : u ∈ t.ps) : u.depth + 1 ≤ t.depth := by
  cases t with
  | t0 _ => simp [ps] at h
  | t1 _ a => simp only [ps, List.mem_cons, List.not_mem_nil, or_false] at h; subst h; simp [depth]
  | t2 _ a b =>
    simp only [ps, List.mem_cons, List.not_mem_nil, or_false] at h
    rcases h with rfl | rfl <;> simp only [depth] <;> omega
theorem hd_ok {t : T} (o : t.Ok) : isHd t.hd = true := by
  cases t with
  | t0 _ => exact o
  | t1 _ _ => exact o.1
  | t2 _ _ _ => exact o.1
end T
def ct_shown (n : Nat) : Ct := fun args Q => ∃ t : T, args = [.dat t.enc] ∧ t.Ok ∧ t.depth ≤ n ∧ Q (.dat (.str (sOf t.shL))) args
theorem mo_shown (n : Nat) : ∀ args Q Q', (∀ r a, Q r a → Q' r a) → ct_shown n args Q → ct_shown n args Q' := fun _ _ _ h ⟨t, e, z, y, q⟩ => ⟨t, e, z, y, h _ _ q⟩
theorem join_cons2 (s x y : List Nat) : Txt.join (sOf s) [sOf x, sOf y] = sOf (x ++ s ++ y) := by
  rw [show Txt.join (sOf s) [sOf x, sOf y] = Str.join (sOf s) [sOf x, sOf y] from StrLaws.glued_eq_join _ _]
  show sOf x ++ sOf s ++ Str.join (sOf s) [sOf y] = _
  rw [sOf_app]
  show sOf (x ++ s) ++ sOf y = _
  rw [sOf_app]
theorem join_cons1 (s : Str) (x : List Nat) : Txt.join s [sOf x] = sOf x := rfl
theorem shown_eq {t : T} (h : t.ps ≠ []) : t.hd ++ Str.ofString "(" ++ Txt.join (Str.ofString ",") (t.ps.map fun u => sOf u.shL) ++ Str.ofString ")" = sOf t.shL := by
  rw [show Str.ofString "(" = sOf [40] by decide +kernel, show Str.ofString ")" = sOf [41] by decide +kernel, show Str.ofString "," = sOf [44] by decide +kernel]
  cases t with
  | t0 _ => exact absurd rfl h
  | t1 x a =>
    show x ++ sOf [40] ++ Txt.join _ [sOf a.shL] ++ sOf [41] = _
    rw [join_cons1, show x ++ sOf [40] = sOf (x.cps.toList ++ [40]) by conv => lhs; rw [sOf_of x, sOf_app], sOf_app, sOf_app, T.shL]
    simp
  | t2 x a b =>
    show x ++ sOf [40] ++ Txt.join _ [sOf a.shL, sOf b.shL] ++ sOf [41] = _
    rw [join_cons2, show x ++ sOf [40] = sOf (x.cps.toList ++ [40]) by conv => lhs; rw [sOf_of x, sOf_app], sOf_app, sOf_app, T.shL]
    simp

/-! ### reading -/
def isStop (c : Nat) : Bool := decide (c ∈ [40, 41, 44])
def hdAt (L : List Nat) (at' : Nat) : List Nat := (L.drop at').takeWhile fun c => !isStop c
theorem stops_codes : (Str.ofString "(),").cps.toList = [40, 41, 44] := by decide +kernel
theorem takeWhile_take {α : Type} (p : α → Bool) : ∀ l : List α, l.take (l.takeWhile p).length = l.takeWhile p
  | [] => rfl
  | a :: r => by
    rw [List.takeWhile_cons]
    split
    · rw [List.length_cons, List.take_succ_cons, takeWhile_take p r]
    · rfl
theorem hdAt_len (L : List Nat) (a : Nat) (h : a ≤ L.length) : a + (hdAt L a).length ≤ L.length := by
  have : (hdAt L a).length ≤ (L.drop a).length := by
    unfold hdAt
    rw [← takeWhile_take, List.length_take]; exact Nat.min_le_right ..
  rw [List.length_drop] at this; omega
theorem hdAt_in {L : List Nat} {a k : Nat} (h : k < (hdAt L a).length) : ∃ c, L[a + k]? = some c ∧ isStop c = false := by
  have e : (hdAt L a)[k]? = some (hdAt L a)[k] := List.getElem?_eq_getElem h
  have e2 : (L.drop a)[k]? = some (hdAt L a)[k] := by
    have h3 : (L.drop a).take (hdAt L a).length = hdAt L a := takeWhile_take _ _
    have h4 : ((L.drop a).take (hdAt L a).length)[k]? = some (hdAt L a)[k] := by rw [h3]; exact e
    rw [List.getElem?_take, if_pos h] at h4
    exact h4
  rw [List.getElem?_drop] at e2
  refine ⟨_, e2, ?_⟩
  have hm : (hdAt L a)[k] ∈ (L.drop a).takeWhile fun c => !isStop c := List.getElem_mem h
  have all : ∀ (p : Nat → Bool) (l : List Nat), ∀ c ∈ l.takeWhile p, p c = true := fun p l => by
    induction l with
    | nil => intro c hc; cases hc
    | cons x r ih =>
      intro c hc
      rw [List.takeWhile_cons] at hc
      split at hc
      · rcases List.mem_cons.mp hc with rfl | hc
        · assumption
        · exact ih c hc
      · cases hc
  have := all _ _ _ hm
  simpa using this
theorem hdAt_end {L : List Nat} {a c : Nat} (h : L[a + (hdAt L a).length]? = some c) : isStop c = true := by
  have go : ∀ (p : Nat → Bool) (l : List Nat) (c : Nat), l[(l.takeWhile p).length]? = some c → p c = false := fun p l => by
    induction l with
    | nil => intro c hc; simp at hc
    | cons x r ih =>
      intro c hc
      rw [List.takeWhile_cons] at hc
      split at hc
      · rw [List.length_cons, List.getElem?_cons_succ] at hc
        exact ih c hc
      · simp only [List.length_nil, List.getElem?_cons_zero, Option.some.injEq] at hc
        subst hc
        simpa using ‹¬ p x = true›
  have := go _ (L.drop a) c (by rw [List.getElem?_drop]; exact h)
  simpa using this
theorem cutS_mid (L : List Nat) (a k : Nat) (h : a + k ≤ L.length) : cutS (sOf L) (some (a : Int)) (some ((a + k : Nat) : Int)) = sOf ((L.drop a).take k) := by
  unfold cutS
  rw [sOf_codes, sOf_len, HT.sIx_nat, HT.sIx_nat, Nat.min_eq_left (a := a) (by omega), Nat.min_eq_left (a := a + k) h, Nat.add_sub_cancel_left]
  rfl
theorem cutS_one (L : List Nat) (a : Nat) (h : a ≤ L.length) : cutS (sOf L) (some (a : Int)) (some ((a : Int) + 1)) = sOf ((L.drop a).take 1) := by
  unfold cutS
  rw [sOf_codes, sOf_len, show (a : Int) + 1 = ((a + 1 : Nat) : Int) by omega, HT.sIx_nat, HT.sIx_nat, Nat.min_eq_left h]
  unfold sOf
  congr 2
  by_cases h2 : a + 1 ≤ L.length
  · rw [Nat.min_eq_left h2, Nat.add_sub_cancel_left]
  · have : a = L.length := by omega
    subst this
    rw [List.drop_length, List.take_nil, List.take_nil]
def ct_headAt : Ct := fun args Q => ∃ (L : List Nat) (a : Nat), args = [.dat (.str (sOf L)), .dat (.int (a : Nat))] ∧ L.length ≤ 1000 ∧ a ≤ L.length ∧ isHd (sOf (hdAt L a)) = true ∧ Q (.dat (.tuple [.str (sOf (hdAt L a)), .int ((a + (hdAt L a).length : Nat) : Int)])) args
theorem mo_headAt : ∀ args Q Q', (∀ r a, Q r a → Q' r a) → ct_headAt args Q → ct_headAt args Q' := fun _ _ _ h ⟨L, a, e, z, y, x, q⟩ => ⟨L, a, e, z, y, x, h _ _ q⟩
/-- what may stand behind a part -/
def goodPost (r : List Nat) : Prop := r = [] ∨ ∃ c q, r = c :: q ∧ (c = 41 ∨ c = 44)
def ct_termAt (n : Nat) : Ct := fun args Q => ∃ (L p : List Nat) (t : T) (r : List Nat), args = [.dat (.str (sOf L)), .dat (.int (p.length : Nat))] ∧ L = p ++ (t.shL ++ r) ∧ goodPost r ∧ t.Ok ∧ t.depth ≤ n ∧ L.length ≤ 1000 ∧ Q (.dat (.tuple [t.enc, .int ((p.length + t.shL.length : Nat) : Int)])) args
theorem mo_termAt (n : Nat) : ∀ args Q Q', (∀ r a, Q r a → Q' r a) → ct_termAt n args Q → ct_termAt n args Q' := fun _ _ _ h ⟨L, p, t, r, e, a1, a2, a3, a4, a5, q⟩ => ⟨L, p, t, r, e, a1, a2, a3, a4, a5, h _ _ q⟩
theorem letter_nostop {c : Nat} (h : isLetter c = true) : isStop c = false := by
  unfold isLetter at h
  rw [Bool.and_eq_true, decide_eq_true_eq, decide_eq_true_eq] at h
  unfold isStop
  rw [decide_eq_false_iff_not]
  simp only [List.mem_cons, List.not_mem_nil, or_false]
  omega
/-- the head that stands at p's end -/
theorem hdAt_head {p r : List Nat} {x : Str} (o : isHd x = true) (hr : r = [] ∨ ∃ c q, r = c :: q ∧ isStop c = true) : hdAt (p ++ (x.cps.toList ++ r)) p.length = x.cps.toList := by
  have hl : ∀ c ∈ x.cps.toList, isStop c = false := fun c hc => by
    simp only [isHd, Bool.and_eq_true, List.all_eq_true] at o
    exact letter_nostop (o.2 c hc)
  unfold hdAt
  rw [List.drop_left]
  have go : ∀ l : List Nat, (∀ c ∈ l, isStop c = false) → (l ++ r).takeWhile (fun c => !isStop c) = l := fun l => by
    induction l with
    | nil =>
      intro _
      rcases hr with rfl | ⟨c, q, rfl, hc⟩
      · rfl
      · rw [List.nil_append, List.takeWhile_cons, hc]; rfl
    | cons y l ih =>
      intro h
      rw [List.cons_append, List.takeWhile_cons, h y (List.mem_cons_self ..), ih fun c hc => h c (List.mem_cons_of_mem _ hc)]; rfl
  exact go _ hl
theorem join_small {ts : List T} (h : ∀ u ∈ ts, u.shL.length ≤ 400) (h2 : ts.length ≤ 2) : ((ts.map fun u => sOf u.shL).map (·.length)).sum + (ts.map fun u => sOf u.shL).length * (Str.ofString ",").length ≤ 16777216 := by
  have e : ∀ l : List T, (∀ u ∈ l, u.shL.length ≤ 400) → ((l.map fun u => sOf u.shL).map (·.length)).sum ≤ 400 * l.length := fun l => by
    induction l with
    | nil => intro _; exact Nat.le_refl _
    | cons u r ih =>
      intro hl
      have h1 := hl u (List.mem_cons_self ..)
      have h2 := ih fun v hv => hl v (List.mem_cons_of_mem _ hv)
      rw [List.map_cons, List.map_cons, List.sum_cons, List.length_cons, sOf_len]
      omega
  have h1 := e ts h
  rw [List.length_map, show (Str.ofString ",").length = 1 by decide +kernel]
  omega
theorem tsm_hd {x : Str} (h : isHd x = true) : tsm (.str x) = true := by
  show decide (x.length ≤ 1000) = true
  exact decide_eq_true (isHd_small h)
theorem goodPost_stop {r : List Nat} (h : goodPost r) : r = [] ∨ ∃ c q, r = c :: q ∧ isStop c = true := by
  rcases h with rfl | ⟨c, q, rfl, rfl | rfl⟩
  · exact .inl rfl
  · exact .inr ⟨_, _, rfl, rfl⟩
  · exact .inr ⟨_, _, rfl, rfl⟩
theorem shL_hd {L p r : List Nat} {t : T} (hL : L = p ++ (t.shL ++ r)) (o : t.Ok) (hg : goodPost r) : hdAt L p.length = t.hd.cps.toList := by
  rw [hL]
  cases t with
  | t0 x => exact hdAt_head o (goodPost_stop hg)
  | t1 x a =>
    rw [T.shL, List.append_assoc]
    exact hdAt_head o.1 (.inr ⟨40, _, rfl, rfl⟩)
  | t2 x a b =>
    rw [T.shL, List.append_assoc]
    exact hdAt_head o.1 (.inr ⟨40, _, rfl, rfl⟩)
/-- the sign at a place of a text that is put together -/
theorem cut_at {L u v : List Nat} (h : L = u ++ v) : cutS (sOf L) (some (u.length : Int)) (some ((u.length : Int) + 1)) = sOf (v.take 1) := by
  rw [cutS_one L u.length (by rw [h, List.length_append]; omega), h, List.drop_left]
theorem cut_at' {L u v : List Nat} {k : Nat} (h : L = u ++ v) (hk : k = u.length) : cutS (sOf L) (some (k : Int)) (some ((k : Int) + 1)) = sOf (v.take 1) := hk ▸ cut_at h
theorem dec_sOf (a b : List Nat) : decide (sOf a = sOf b) = decide (a = b) := by
  by_cases h : a = b
  · rw [h, decide_eq_true rfl, decide_eq_true rfl]
  · rw [decide_eq_false h, decide_eq_false fun z => h (sOf_inj z)]
theorem par_o : Str.ofString "(" = sOf [40] := by decide +kernel
theorem par_c : Str.ofString ")" = sOf [41] := by decide +kernel
theorem par_k : Str.ofString "," = sOf [44] := by decide +kernel
theorem cut_t0 {L p r : List Nat} {x : Str} (hL : L = p ++ ((T.t0 x).shL ++ r)) (hg : goodPost r) : decide (cutS (sOf L) (some ((p.length + x.cps.toList.length : Nat) : Int)) (some (((p.length + x.cps.toList.length : Nat) : Int) + 1)) = Str.ofString "(") = false := by
  rw [cut_at' (u := p ++ x.cps.toList) (v := r) (by rw [hL, T.shL, List.append_assoc]) (by rw [List.length_append]), par_o, dec_sOf]
  rcases hg with rfl | ⟨c, q, rfl, rfl | rfl⟩ <;> rfl
theorem cut_t1 {L p r : List Nat} {x : Str} {a : T} (hL : L = p ++ ((T.t1 x a).shL ++ r)) :
    decide (cutS (sOf L) (some ((p.length + x.cps.toList.length : Nat) : Int)) (some (((p.length + x.cps.toList.length : Nat) : Int) + 1)) = Str.ofString "(") = true ∧
    L = (p ++ x.cps.toList ++ [40]) ++ (a.shL ++ 41 :: r) ∧
    decide (cutS (sOf L) (some (((p ++ x.cps.toList ++ [40]).length + a.shL.length : Nat) : Int)) (some ((((p ++ x.cps.toList ++ [40]).length + a.shL.length : Nat) : Int) + 1)) = Str.ofString ",") = false ∧
    decide (cutS (sOf L) (some (((p ++ x.cps.toList ++ [40]).length + a.shL.length : Nat) : Int)) (some ((((p ++ x.cps.toList ++ [40]).length + a.shL.length : Nat) : Int) + 1)) = Str.ofString ")") = true := by
  have e2 : L = (p ++ x.cps.toList ++ [40]) ++ (a.shL ++ 41 :: r) := by rw [hL, T.shL]; simp
  refine ⟨?_, e2, ?_, ?_⟩
  · rw [cut_at' (u := p ++ x.cps.toList) (v := 40 :: (a.shL ++ 41 :: r)) (by rw [e2]; simp) (by rw [List.length_append]), par_o]; exact decide_eq_true rfl
  · rw [cut_at' (u := p ++ x.cps.toList ++ [40] ++ a.shL) (v := 41 :: r) (by rw [e2]; simp) (by rw [List.length_append (bs := a.shL)]), par_k, dec_sOf]; rfl
  · rw [cut_at' (u := p ++ x.cps.toList ++ [40] ++ a.shL) (v := 41 :: r) (by rw [e2]; simp) (by rw [List.length_append (bs := a.shL)]), par_c]; exact decide_eq_true rfl
theorem cut_t2 {L p r : List Nat} {x : Str} {a b : T} (hL : L = p ++ ((T.t2 x a b).shL ++ r)) :
    decide (cutS (sOf L) (some ((p.length + x.cps.toList.length : Nat) : Int)) (some (((p.length + x.cps.toList.length : Nat) : Int) + 1)) = Str.ofString "(") = true ∧
    L = (p ++ x.cps.toList ++ [40]) ++ (a.shL ++ 44 :: (b.shL ++ 41 :: r)) ∧
    decide (cutS (sOf L) (some (((p ++ x.cps.toList ++ [40]).length + a.shL.length : Nat) : Int)) (some ((((p ++ x.cps.toList ++ [40]).length + a.shL.length : Nat) : Int) + 1)) = Str.ofString ",") = true ∧
    L = (p ++ x.cps.toList ++ [40] ++ a.shL ++ [44]) ++ (b.shL ++ 41 :: r) ∧
    decide (cutS (sOf L) (some ((p ++ x.cps.toList ++ [40] ++ a.shL ++ [44] ++ b.shL).length : Int)) (some (((p ++ x.cps.toList ++ [40] ++ a.shL ++ [44] ++ b.shL).length : Int) + 1)) = Str.ofString ")") = true := by
  have e2 : L = (p ++ x.cps.toList ++ [40]) ++ (a.shL ++ 44 :: (b.shL ++ 41 :: r)) := by rw [hL, T.shL]; simp
  refine ⟨?_, e2, ?_, ?_, ?_⟩
  · rw [cut_at' (u := p ++ x.cps.toList) (v := 40 :: (a.shL ++ 44 :: (b.shL ++ 41 :: r))) (by rw [e2]; simp) (by rw [List.length_append]), par_o]; exact decide_eq_true rfl
  · rw [cut_at' (u := p ++ x.cps.toList ++ [40] ++ a.shL) (v := 44 :: (b.shL ++ 41 :: r)) (by rw [e2]; simp) (by rw [List.length_append (bs := a.shL)]), par_k]; exact decide_eq_true rfl
  · rw [e2]; simp
  · rw [cut_at (u := p ++ x.cps.toList ++ [40] ++ a.shL ++ [44] ++ b.shL) (v := 41 :: r) (by rw [e2]; simp), par_c]; exact decide_eq_true rfl
theorem len_o (p h : List Nat) : ((p.length + h.length : Nat) : Int) + 1 = ((p ++ h ++ [40]).length : Nat) := by
  rw [List.length_append, List.length_append, List.length_singleton]; omega
theorem len_k (p h : List Nat) : ((p.length + h.length : Nat) : Int) + 1 = ((p ++ h ++ [44]).length : Nat) := by
  rw [List.length_append, List.length_append, List.length_singleton]; omega
theorem len_1 (p : List Nat) {x : Str} (a : T) : (((p ++ x.cps.toList ++ [40]).length + a.shL.length : Nat) : Int) + 1 = ((p.length + (T.t1 x a).shL.length : Nat) : Int) := by
  simp only [T.shL, List.length_append, List.length_cons, List.length_nil]; omega
theorem len_2 (p : List Nat) {x : Str} (a b : T) : ((p ++ x.cps.toList ++ [40] ++ a.shL ++ [44] ++ b.shL).length : Int) + 1 = ((p.length + (T.t2 x a b).shL.length : Nat) : Int) := by
  simp only [T.shL, List.length_append, List.length_cons, List.length_nil]; omega
def ct_read (n : Nat) : Ct := fun args Q => ∃ t : T, args = [.dat (.str (sOf t.shL))] ∧ t.Ok ∧ t.depth ≤ n ∧ Q (.dat t.enc) args
theorem mo_read (n : Nat) : ∀ args Q Q', (∀ r a, Q r a → Q' r a) → ct_read n args Q → ct_read n args Q' := fun _ _ _ h ⟨t, e, z, y, q⟩ => ⟨t, e, z, y, h _ _ q⟩
end SH
/-! SHh: dicts whose keys are nested tuples. -/
namespace SH
open PySem PySem.Spec PyProof.Rows L2

/-! ### the model's side -/
section
variable {X : Cx} {pins : List (Addr × Obj)} {σ : L2.St} {H F : Hp} {s : Shared}
mutual
theorem da_nested (I : L2.Inv X pins σ H s) (sm : Same F H) : ∀ (k : NestedKey) (v : V) (u : Value), Da F v k.data → RelV v u → NestedIs s.heap k u
  | .none, v, u, h, r => by
    have h' : Da F v .none := h
    cases h'
    cases (show u = Value.none from r)
    exact .none
  | .num i, v, u, h, r => by
    have h' : Da F v (.int i) := h
    cases h'
    obtain ⟨t, rfl⟩ := (show ∃ t, u = Value.int i t from r)
    exact .int i t
  | .text x, v, u, h, r => by
    have h' : Da F v (.str x) := h
    cases h'
    obtain ⟨t, rfl⟩ := (show ∃ t, u = Value.str x t from r)
    exact .text x t
  | .tup ks, v, u, h, r => by
    have h' : Da F v (.tuple (NestedKey.datas ks)) := h
    cases h' with
    | @tup a xs _ q w =>
      cases (show u = Value.ref a from r)
      obtain ⟨_, its, rv, o, h1, h2, n, h3⟩ := (Rd.same sm q).ok I.hok
      exact .tup h1 h2 h3 (da_nesteds I sm ks xs _ w (by simpa using rv))
theorem da_nesteds (I : L2.Inv X pins σ H s) (sm : Same F H) : ∀ (ks : List NestedKey) (vs : List V) (us : List Value), Das F vs (NestedKey.datas ks) → Vals vs us → NestedAll s.heap ks us
  | [], vs, us, h, r => by
    have h' : Das F vs [] := h
    cases h'
    cases r
    exact .nil
  | k :: ks, vs, us, h, r => by
    have h' : Das F vs (k.data :: NestedKey.datas ks) := h
    cases h' with
    | cons q w =>
      cases r with
      | cons r1 r2 => exact .cons (da_nested I sm k _ _ q r1) (da_nesteds I sm ks _ _ w r2)
end
def isTup : NestedKey → Bool
  | .tup _ => true
  | _ => false
theorem da_ref {v : V} {k : NestedKey} (h : Da F v k.data) (t : isTup k = true) : ∃ a, v = .ref a := by
  cases k with
  | tup ks =>
    have h' : Da F v (.tuple (NestedKey.datas ks)) := h
    cases h' with
    | tup _ _ => exact ⟨_, rfl⟩
  | none => cases t
  | num _ => cases t
  | text _ => cases t
def KeysOk (F : Hp) (xs : List Ent) : Prop := ∀ x ∈ xs, x.1.depth ≤ 8 ∧ Da F (.ref x.2.1) x.1.data
theorem dict_of {p : Addr} {xs : List Ent} (I : L2.Inv X pins σ H s) (sm : Same F H) (t : TabAt X.prog X.w H p xs) (ks : KeysOk F xs) : s.heap.DictOfH (nestedKind X.prog X.w) p xs := by
  obtain ⟨⟨o, es, ep, e1, e2, e3, e4⟩, _, _⟩ := (show ObjOk X.prog X.w H s.heap p (.ext (tabOf p (xs.map (entryOfKey (nestedKind X.prog X.w))))) from I.hok p _ t.at_)
  exact ⟨o, es, ep, e1, e2, e3, e4, fun x hx => ⟨da_nested I sm x.1 _ _ (ks x hx).2 rfl, (ks x hx).1⟩, t.nd⟩
theorem nk_room {A : Around} (hu : A.units + 64 < cLine) : (nestedKind X.prog X.w).room A.in1 := by
  show A.in1.units + 8 < cLine
  have : A.in1.units ≤ A.units + 2 := by
    show A.units + 1 ≤ _ <;> omega
  omega
end
/-! ### lookups by data -/
def nget {α : Type} (kvs : List (NestedKey × α)) (k : NestedKey) : Option α := (kvs.find? fun x => decide (x.1 = k)).map (·.2)
def nput {α : Type} (kvs : List (NestedKey × α)) (k : NestedKey) (d : α) : List (NestedKey × α) :=
  if (nget kvs k).isSome then kvs.map (fun x => if x.1 = k then (x.1, d) else x) else kvs ++ [(k, d)]
section
variable {α : Type} {R : NestedKey × α → Ent → Prop}
theorem nget_at (hR : ∀ a b, R a b → a.1 = b.1) : ∀ {kvs : List (NestedKey × α)} {xs : List Ent} (k : NestedKey), Paired R kvs xs → (nget kvs k = none ∧ atKey xs k = none) ∨ ∃ a q d, nget kvs k = some d ∧ atKey xs k = some q ∧ (a, d) ∈ kvs ∧ a = k ∧ R (a, d) (k, q)
  | _, _, k, .nil => .inl ⟨rfl, rfl⟩
  | (a, d) :: kvs, (b, q) :: xs, k, .cons r rs => by
    have e : a = b := hR _ _ r
    subst e
    by_cases h : a = k
    · subst h
      exact .inr ⟨a, q, d, by simp [nget], by simp [atKey], List.mem_cons_self .., rfl, r⟩
    · rcases nget_at hR k rs with ⟨h1, h2⟩ | ⟨a', q', d', h1, h2, h3, h4, h5⟩
      · left
        unfold nget at h1 ⊢
        unfold atKey at h2 ⊢
        rw [List.find?_cons_of_neg (by simpa using h), List.find?_cons_of_neg (by simpa using h)]
        exact ⟨h1, h2⟩
      · right
        refine ⟨a', q', d', ?_, ?_, List.mem_cons_of_mem _ h3, h4, h5⟩
        · unfold nget at h1 ⊢
          rw [List.find?_cons_of_neg (by simpa using h)]; exact h1
        · unfold atKey at h2 ⊢
          rw [List.find?_cons_of_neg (by simpa using h)]; exact h2
theorem paired_put {k : NestedKey} {a : Addr} {d : α} {u : Value} (hR : ∀ a b, R a b → a.1 = b.1) (hnew : R (k, d) (k, a, u)) (hold : ∀ (d0 : α) (q : Addr × Value), R (k, d0) (k, q) → R (k, d) (k, q.1, u)) : ∀ {kvs : List (NestedKey × α)} {xs : List Ent}, Paired R kvs xs → Paired R (nput kvs k d) (storedH xs k a u) := by
  intro kvs xs h
  have mp : ∀ {kvs : List (NestedKey × α)} {xs : List Ent}, Paired R kvs xs → Paired R (kvs.map (fun x => if x.1 = k then (x.1, d) else x)) (xs.map (putAt k u)) := by
    intro kvs xs h
    induction h with
    | nil => exact .nil
    | @cons x y kvs xs r rs ih =>
      refine .cons ?_ ih
      have e := hR _ _ r
      obtain ⟨x1, x2⟩ := x
      obtain ⟨y1, y2⟩ := y
      simp only at e
      subst e
      unfold putAt
      by_cases hk : x1 = k
      · subst hk
        simp only [if_true]
        exact hold x2 y2 r
      · simp only [if_neg hk]
        exact r
  have ap : ∀ {kvs : List (NestedKey × α)} {xs : List Ent}, Paired R kvs xs → Paired R (kvs ++ [(k, d)]) (xs ++ [(k, a, u)]) := by
    intro kvs xs h
    induction h with
    | nil => exact .cons hnew .nil
    | cons r rs ih => exact .cons r ih
  unfold nput storedH
  rcases nget_at hR k h with ⟨h1, h2⟩ | ⟨_, _, _, h1, h2, _⟩
  · rw [h1, h2]; exact ap h
  · rw [h1, h2]; exact mp h
end
theorem stored_nodup {xs : List Ent} {k : NestedKey} {a : Addr} {u : Value} (h : (xs.map (·.1)).Nodup) : ((storedH xs k a u).map (·.1)).Nodup := by
  unfold storedH
  cases e : atKey xs k with
  | none =>
    show ((xs ++ [(k, a, u)]).map (·.1)).Nodup
    rw [List.map_append, List.nodup_append]
    refine ⟨h, by simp, fun x hx y hy => ?_⟩
    simp only [List.map_cons, List.map_nil, List.mem_singleton] at hy
    subst hy
    intro z
    subst z
    obtain ⟨q, hq, rfl⟩ := List.mem_map.mp hx
    unfold atKey at e
    rw [Option.map_eq_none_iff, List.find?_eq_none] at e
    exact e q hq (by simp)
  | some q =>
    show ((xs.map (putAt k u)).map (·.1)).Nodup
    rw [List.map_map]
    have : ((fun x : Ent => x.1) ∘ putAt k u) = fun x => x.1 := by
      funext x
      show (putAt k u x).1 = x.1
      unfold putAt
      split <;> rfl
    rw [this]; exact h
theorem stored_len {xs : List Ent} {k : NestedKey} {a : Addr} {u : Value} : (storedH xs k a u).length ≤ xs.length + 1 := by
  unfold storedH
  split
  · rw [List.length_map]; omega
  · rw [List.length_append, List.length_singleton]; exact Nat.le_refl _
end SH
/-! SHi: rules of dicts with nested keys. -/
namespace SH
open PySem PySem.Spec PyProof.Rows L2

/-! ### places -/
inductive Sub : OV → OV → Prop
  | refl (o : OV) : Sub o o
  | fld {x o : OV} {p dx C : Addr} {fs : List (Str × OV)} {f : Str} : (f, o) ∈ fs → Sub x o → Sub x (.ins p dx C fs)
def Has (S : ASt) (ov : OV) : Prop := ∃ (j : Nat) (o : OV), S[j]? = some (some o) ∧ Sub ov o
section
variable {P : Program} {w : World} {F F' H H' : Hp} {σ : L2.St} {S : ASt}
theorem OwnF.mem {f : Str} {o : OV} : ∀ {ws : List (Str × V)} {fs : List (Str × OV)}, OwnF P w F H ws fs → (f, o) ∈ fs → ∃ v, (f, v) ∈ ws ∧ Own P w F H v o
  | _, _, .nil, h => by cases h
  | _, _, .cons q r, h => by
    rcases List.mem_cons.mp h with e | h
    · cases e; exact ⟨_, List.mem_cons_self .., q⟩
    · obtain ⟨v, h1, h2⟩ := OwnF.mem r h
      exact ⟨v, List.mem_cons_of_mem _ h1, h2⟩
theorem Sub.own {x o : OV} (h : Sub x o) : ∀ {v : V}, Own P w F H v o → ∃ u, Own P w F H u x := by
  induction h with
  | refl => intro v h; exact ⟨v, h⟩
  | fld hm _ ih =>
    intro v h
    cases h with
    | ins _ _ r =>
      obtain ⟨u, _, h2⟩ := r.mem hm
      exact ih h2
theorem Has.own {ov : OV} (h : Has S ov) (st : StOk P w F H σ S) : ∃ u, Own P w F H u ov := by
  obtain ⟨j, o, e, hs⟩ := h
  obtain ⟨v, _, q⟩ := st.slot j o e
  exact hs.own q
theorem Has.slot {j : Nat} {o : OV} (e : S[j]? = some (some o)) : Has S o := ⟨j, o, e, .refl o⟩
theorem Has.fld {j : Nat} {p dx C : Addr} {fs : List (Str × OV)} {f : Str} {o : OV} (e : S[j]? = some (some (.ins p dx C fs))) (h : (f, o) ∈ fs) : Has S o := ⟨j, _, e, .fld h (.refl o)⟩
/-- an owned object is changed where it stands, the feet stay -/
theorem Stp.pokeG {j : Nat} {p' : Addr} {o : HO} {a a' : OV} (st : StOk P w F H σ S) (hS : S[j]? = some (some a)) (hp : p' ∈ foot a) (hf : ∀ b, b ∈ foot a' ↔ b ∈ foot a) (hnd : (foot a').Nodup) (own : ∀ v, Own P w F H v a → Own P w F (upd H p' o) v a') : Stp P w F H S F (upd H p' o) σ (S.set j (some a')) := by
  obtain ⟨v, e1, o1⟩ := st.slot j a hS
  have hpS : p' ∈ footAt S j := by rw [footAt_some hS]; exact hp
  have hF : F p' = none := st.free p' ⟨j, hpS⟩
  have hlt : j < S.length := (List.getElem?_eq_some_iff.mp hS).1
  have fj : ∀ b, b ∈ footAt (S.set j (some a')) j ↔ b ∈ footAt S j := fun b => by rw [footAt_set hlt, footAt_some hS]; exact hf b
  have fall : ∀ i b, b ∈ footAt (S.set j (some a')) i ↔ b ∈ footAt S i := fun i b => by
    by_cases h : j = i
    · subst h; exact fj b
    · rw [footAt_ne h]
  have feq : ∀ b, inFeet (S.set j (some a')) b ↔ inFeet S b := fun b => ⟨fun ⟨i, h⟩ => ⟨i, (fall i b).mp h⟩, fun ⟨i, h⟩ => ⟨i, (fall i b).mpr h⟩⟩
  refine ⟨⟨fun b z e => ?_, by rw [List.length_set]; exact st.len, fun i ov h => ?_, fun i => ?_, fun i l b hil h1 h2 => st.apart i l b hil ((fall i b).mp h1) ((fall l b).mp h2), fun b h => st.free b ((feq b).mp h)⟩, ⟨Same.refl _, fun _ _ _ _ => rfl, fun b z e nb => ?_, fun b z e => ?_⟩, fun b h => .inl ((feq b).mp h)⟩
  · rw [upd_ne (fun q => by rw [q, hF] at e; cases e)]; exact st.same b z e
  · by_cases hij : j = i
    · subst hij
      rw [List.getElem?_set_self hlt] at h
      cases h
      exact ⟨v, e1, own v o1⟩
    · rw [List.getElem?_set_ne hij] at h
      obtain ⟨x, g1, g2⟩ := st.slot i ov h
      refine ⟨x, g1, g2.keep (Same.refl _) fun b hb z e => ?_⟩
      rw [upd_ne (fun q => ?_)]
      · exact e
      · subst q
        exact st.apart j i b hij hpS (by rw [footAt_some h]; exact hb)
  · by_cases hij : j = i
    · subst hij; rw [footAt_set hlt]; exact hnd
    · rw [footAt_ne hij]; exact st.nd i
  · rw [upd_ne (fun q => nb ⟨j, by rw [q]; exact hpS⟩)]; exact e
  · by_cases hb : b = p'
    · exact ⟨o, by rw [hb]; exact upd_same⟩
    · exact ⟨z, by rw [upd_ne hb]; exact e⟩
end

/-! ### the model's operations, by values -/
section
variable {X : Cx} {F H : Hp} {a b e o i : Expr} {es : List Expr} {S S1 : ASt} {d : PyData} {pos p : Pos} {to ti tv : TE} {t : TA}
/-- what is asked of a dict and a key -/
structure NAt (X : Cx) (H : Hp) (p : Addr) (xs : List Ent) (a : Addr) (k : NestedKey) : Prop where
  tab : TabAt X.prog X.w H p xs
  keys : KeysOk H xs
  key : Da H (.ref a) k.data
  dep : k.depth ≤ 8
theorem NAt.is {pins : List (Addr × Obj)} {σ : L2.St} {s : Shared} {q a : Addr} {xs : List Ent} {k : NestedKey} (n : NAt X H q xs a k) (I : L2.Inv X pins σ H s) : s.heap.DictOfH (nestedKind X.prog X.w) q xs ∧ (nestedKind X.prog X.w).is s.heap k a :=
  ⟨dict_of I (Same.refl _) n.tab n.keys, da_nested I (Same.refl _) k _ _ n.key rfl, n.dep⟩
theorem op_inN (hu : X.A.units + 64 < cLine) : OpR X (compareOp .In) (fun x y H Q => ∃ a q xs k, x = .ref a ∧ y = .ref q ∧ NAt X H q xs a k ∧ Q (.bl (atKey xs k).isSome) H) := by
  intro pins s σ H x y v u Q I rx ry h
  obtain ⟨a, q, xs, k, rfl, rfl, n, hq⟩ := h
  cases (show v = Value.ref a from rx)
  cases (show u = Value.ref q from ry)
  obtain ⟨n1, n2⟩ := n.is I
  exact wpAny_in_heap (nk_room (X := X) hu) n2 n.tab.sys n1 ⟨.bl (atKey xs k).isSome, H, I.tok _, rfl, hq⟩
theorem op_notInN (hu : X.A.units + 64 < cLine) : OpR X (compareOp .NotIn) (fun x y H Q => ∃ a q xs k, x = .ref a ∧ y = .ref q ∧ NAt X H q xs a k ∧ Q (.bl (!(atKey xs k).isSome)) H) := by
  intro pins s σ H x y v u Q I rx ry h
  obtain ⟨a, q, xs, k, rfl, rfl, n, hq⟩ := h
  cases (show v = Value.ref a from rx)
  cases (show u = Value.ref q from ry)
  obtain ⟨n1, n2⟩ := n.is I
  exact wpAny_notIn_heap (nk_room (X := X) hu) n2 n.tab.sys n1 ⟨.bl (!(atKey xs k).isSome), H, I.tok _, rfl, hq⟩
theorem pe_getN (hu : X.A.units + 64 < cLine) (ho : PE X o to) (hi : PE X i ti) (hs : NoSl i) : PE X (.Subscript o i pos) (fun σ H Q => to σ H fun x H1 => ti σ H1 fun y H2 => ∃ a q xs k r v, x = .ref q ∧ y = .ref a ∧ NAt X H2 q xs a k ∧ atKey xs k = some r ∧ RelV v r.2 ∧ Q v H2) := by
  refine ⟨fun pins s σ H Q I h => ?_⟩
  refine subD_of PySem.F.slot_dict_getitem.lookup hs (thn (ho.run pins s σ H _ I h) fun u s1 ⟨x, H1, I1, rx, q1⟩ => thn (hi.run pins s1 σ H1 _ I1 q1) fun iv s2 ⟨y, H2, I2, ry, q2⟩ => ?_)
  obtain ⟨a, q, xs, k, r, v, rfl, rfl, n, hk, rv, hq⟩ := q2
  cases (show u = Value.ref q from rx)
  cases (show iv = Value.ref a from ry)
  obtain ⟨n1, n2⟩ := n.is I2
  exact ⟨n1.typeIs, wpAny_getItem_heap (nk_room (X := X) hu) n2 n1 hk ⟨v, H2, I2.tok _, rv, hq⟩⟩
/-- the table behind a store -/
def tabPut (P : Program) (w : World) (H : Hp) (q : Addr) (xs : List Ent) (k : NestedKey) (a : Addr) (u : Value) : Hp := upd H q (.ext (tabOf q ((storedH xs k a u).map (entryOfKey (nestedKind P w)))))
theorem tabPut_inv {pins : List (Addr × Obj)} {σ : L2.St} {s : Shared} {q a : Addr} {xs : List Ent} {k : NestedKey} {u : Value} {h' : Heap} {tk : Nat} (n : TabAt X.prog X.w H q xs) (I : L2.Inv X pins σ H s) (dd : h'.DictOfH (nestedKind X.prog X.w) q (storedH xs k a u)) (hs : Heap.SameBut q s.heap h') :
    L2.Inv X pins σ (tabPut X.prog X.w H q xs k a u) { s with heap := h', toks := tk } := by
  obtain ⟨ob, es, ep, hq, h2, h3, h4, _, _⟩ := dd
  refine d_write I (by rw [n.at_]; exact True.intro) hs ⟨ob, hq⟩ ⟨⟨ob, es, ep, hq, h2, h3, h4⟩, ⟨ob, hq⟩, fun h1 h2 => ?_⟩
  rintro ⟨o', es', ep', e', r'⟩ kk
  exact ⟨o', es', ep', kk _ e', r'⟩
theorem ps_setN {value : Expr} {pos' : Pos} (hu : X.A.units + 64 < cLine) (ho : PE X o to) (hi : PE X i ti) (hv : PE X value tv) (hs : swapsWith value (some (.Subscript o i pos')) pos.line X.env = pure false) :
    PS X (.Assign [.Subscript o i pos'] value pos) (fun D σ H => tv σ H fun v H1 => to σ H1 fun x H2 => ti σ H2 fun y H3 => ∃ a q xs k, x = .ref q ∧ y = .ref a ∧ NAt X H3 q xs a k ∧ ∀ u, RelV v u → D.nx σ (tabPut X.prog X.w H3 q xs k a u)) := by
  refine ⟨fun pins s σ H D I h => ?_⟩
  refine wpAny_Assign_Subscript (thn (hv.run pins s σ H _ I h) fun r s1 ⟨v, H1, I1, rv, q1⟩ => thn (ho.run pins s1 σ H1 _ I1 q1) fun u s2 ⟨x, H2, I2, rx, q2⟩ => thn (hi.run pins s2 σ H2 _ I2 q2) fun iv s3 ⟨y, H3, I3, ry, q3⟩ => ?_) hs
  obtain ⟨a, q, xs, k, rfl, rfl, n, hq⟩ := q3
  cases (show u = Value.ref q from rx)
  cases (show iv = Value.ref a from ry)
  obtain ⟨n1, n2⟩ := n.is I3
  exact wpAny_setItem_heap (hsz := n.tab.few) (nk_room (X := X) hu) n2 n1 fun h' dd hs' => ⟨σ, _, tabPut_inv n.tab I3 dd hs', hq r rv⟩
/-! methods -/
theorem pe_bmG {T id : String} {name : Str} {apos cpos : Pos} {r : V → List V → Hp → VK → Prop} (TyP : V → Hp → Prop) (htp : ∀ (pins : List (Addr × Obj)) (s : Shared) (σ : L2.St) (H : Hp) (x : V) (v : Value), L2.Inv X pins σ H s → RelV x v → TyP x H → s.TypeIs v T ∧ ∀ a, v = .ref a → ∃ ob, s.heap.get? a = some ob ∧ ob.dict = none)
    (pa : PlainAttrs T) (slot : Slot T name id) (hty : typeOf (.builtin id) = pure (.type "method_descriptor")) (hm : MtR X id r) (ho : PE X o to) (ha : PA X (e :: es) t)
    (hbase : attributeBase o name X.env (eval o X.env) = eval o X.env := by rfl)
    (hfew : ((backTo cpos (starEach (e :: es) X.env)).all (fun x => !x.1) && (backToKw cpos (keywordEach [] X.env)).all (fun x => x.1.isSome)
      && decide ((e :: es).length + ([] : List Keyword).length + (if ([] : List Keyword).isEmpty then 0 else 1) < 30)) = true := by rfl)
    (hline : (apos.endLine == cpos.line) = true := by rfl) (hs : starEach (e :: es) X.env = (false, eval e X.env) :: starEach es X.env := by exact star_plain rfl) (hplain : (backTo cpos (starEach es X.env)).any (·.1) = false := by exact back_plain rfl) :
    PE X (.Call (.Attribute o name apos) (e :: es) [] cpos) (fun σ H Q => to σ H fun x H1 => TyP x H1 ∧ t σ H1 fun xs H2 => r x xs H2 Q) := by
  refine ⟨fun pins s σ H Q I h => ?_⟩
  refine wpAny_Call_method_late hbase hfew hline rfl (thn (ho.run pins s σ H _ I h) fun v s1 ⟨x, H1, I1, r1, ty, q1⟩ => ?_)
  obtain ⟨h1, h2⟩ := htp pins s1 σ H1 x v I1 r1 ty
  refine ⟨T, id, pa, slot, hty, h1, h2, ?_⟩
  have hA := ha.run cpos pins s1 σ H1 _ I1 q1
  rw [hs] at hA ⊢
  refine Calls.callWith_builtin (by show (false || (backTo cpos (starEach es X.env)).any (·.1)) = false; rw [hplain] <;> rfl) (Calls.evalArgs_plain ?_)
  exact thn hA fun us s2 ⟨vs, H2, I2, r2, q2⟩ => hm pins s2 σ H2 x vs v us Q I2 r1 r2 q2
def IsTab (X : Cx) (x : V) (H : Hp) : Prop := ∃ q xs, x = .ref q ∧ TabAt X.prog X.w H q xs
theorem isTab_ty (pins : List (Addr × Obj)) (s : Shared) (σ : L2.St) (H : Hp) (x : V) (v : Value) (I : L2.Inv X pins σ H s) (r : RelV x v) (h : IsTab X x H) : s.TypeIs v "dict" ∧ ∀ a, v = .ref a → ∃ ob, s.heap.get? a = some ob ∧ ob.dict = none := by
  obtain ⟨q, xs, rfl, t⟩ := h
  cases (show v = Value.ref q from r)
  obtain ⟨⟨o, es, ep, e1, e2, e3, e4⟩, _, _⟩ := (show ObjOk X.prog X.w H s.heap q (.ext (tabOf q (xs.map (entryOfKey (nestedKind X.prog X.w))))) from I.hok q _ t.at_)
  exact ⟨⟨o, e1, e2.1⟩, fun a e => by cases e; exact ⟨o, e1, e2.2.1⟩⟩
theorem mt_getN (hu : X.A.units + 64 < cLine) : MtR X "dict.get" (fun x vs H Q => ∃ a q xs k dv, x = .ref q ∧ vs = [.ref a, dv] ∧ NAt X H q xs a k ∧ (atKey xs k = none → Q dv H) ∧ ∀ r, atKey xs k = some r → ∃ v, RelV v r.2 ∧ Q v H) := by
  intro pins s σ H x vs v us Q I rx rv h
  obtain ⟨a, q, xs, k, dv, rfl, rfl, n, h1, h2⟩ := h
  cases (show v = Value.ref q from rx)
  obtain ⟨u1, u2, rfl, r1, r2⟩ := rv.two
  cases (show u1 = Value.ref a from r1)
  obtain ⟨n1, n2⟩ := n.is I
  refine call_meetsIn PySem.F.slot_dict_get n1.typeIs PySem.F.entry_dict_get (PySem.F.args_dict_get_3 _ _ _) (meetsH_dict_get_default (nestedKind X.prog X.w) q a n.tab.sys u2) ⟨nk_room (X := X) hu, k, xs, n2, n1, ?_⟩
  cases e : atKey xs k with
  | none => exact ⟨dv, H, I.tok _, r2, h1 e⟩
  | some r =>
    obtain ⟨z, rz, qz⟩ := h2 r e
    exact ⟨z, H, I.tok _, rz, qz⟩
theorem mt_setdefaultN (hu : X.A.units + 64 < cLine) : MtR X "dict.setdefault" (fun x vs H Q => ∃ a q xs k dv, x = .ref q ∧ vs = [.ref a, dv] ∧ NAt X H q xs a k ∧ (atKey xs k = none → ∀ u, RelV dv u → Q dv (tabPut X.prog X.w H q xs k a u)) ∧ ∀ r, atKey xs k = some r → ∃ v, RelV v r.2 ∧ Q v H) := by
  intro pins s σ H x vs v us Q I rx rv h
  obtain ⟨a, q, xs, k, dv, rfl, rfl, n, h1, h2⟩ := h
  cases (show v = Value.ref q from rx)
  obtain ⟨u1, u2, rfl, r1, r2⟩ := rv.two
  cases (show u1 = Value.ref a from r1)
  obtain ⟨n1, n2⟩ := n.is I
  refine call_setdefault_heap (hsz := n.tab.few) (nk_room (X := X) hu) n2 n.tab.sys n1 (fun r e => ?_) (fun e h' dd hs => ?_)
  · obtain ⟨z, rz, qz⟩ := h2 r e
    exact ⟨z, H, I.tok _, rz, qz⟩
  · exact ⟨dv, _, tabPut_inv n.tab I dd hs, r2, h1 e u2 r2⟩
end
end SH
/-! SHj: rules of dicts with nested keys, by data. -/
namespace SH
open PySem PySem.Spec PyProof.Rows L2

/-- S' is S with ov' in the place of ov -/
inductive Place : ASt → OV → OV → ASt → Prop
  | slot {S : ASt} {j : Nat} {ov ov' : OV} : S[j]? = some (some ov) → Place S ov ov' (S.set j (some ov'))
  | fld {S : ASt} {j i : Nat} {q dx C : Addr} {fs : List (Str × OV)} {f : Str} {ov ov' : OV} : S[j]? = some (some (.ins q dx C fs)) → fs[i]? = some (f, ov) → Place S ov ov' (S.set j (some (.ins q dx C (fs.set i (f, ov')))))
section
variable {P : Program} {w : World} {F F' H H' : Hp} {σ : L2.St} {S S' : ASt} {ov ov' : OV}
theorem Place.has (h : Place S ov ov' S') : Has S ov := by
  cases h with
  | slot e => exact .slot e
  | fld e e2 => exact .fld e (List.mem_of_getElem? e2)
theorem footF_mem {f : Str} {o : OV} {b : Addr} (hb : b ∈ foot o) : ∀ {fs : List (Str × OV)}, (f, o) ∈ fs → b ∈ footF fs
  | [], h => by cases h
  | (g, u) :: r, h => by
    rw [footF]
    rcases List.mem_cons.mp h with e | h
    · cases e; exact List.mem_append_left _ hb
    · exact List.mem_append_right _ (footF_mem hb h)
theorem footF_set {f : Str} {ov ov' : OV} (hf : ∀ b, b ∈ foot ov' ↔ b ∈ foot ov) : ∀ {fs : List (Str × OV)} {i : Nat}, fs[i]? = some (f, ov) → ∀ b, b ∈ footF (fs.set i (f, ov')) ↔ b ∈ footF fs
  | [], _, h, _ => by simp at h
  | (g, u) :: r, 0, h, b => by
    simp only [List.getElem?_cons_zero, Option.some.injEq, Prod.mk.injEq] at h
    obtain ⟨rfl, rfl⟩ := h
    simp only [List.set_cons_zero, footF, List.mem_append, hf b]
  | (g, u) :: r, i + 1, h, b => by
    have := footF_set hf (fs := r) (i := i) (by simpa using h) b
    simp only [List.set_cons_succ, footF, List.mem_append, this]
theorem footF_nodup {f : Str} {ov ov' : OV} (hf : ∀ b, b ∈ foot ov' ↔ b ∈ foot ov) (hn : (foot ov').Nodup) : ∀ {fs : List (Str × OV)} {i : Nat}, fs[i]? = some (f, ov) → (footF fs).Nodup → (footF (fs.set i (f, ov'))).Nodup
  | [], _, h, _ => by simp at h
  | (g, u) :: r, 0, h, nd => by
    simp only [List.getElem?_cons_zero, Option.some.injEq, Prod.mk.injEq] at h
    obtain ⟨rfl, rfl⟩ := h
    simp only [List.set_cons_zero, footF] at nd ⊢
    rw [List.nodup_append] at nd ⊢
    exact ⟨hn, nd.2.1, fun a ha b hb => nd.2.2 a ((hf a).mp ha) b hb⟩
  | (g, u) :: r, i + 1, h, nd => by
    have h' : r[i]? = some (f, ov) := by simpa using h
    simp only [List.set_cons_succ, footF] at nd ⊢
    rw [List.nodup_append] at nd ⊢
    exact ⟨nd.1, footF_nodup hf hn h' nd.2.1, fun a ha b hb => nd.2.2 a ha b ((footF_set hf h' b).mp hb)⟩
/-- the fields where one is changed -/
theorem OwnF.poke {f : Str} {ov ov' : OV} {p' : Addr} {o : HO} (hp : p' ∈ foot ov) (own : ∀ v, Own P w F H v ov → Own P w F (upd H p' o) v ov') : ∀ {ws : List (Str × V)} {fs : List (Str × OV)} {i : Nat}, OwnF P w F H ws fs → fs[i]? = some (f, ov) → (footF fs).Nodup → OwnF P w F (upd H p' o) ws (fs.set i (f, ov'))
  | _, _, _, .nil, h, _ => by simp at h
  | _, _, 0, .cons (ov := u) q r, h, nd => by
    simp only [List.getElem?_cons_zero, Option.some.injEq, Prod.mk.injEq] at h
    obtain ⟨rfl, rfl⟩ := h
    simp only [footF] at nd
    rw [List.nodup_append] at nd
    exact .cons (own _ q) (OwnF.keep (Same.refl _) r fun b hb z e => by rw [upd_ne (fun y => nd.2.2 p' hp b hb y.symm)]; exact e)
  | _, _, i + 1, .cons (ov := u) q r, h, nd => by
    have h' : _ := (show _ = some (f, ov) by simpa using h)
    simp only [footF] at nd
    rw [List.nodup_append] at nd
    refine .cons (q.keep (Same.refl _) fun b hb z e => by rw [upd_ne (fun y => nd.2.2 b hb p' (footF_mem hp (List.mem_of_getElem? h')) y)]; exact e) (OwnF.poke hp own r h' nd.2.1)
theorem Place.poke {p' : Addr} {o : HO} (pl : Place S ov ov' S') (st : StOk P w F H σ S) (hp : p' ∈ foot ov) (hf : ∀ b, b ∈ foot ov' ↔ b ∈ foot ov) (hn : (foot ov').Nodup) (own : ∀ v, Own P w F H v ov → Own P w F (upd H p' o) v ov') : Stp P w F H S F (upd H p' o) σ S' := by
  cases pl with
  | slot e => exact .pokeG st e hp hf hn own
  | fld e e2 =>
    rename_i j i q dx C fs f
    have nd := st.nd j
    rw [footAt_some e] at nd
    simp only [foot] at nd
    rw [List.nodup_cons, List.nodup_cons] at nd
    have hmem := List.mem_of_getElem? e2
    have hpf : p' ∈ footF fs := footF_mem hp hmem
    refine .pokeG st e (by simp only [foot]; exact List.mem_cons_of_mem _ (List.mem_cons_of_mem _ hpf)) (fun b => ?_) ?_ fun v h => ?_
    · simp only [foot, List.mem_cons, footF_set hf e2 b]
    · simp only [foot]
      rw [List.nodup_cons, List.nodup_cons]
      refine ⟨?_, ?_, footF_nodup hf hn e2 nd.2.2⟩
      · rw [List.mem_cons, footF_set hf e2]; rw [List.mem_cons] at nd; exact nd.1
      · rw [footF_set hf e2]; exact nd.2.1
    · cases h with
      | ins q1 q2 r =>
        refine .ins ?_ ?_ (OwnF.poke hp own r e2 nd.2.2)
        · rw [upd_ne (fun z => nd.1 (by rw [z]; exact List.mem_cons_of_mem _ hpf))]; exact q1
        · rw [upd_ne (fun z => nd.2.1 (by rw [z]; exact hpf))]; exact q2
theorem ent_eq (a : NestedKey × PyData) (b : Ent) (h : EntOk F a b) : a.1 = b.1 := h.1
theorem keys_of {kvs : List (NestedKey × PyData)} {xs : List Ent} (h : Paired (EntOk F) kvs xs) : KeysOk F xs := by
  induction h with
  | nil => intro x hx; cases hx
  | cons r _ ih =>
    intro x hx
    rcases List.mem_cons.mp hx with rfl | hx
    · exact ⟨r.2.1, r.2.2.1⟩
    · exact ih x hx
theorem KeysOk.mono {xs : List Ent} (s : Same F F') (h : KeysOk F xs) : KeysOk F' xs := fun x hx => ⟨(h x hx).1, Da.mono s _ _ (h x hx).2⟩
end
section
variable {X : Cx} {F H : Hp} {σ : L2.St} {S S1 S2 : ASt} {a b e o i : Expr} {es : List Expr} {d : PyData} {pos pos' : Pos} {p : Addr} {kvs : List (NestedKey × PyData)} {k : NestedKey}
theorem own_dN {v : V} (o : XOwn X F H v (.dN p kvs)) : v = .ref p ∧ ∃ xs, TabAt X.prog X.w H p xs ∧ Paired (EntOk F) kvs xs := by
  cases o with
  | dN q r => exact ⟨rfl, _, q, r⟩
theorem nat_of {xs : List Ent} {a : Addr} (st : Same F H) (t : TabAt X.prog X.w H p xs) (r : Paired (EntOk F) kvs xs) (hk : Da F (.ref a) k.data) (dep : k.depth ≤ 8) : NAt X H p xs a k := ⟨t, (keys_of r).mono st, Da.mono st _ _ hk, dep⟩
theorem got_some {xs : List Ent} (r : Paired (EntOk F) kvs xs) : (atKey xs k).isSome = (nget kvs k).isSome := by
  rcases nget_at ent_eq k r with ⟨h1, h2⟩ | ⟨_, _, _, h1, h2, _⟩ <;> rw [h1, h2] <;> rfl
theorem got_val {xs : List Ent} (r : Paired (EntOk F) kvs xs) (h : nget kvs k = some d) : ∃ q v, atKey xs k = some q ∧ RelV v q.2 ∧ Da F v d := by
  rcases nget_at ent_eq k r with ⟨h1, _⟩ | ⟨_, q, _, h1, h2, _, rfl, h5⟩
  · rw [h] at h1; cases h1
  · rw [h] at h1; cases h1
    obtain ⟨_, _, _, v, r1, r2⟩ := h5
    exact ⟨q, v, h2, r1, r2⟩
theorem got_none {xs : List Ent} (r : Paired (EntOk F) kvs xs) (h : nget kvs k = none) : atKey xs k = none := by
  rcases nget_at ent_eq k r with ⟨_, h2⟩ | ⟨_, _, _, h1, _⟩
  · exact h2
  · rw [h] at h1; cases h1
/-- k in d -/
theorem inN_core (hu : X.A.units + 64 < cLine) (ha : Ev X a S k.data S) (hb : EvR X b S (.dN p kvs) S) (tk : isTup k = true) (dep : k.depth ≤ 8) : ∀ F H σ, XOk X F H σ S → ∀ Q : VK, (∀ F' H', Stp X.prog X.w F H S F' H' σ S → Q (.bl (nget kvs k).isSome) H') →
    tOp (fun x y H Q => ∃ a q xs k, x = .ref a ∧ y = .ref q ∧ NAt X H q xs a k ∧ Q (.bl (atKey xs k).isSome) H) (fun σ H Q => WPe X a σ H Q) (fun σ H Q => WPe X b σ H Q) σ H Q := fun F H σ st Q q => by
  refine ha.use st fun v F1 H1 p1 w1 => hb F1 H1 σ p1.st _ fun u F2 H2 s2 => ?_
  obtain ⟨y, rfl⟩ := da_ref w1 tk
  obtain ⟨rfl, xs, t, r⟩ := own_dN s2.own
  refine ⟨y, p, xs, k, rfl, rfl, nat_of s2.st.same t r (Da.mono s2.aft.ff _ _ w1) dep, ?_⟩
  rw [got_some r]
  exact q F2 H2 (p1.trans s2.stp)
theorem notInN_core (hu : X.A.units + 64 < cLine) (ha : Ev X a S k.data S) (hb : EvR X b S (.dN p kvs) S) (tk : isTup k = true) (dep : k.depth ≤ 8) : ∀ F H σ, XOk X F H σ S → ∀ Q : VK, (∀ F' H', Stp X.prog X.w F H S F' H' σ S → Q (.bl (!(nget kvs k).isSome)) H') →
    tOp (fun x y H Q => ∃ a q xs k, x = .ref a ∧ y = .ref q ∧ NAt X H q xs a k ∧ Q (.bl (!(atKey xs k).isSome)) H) (fun σ H Q => WPe X a σ H Q) (fun σ H Q => WPe X b σ H Q) σ H Q := fun F H σ st Q q => by
  refine ha.use st fun v F1 H1 p1 w1 => hb F1 H1 σ p1.st _ fun u F2 H2 s2 => ?_
  obtain ⟨y, rfl⟩ := da_ref w1 tk
  obtain ⟨rfl, xs, t, r⟩ := own_dN s2.own
  refine ⟨y, p, xs, k, rfl, rfl, nat_of s2.st.same t r (Da.mono s2.aft.ff _ _ w1) dep, ?_⟩
  rw [got_some r]
  exact q F2 H2 (p1.trans s2.stp)
theorem ev_inN (hu : X.A.units + 64 < cLine) (ha : Ev X a S k.data S) (hb : EvR X b S (.dN p kvs) S) (tk : isTup k = true) (dep : k.depth ≤ 8) (hm : behindInMarks .In b = false := by rfl) : Ev X (.Compare a [.In] [b] pos) S (.bool (nget kvs k).isSome) S :=
  .ofPE (pe_cmpR (op_inN hu) (peW X a) (peW X b) hm) fun F H σ st Q q => inN_core hu ha hb tk dep F H σ st Q fun F' H' p => q _ F' H' p (.bl _)
theorem evt_inN (hu : X.A.units + 64 < cLine) (ha : Ev X a S k.data S) (hb : EvR X b S (.dN p kvs) S) (tk : isTup k = true) (dep : k.depth ≤ 8) (hm : behindInMarks .In b = false := by rfl) : EvT X (.Compare a [.In] [b] pos) S (nget kvs k).isSome S := fun F H σ st Q q =>
  (pt_cmpR (op_inN hu) (peW X a) (peW X b) hm).wp (inN_core hu ha hb tk dep F H σ st _ fun F' H' p => ⟨_, rfl, q F' H' p⟩)
theorem ev_notInN (hu : X.A.units + 64 < cLine) (ha : Ev X a S k.data S) (hb : EvR X b S (.dN p kvs) S) (tk : isTup k = true) (dep : k.depth ≤ 8) (hm : behindInMarks .NotIn b = false := by rfl) : Ev X (.Compare a [.NotIn] [b] pos) S (.bool (!(nget kvs k).isSome)) S :=
  .ofPE (pe_cmpR (op_notInN hu) (peW X a) (peW X b) hm) fun F H σ st Q q => notInN_core hu ha hb tk dep F H σ st Q fun F' H' p => q _ F' H' p (.bl _)
theorem evt_notInN (hu : X.A.units + 64 < cLine) (ha : Ev X a S k.data S) (hb : EvR X b S (.dN p kvs) S) (tk : isTup k = true) (dep : k.depth ≤ 8) (hm : behindInMarks .NotIn b = false := by rfl) : EvT X (.Compare a [.NotIn] [b] pos) S (!(nget kvs k).isSome) S := fun F H σ st Q q =>
  (pt_cmpR (op_notInN hu) (peW X a) (peW X b) hm).wp (notInN_core hu ha hb tk dep F H σ st _ fun F' H' p => ⟨_, rfl, q F' H' p⟩)
/-- d[k], there -/
theorem ev_getN (hu : X.A.units + 64 < cLine) (ho : EvR X o S (.dN p kvs) S) (hi : Ev X i S k.data S) (hh : Has S (.dN p kvs)) (hg : nget kvs k = some d) (tk : isTup k = true) (dep : k.depth ≤ 8) (hs : NoSl i := by intro _ _; rfl) : Ev X (.Subscript o i pos) S d S := by
  refine .ofPE (pe_getN hu (peW X o) (peW X i) hs) fun F H σ st Q q => ?_
  refine ho F H σ st _ fun v F1 H1 s1 => hi.use s1.st fun u F2 H2 p2 w2 => ?_
  obtain ⟨y, rfl⟩ := da_ref w2 tk
  obtain ⟨rfl, _⟩ := own_dN s1.own
  obtain ⟨v2, o2⟩ := hh.own p2.st
  obtain ⟨_, xs, t, r⟩ := own_dN o2
  obtain ⟨c, z, e, rz, wz⟩ := got_val r hg
  exact ⟨y, p, xs, k, c, z, rfl, rfl, nat_of p2.st.same t r w2 dep, e, rz, q z F2 H2 (s1.stp.trans p2) wz⟩
theorem own_put {F H : Hp} {xs : List Ent} {a : Addr} {v : V} {u : Value} (st : Same F H) (t : TabAt X.prog X.w H p xs) (r : Paired (EntOk F) kvs xs) (hk : Da F (.ref a) k.data) (dep : k.depth ≤ 8) (rv : RelV v u) (hd : Da F v d) (hz : kvs.length < sizeLine) :
    XOwn X F (tabPut X.prog X.w H p xs k a u) (.ref p) (.dN p (nput kvs k d)) := by
  refine .dN (xs := storedH xs k a u) ⟨upd_same, t.sys, ?_, stored_nodup t.nd⟩ (paired_put ent_eq ⟨rfl, dep, hk, v, rv, hd⟩ (fun d0 q h => ⟨rfl, h.2.1, h.2.2.1, v, rv, hd⟩) r)
  have := stored_len (xs := xs) (k := k) (a := a) (u := u)
  have := Paired.length r
  omega
/-- d[k] = v -/
theorem s_setN {value : Expr} {D : AE} {S' : ASt} (hu : X.A.units + 64 < cLine) (hv : Ev X value S d S1) (ho : EvR X o S1 (.dN p kvs) S1) (hi : Ev X i S1 k.data S1) (pl : Place S1 (.dN p kvs) (.dN p (nput kvs k d)) S') (q : D.nx S') (tk : isTup k = true) (dep : k.depth ≤ 8) (hz : kvs.length < sizeLine)
    (hs : swapsWith value (some (.Subscript o i pos')) pos.line X.env = pure false := by rfl) : SH.S1 X (.Assign [.Subscript o i pos'] value pos) S D := fun F H σ st D' kk => by
  refine (ps_setN hu (peW X o) (peW X i) (peW X value) hs).wp ?_
  refine hv.use st fun v F1 H1 p1 w1 => ho F1 H1 σ p1.st _ fun u F2 H2 s2 => hi.use s2.st fun y F3 H3 p3 w3 => ?_
  obtain ⟨y, rfl⟩ := da_ref w3 tk
  obtain ⟨rfl, _⟩ := own_dN s2.own
  obtain ⟨v2, o2⟩ := pl.has.own p3.st
  obtain ⟨_, xs, t, r⟩ := own_dN o2
  refine ⟨y, p, xs, k, rfl, rfl, nat_of p3.st.same t r w3 dep, fun u ru => ?_⟩
  have wv := Da.mono p3.aft.ff _ _ (Da.mono s2.aft.ff _ _ w1)
  have pp := (p1.thn s2.stp).thn p3
  refine kk.nx σ F3 _ _ (pp.thn (pl.poke p3.st (by simp [foot]) (fun b => by simp [foot]) (by simp [foot]) fun z oz => ?_)) q
  obtain ⟨rfl, _⟩ := own_dN oz
  exact own_put p3.st.same t r w3 dep ru wv hz
/-- d.get(k, v) -/
theorem ev_getDN {apos cpos : Pos} {dv r : PyData} (hu : X.A.units + 64 < cLine) (ho : EvR X o S (.dN p kvs) S) (hi : Ev X i S k.data S) (he : Ev X e S dv S) (hh : Has S (.dN p kvs)) (hr : (nget kvs k).getD dv = r) (tk : isTup k = true) (dep : k.depth ≤ 8)
    (hbase : attributeBase o "get" X.env (eval o X.env) = eval o X.env := by rfl)
    (hfew : ((backTo cpos (starEach [i, e] X.env)).all (fun x => !x.1) && (backToKw cpos (keywordEach [] X.env)).all (fun x => x.1.isSome)
      && decide (([i, e] : List Expr).length + ([] : List Keyword).length + (if ([] : List Keyword).isEmpty then 0 else 1) < 30)) = true := by rfl)
    (hline : (apos.endLine == cpos.line) = true := by rfl) (hs : starEach [i, e] X.env = (false, eval i X.env) :: starEach [e] X.env := by exact star_plain rfl) (hs2 : starEach [e] X.env = (false, eval e X.env) :: starEach [] X.env := by exact star_plain rfl) (hplain : (backTo cpos (starEach [e] X.env)).any (·.1) = false := by exact back_plain rfl) :
    Ev X (.Call (.Attribute o "get" apos) [i, e] [] cpos) S r S := by
  refine .ofPE (pe_bmG (IsTab X) isTab_ty PySem.F.plainAttrs_dict PySem.F.slot_dict_get PySem.F.type_dict_get (mt_getN hu) (peW X o) (paW X [i, e]) hbase hfew hline hs hplain) fun F H σ st Q q => ?_
  refine ho F H σ st _ fun v F1 H1 s1 => ?_
  obtain ⟨rfl, xs1, t1, _⟩ := own_dN s1.own
  refine ⟨⟨p, xs1, rfl, t1⟩, ?_⟩
  refine eva_cons hi (eva_cons he eva_nil hs2) hs F1 H1 σ s1.st _ fun vs F2 H2 p2 w2 => ?_
  obtain ⟨y, z, rfl, wy, wz⟩ := das2 w2
  obtain ⟨y, rfl⟩ := da_ref wy tk
  obtain ⟨v2, o2⟩ := hh.own p2.st
  obtain ⟨_, xs, t, r⟩ := own_dN o2
  refine ⟨y, p, xs, k, z, rfl, rfl, nat_of p2.st.same t r wy dep, fun hn => ?_, fun c hc => ?_⟩
  · have : nget kvs k = none := by
      rcases nget_at ent_eq k r with ⟨h1, _⟩ | ⟨_, _, _, _, h2, _⟩
      · exact h1
      · rw [hn] at h2; cases h2
    rw [this] at hr
    exact q z F2 H2 (s1.stp.trans p2) (hr ▸ wz)
  · rcases nget_at ent_eq k r with ⟨_, h2⟩ | ⟨_, c', d', h1, h2, _, rfl, h5⟩
    · rw [hc] at h2; cases h2
    · rw [hc] at h2; cases h2
      obtain ⟨_, _, _, x, r1, r2⟩ := h5
      rw [h1] at hr
      exact ⟨x, r1, q x F2 H2 (s1.stp.trans p2) (hr ▸ r2)⟩
/-- d.setdefault(k, v) -/
theorem ev_setdefaultN {apos cpos : Pos} {dv r : PyData} {S' : ASt} (hu : X.A.units + 64 < cLine) (ho : EvR X o S (.dN p kvs) S) (hi : Ev X i S k.data S) (he : Ev X e S dv S) (pl : Place S (.dN p kvs) (.dN p (nput kvs k r)) S') (hself : nget kvs k = some r → S' = S) (hr : (nget kvs k).getD dv = r) (tk : isTup k = true) (dep : k.depth ≤ 8) (hz : kvs.length < sizeLine)
    (hbase : attributeBase o "setdefault" X.env (eval o X.env) = eval o X.env := by rfl)
    (hfew : ((backTo cpos (starEach [i, e] X.env)).all (fun x => !x.1) && (backToKw cpos (keywordEach [] X.env)).all (fun x => x.1.isSome)
      && decide (([i, e] : List Expr).length + ([] : List Keyword).length + (if ([] : List Keyword).isEmpty then 0 else 1) < 30)) = true := by rfl)
    (hline : (apos.endLine == cpos.line) = true := by rfl) (hs : starEach [i, e] X.env = (false, eval i X.env) :: starEach [e] X.env := by exact star_plain rfl) (hs2 : starEach [e] X.env = (false, eval e X.env) :: starEach [] X.env := by exact star_plain rfl) (hplain : (backTo cpos (starEach [e] X.env)).any (·.1) = false := by exact back_plain rfl) :
    Ev X (.Call (.Attribute o "setdefault" apos) [i, e] [] cpos) S r S' := by
  refine .ofPE (pe_bmG (IsTab X) isTab_ty PySem.F.plainAttrs_dict PySem.F.slot_dict_setdefault PySem.F.type_dict_setdefault (mt_setdefaultN hu) (peW X o) (paW X [i, e]) hbase hfew hline hs hplain) fun F H σ st Q q => ?_
  refine ho F H σ st _ fun v F1 H1 s1 => ?_
  obtain ⟨rfl, xs1, t1, _⟩ := own_dN s1.own
  refine ⟨⟨p, xs1, rfl, t1⟩, ?_⟩
  refine eva_cons hi (eva_cons he eva_nil hs2) hs F1 H1 σ s1.st _ fun vs F2 H2 p2 w2 => ?_
  obtain ⟨y, z, rfl, wy, wz⟩ := das2 w2
  obtain ⟨y, rfl⟩ := da_ref wy tk
  obtain ⟨v2, o2⟩ := pl.has.own p2.st
  obtain ⟨_, xs, t, rr⟩ := own_dN o2
  refine ⟨y, p, xs, k, z, rfl, rfl, nat_of p2.st.same t rr wy dep, fun hn u ru => ?_, fun c hc => ?_⟩
  · have : nget kvs k = none := by
      rcases nget_at ent_eq k rr with ⟨h1, _⟩ | ⟨_, _, _, _, h2, _⟩
      · exact h1
      · rw [hn] at h2; cases h2
    rw [this] at hr
    have hr' : dv = r := hr
    subst hr'
    have pp := s1.stp.trans p2
    refine q z F2 _ (pp.thn (pl.poke p2.st (by simp [foot]) (fun b => by simp [foot]) (by simp [foot]) fun x ox => ?_)) wz
    obtain ⟨rfl, _⟩ := own_dN ox
    exact own_put p2.st.same t rr wy dep ru wz hz
  · rcases nget_at ent_eq k rr with ⟨_, h2⟩ | ⟨_, c', d', h1, h2, _, rfl, h5⟩
    · rw [hc] at h2; cases h2
    · rw [hc] at h2; cases h2
      obtain ⟨_, _, _, x, r1, r2⟩ := h5
      rw [h1] at hr
      have hr' : d' = r := hr
      subst hr'
      have es := hself h1
      subst es
      exact ⟨x, r1, q x F2 H2 (s1.stp.trans p2) r2⟩
end
end SH
/-! SHk: sorted. -/
namespace SH
open PySem PySem.Spec PyProof.Rows L2 PySem.W
mutual
theorem reads_lt {h : Heap} : ∀ (d : PyData) (v : Value) (as : List Addr), Reads h v d as → ∀ b ∈ as, b < h.objs.size
  | .none, _, _, r => by cases r; intro b hb; cases hb
  | .bool _, _, _, r => by cases r; intro b hb; cases hb
  | .int _, _, _, r => by cases r; intro b hb; cases hb
  | .str _, _, _, r => by cases r; intro b hb; cases hb
  | .list xs, _, _, r => by
    cases r with
    | list h1 _ _ h4 =>
      intro b hb
      rcases List.mem_cons.mp hb with rfl | hb
      · exact Heap.lt_size h1
      · exact reads_lts xs _ _ h4 b hb
  | .tuple xs, _, _, r => by
    cases r with
    | tuple h1 _ _ h4 => exact reads_lts xs _ _ h4
  | .dict kvs, _, _, r => by
    cases r with
    | dict h1 _ _ h4 h5 =>
      intro b hb
      rcases List.mem_append.mp hb with hb | hb
      · rcases List.mem_cons.mp hb with rfl | hb
        · exact Heap.lt_size h1
        · exact reads_ltk kvs _ _ h4 b hb
      · exact reads_ltv kvs _ _ h5 b hb
theorem reads_lts {h : Heap} : ∀ (ds : List PyData) (vs : List Value) (as : List Addr), ReadsAll h vs ds as → ∀ b ∈ as, b < h.objs.size
  | [], _, _, r => by cases r; intro b hb; cases hb
  | d :: ds, _, _, r => by
    cases r with
    | cons r1 r2 =>
      intro b hb
      rcases List.mem_append.mp hb with hb | hb
      · exact reads_lt d _ _ r1 b hb
      · exact reads_lts ds _ _ r2 b hb
theorem reads_ltk {h : Heap} : ∀ (kvs : List (PyData × PyData)) (vs : List Value) (as : List Addr), ReadsAll h vs (kvs.map (·.1)) as → ∀ b ∈ as, b < h.objs.size
  | [], _, _, r => by
    have r' : ReadsAll h _ [] _ := r
    cases r'; intro b hb; cases hb
  | (k, v) :: kvs, _, _, r => by
    have r' : ReadsAll h _ (k :: kvs.map (·.1)) _ := r
    cases r' with
    | cons r1 r2 =>
      intro b hb
      rcases List.mem_append.mp hb with hb | hb
      · exact reads_lt k _ _ r1 b hb
      · exact reads_ltk kvs _ _ r2 b hb
theorem reads_ltv {h : Heap} : ∀ (kvs : List (PyData × PyData)) (vs : List Value) (as : List Addr), ReadsAll h vs (kvs.map (·.2)) as → ∀ b ∈ as, b < h.objs.size
  | [], _, _, r => by
    have r' : ReadsAll h _ [] _ := r
    cases r'; intro b hb; cases hb
  | (k, v) :: kvs, _, _, r => by
    have r' : ReadsAll h _ (v :: kvs.map (·.2)) _ := r
    cases r' with
    | cons r1 r2 =>
      intro b hb
      rcases List.mem_append.mp hb with hb | hb
      · exact reads_lt v _ _ r1 b hb
      · exact reads_ltv kvs _ _ r2 b hb
end
/-! ### a dict's keys, its values, as sources -/
section
variable {prog : Program} {w : World} {A : Around} {E : Value → Shared → Prop} {s : Shared} {T : String} {r d : Addr} {n : Nat} {Pp : Nat → Value → Prop} {OK : Heap → Prop} {es : Array DictEntry} {ep : Nat}
theorem src_keys (lo : (d == sysModules) = false) : KdlSrc prog w "dict" d d es.size (fun i v => ∃ hi : i < es.size, v = es[i].key) (fun h => h.DictRaw d es ep) where
  type := fun _ hm => hm.typeIs
  there := fun _ hm => let ⟨_, ho, _⟩ := hm; ⟨Heap.lt_size ho, Heap.lt_size ho⟩
  keep := fun _ _ hm hk => hm.at fun o e => hk d (.inl rfl) o e
  notList := by decide
  notTuple := by decide
  hint := fun _ _ _ _ hm hq => kdl_hint_dict hm.typeIs hq
  iter := fun _ s hh hm => ⟨_, _, (fun _ _ hq => wpAny_pyIter_dict_raw lo hm hq), Walks.rawKeys hh _ d (Nat.ne_of_lt (let ⟨_, ho, _⟩ := hm; Heap.lt_size ho)) es ep, ⟨⟨_, Heap.get?_push_size _ rfl, rfl, rfl⟩, hm.at fun _ e => Heap.get?_push_of_some _ e⟩⟩
theorem src_values : KdlSrc prog w "dict_values" r d es.size (fun i v => ∃ hi : i < es.size, v = es[i].val) (fun h => h.IsValuesView r d ∧ h.DictRaw d es ep) where
  type := fun _ hm => hm.1.typeIs
  there := fun _ hm => ⟨let ⟨_, ho, _⟩ := hm.1; Heap.lt_size ho, let ⟨_, ho, _⟩ := hm.2; Heap.lt_size ho⟩
  keep := fun _ _ hm hk => ⟨let ⟨o, ho, x⟩ := hm.1; ⟨o, hk r (.inl rfl) o ho, x⟩, hm.2.at fun o e => hk d (.inr rfl) o e⟩
  notList := by decide
  notTuple := by decide
  hint := fun _ _ _ _ hm hq => kdl_hint_values hm.1.typeIs hq
  iter := fun _ s hh hm => ⟨_, _, (fun _ _ hq => wpAny_pyIter_values_raw hm.1 hm.2 hq), Walks.rawValues hh _ d (Nat.ne_of_lt (let ⟨_, ho, _⟩ := hm.2; Heap.lt_size ho)) es ep, ⟨⟨_, Heap.get?_push_size _ rfl, rfl, rfl⟩, hm.2.at fun _ e => Heap.get?_push_of_some _ e⟩⟩
/-- what a source gives, in a new row; the heap has grown -/
theorem collect_src {R : List Value → Shared → Prop} (K : KdlSrc prog w T r d n Pp OK) (hh : A.handled = none) (hok : OK s.heap) (hn : n ≤ sizeLine)
    (h : ∀ (h' : Heap) (tk : Nat) (acc : Array Value), (∀ b o, s.heap.get? b = some o → h'.get? b = some o) → s.heap.objs.size < h'.objs.size → ItemsOf Pp acc n → R acc.toList { s with heap := h', toks := tk }) :
    wpAny (model prog w) A (collect (.ref r)) R E s := by
  have there := K.there _ hok
  unfold collect
  refine wpAny_bind (wpAny_runValue (codeAny_builtin entry_proto_collect' ?_))
  rw [Around.under_plainId PySem.F.plain_proto_collect _]
  show wpAny _ A.in1 (newList [] >>= fun l => again (.builtin "list.__iadd__" ⟨[l, .ref r], []⟩)) _ _ s
  refine wpAny_bind (wpAny_newObj_type ?_)
  refine wpAny_pure ⟨plainId_quiet PySem.F.plain_list_iadd _, codeAny_builtin entry_list_iadd' ?_⟩
  rw [Around.under_plainId PySem.F.plain_list_iadd _]
  have fresh : (s.heap.push { cls := .type "list", data := .seq ([] : List Value).toArray }).get? s.heap.objs.size = some { cls := .type "list", data := .seq #[] } := Heap.get?_push_size _ rfl
  show wpAny _ A.in1 (Builtin.List.listExtendWith (.ref s.heap.objs.size) (.ref r) (.ref s.heap.objs.size)) _ _ _
  have key := kdl_extend (A := A) (s := { s with heap := s.heap.push { cls := .type "list", data := .seq ([] : List Value).toArray } })
    (R := fun (q : Result) (s' : Shared) => ∃ (h' : Heap) (tk : Nat) (acc' : Array Value) (c' : Nat), q = .ok (.ret (.ref s.heap.objs.size)) ∧ s' = { s with heap := h', toks := tk } ∧
      (∀ b o, s.heap.get? b = some o → h'.get? b = some o) ∧ h'.get? s.heap.objs.size = some { cls := .type "list", dict := none, data := .seq acc' c', slots := #[] } ∧ ItemsOf Pp acc' n)
    K hh (K.keep _ _ hok fun b _ o e => Heap.get?_push_of_some _ e) s.heap.objs.size (Nat.ne_of_gt there.1) (Nat.ne_of_gt there.2) (.ref s.heap.objs.size) 0 fresh
    (fun h' tk acc' c' hk at' hacc => ⟨h', tk, acc', c', rfl, rfl, fun b o e => hk b o (Nat.ne_of_lt (Heap.lt_size e)) (Heap.get?_push_of_some _ e), at', hacc⟩) hn
  refine wpAny_mono key (fun fin s' x => ?_) fun e s' x => ?_
  · cases fin with
    | done f =>
      obtain ⟨h', tk, acc', c', e, rfl, hk, at', hacc⟩ := x
      cases e
      show wpAny _ A (load s.heap.objs.size >>= _) _ _ _
      refine wpAny_bind (wpAny_load at' ?_)
      exact wpAny_pure (h h' tk acc' hk (Heap.lt_size at') hacc)
    | again c₁ =>
      refine ⟨x.1, codeAny_mono x.2 fun q s₂ y => ?_⟩
      obtain ⟨h', tk, acc', c', rfl, rfl, hk, at', hacc⟩ := y
      show wpAny _ A (load s.heap.objs.size >>= _) _ _ _
      refine wpAny_bind (wpAny_load at' ?_)
      exact wpAny_pure (h h' tk acc' hk (Heap.lt_size at') hacc)
  · obtain ⟨_, _, _, _, e', _⟩ := x
    cases e'
abbrev srtD (ds : List PyData) : List PyData := ds.mergeSort (dataLe false id)
/-- sorted(a source), its things read as data -/
theorem wp_sorted {Q : Value → Shared → Prop} (K : KdlSrc prog w T r d n Pp OK) (hh : A.handled = none) (hok : OK s.heap) (hn : n ≤ sizeLine) {R : Value → PyData → Prop} {ds : List PyData} (hds : ∀ acc : List Value, acc.length = n → (∀ j v, acc[j]? = some v → Pp j v) → EachIs R acc ds)
    (er : ∀ v d, R v d → ∃ as, Reads s.heap v d as) (hal : AllAlike ds) (hk : Sortable ds) (hu : ∀ d ∈ ds, A.in1.units + 1 + d.depth < cLine)
    (h : ∀ (h' : Heap) (tk : Nat) (D : Addr) (out : List Value) (c : Nat), (∀ b o, s.heap.get? b = some o → h'.get? b = some o) → s.heap.objs.size ≤ D → h'.get? D = some (seqObj "list" out.toArray c) → out.length = ds.length → EachIs R out (srtD ds) → Q (.ref D) { s with heap := h', toks := tk }) :
    wpAny (model prog w) A (call (.builtin "sorted") [.ref r]) Q E s := by
  refine PySem.Calls.call_function_entry kind_sorted plain_sorted entry_sorted (args_sorted1 _) ?_
  unfold Builtin.«sorted»
  refine wpAny_bind (m := checkCount "sorted" 1 1 _) (wpAny_pure ?_)
  refine wpAny_bind (collect_src (A := A.in1) K hh hok hn fun h' tk acc hkp hgrow hacc => ?_)
  have hl : acc.toList.length = n := by rw [Array.length_toList]; exact hacc.1
  refine wpAny_bind (wpAny_newList ?_ (by rw [hl]; exact hn))
  have e := hds acc.toList hl fun j v ej => hacc.2 j v (by rw [← Array.getElem?_toList]; exact ej)
  have hle : s.heap.objs.size ≤ h'.objs.size := Nat.le_of_lt hgrow
  have er2 : EachIs (fun v d => ∃ as, Reads (h'.push { cls := .type "list", data := .seq acc.toList.toArray }) v (id d) as ∧ h'.objs.size ∉ as) acc.toList ds := e.mono fun v d rv => by
    obtain ⟨as, hr⟩ := er v d rv
    exact ⟨as, PyProof.Rows.Reads.keeps (fun b o eb => Heap.get?_push_of_some _ (hkp b o eb)) hr, fun hm => absurd (reads_lt d v as hr _ hm) (Nat.not_lt.mpr hle)⟩
  have hnew : (h'.push { cls := .type "list", data := .seq acc.toList.toArray }).get? h'.objs.size = some (seqObj "list" acc.toList.toArray 0) := Heap.get?_push_size _ rfl
  refine wpAny_bind (wpAny_holding (list_sort_data (prog := prog) (w := w) (A := A.in1) (s := { s with heap := h'.push { cls := .type "list", data := .seq acc.toList.toArray }, toks := tk }) (enc := id) (R := R) (bs := ds) hnew e er2 (by rw [List.map_id]; exact hal) (by rw [List.map_id]; exact hk) (by rw [← e.length, hl]; exact hn) hu fun out hol ho => ?_))
  refine wpAny_pure ⟨_, rfl, ?_⟩
  obtain ⟨c, hc⟩ := sortedHeap_at (vs := acc.toList) (out := out.toArray) hnew
  refine h _ tk h'.objs.size out c (fun b o eb => ?_) hle hc hol ho
  have hb := Heap.lt_size (hkp b o eb)
  rw [sortedHeap_old (Nat.ne_of_lt hb) (by rw [size_push']; exact Nat.lt_succ_of_lt hb)]
  exact Heap.get?_push_of_some _ (hkp b o eb)
end
end SH
/-! SHl: sorted, by data. -/
namespace SH
open PySem PySem.Spec PyProof.Rows L2 PySem.W

def RelD (F : Hp) (v : Value) (d : PyData) : Prop := ∃ x, L2.RelV x v ∧ Da F x d
theorem each_of {α β : Type} {R : α → β → Prop} : ∀ {as : List α} {bs : List β}, as.length = bs.length → (∀ (j : Nat) a b, as[j]? = some a → bs[j]? = some b → R a b) → EachIs R as bs
  | [], [], _, _ => .nil
  | a :: as, b :: bs, hl, h => .cons (h 0 a b rfl rfl) (each_of (by simpa using hl) fun j a' b' e1 e2 => h (j + 1) a' b' (by simpa using e1) (by simpa using e2))
  | [], _ :: _, hl, _ => by simp at hl
  | _ :: _, [], hl, _ => by simp at hl
theorem each_vals {F : Hp} : ∀ {vs : List Value} {ds : List PyData}, EachIs (RelD F) vs ds → ∃ us, Vals us vs ∧ Das F us ds
  | _, _, .nil => ⟨[], .nil, .nil⟩
  | _, _, .cons ⟨x, r, w⟩ t => by
    obtain ⟨us, h1, h2⟩ := each_vals t
    exact ⟨x :: us, .cons r h1, .cons w h2⟩
theorem vals_each {F : Hp} : ∀ {us : List V} {vs : List Value} {ds : List PyData}, Vals us vs → Das F us ds → EachIs (RelD F) vs ds
  | _, _, _, .nil, .nil => .nil
  | _, _, _, .cons r t, .cons w t2 => .cons ⟨_, r, w⟩ (vals_each t t2)
section
variable {X : Cx} {F H : Hp} {σ : L2.St} {S S1 S2 : ASt} {a b e o i : Expr} {es : List Expr} {d : PyData} {pos pos' np : Pos} {p : Addr} {kvs : List (NestedKey × PyData)} {k : NestedKey} {ds : List PyData}
theorem reld_reads {pins : List (Addr × Obj)} {s : Shared} (I : L2.Inv X pins σ H s) (sm : Same F H) {v : Value} {d : PyData} (h : RelD F v d) : ∃ as, Reads s.heap v d as := by
  obtain ⟨x, r, w⟩ := h
  exact Dp.reads I d x v (Da.dp d x (Da.mono sm _ _ w)) r
/-- what is asked of things that are sorted -/
structure Srt (ds : List PyData) : Prop where
  al : AllAlike ds
  so : Sortable ds
  dep : ∀ d ∈ ds, d.depth ≤ 32
theorem srt_units (hu : X.A.units + 64 < cLine) (h : Srt ds) : ∀ d ∈ ds, X.A.in1.units + 1 + d.depth < cLine := fun d hd => by
  have h1 := h.dep d hd
  have : X.A.in1.units = X.A.units + 1 := rfl
  omega
theorem inv_list {pins : List (Addr × Obj)} {s : Shared} {h' : Heap} {tk : Nat} {D : Addr} {us : List V} {out : List Value} {c : Nat} (I : L2.Inv X pins σ H s) (keep : ∀ b o, s.heap.get? b = some o → h'.get? b = some o) (hD : s.heap.objs.size ≤ D) (hat : h'.get? D = some (seqObj "list" out.toArray c)) (hv : Vals us out) (hz : us.length ≤ sizeLine) :
    L2.Inv X pins σ (upd H D (.lst us)) { s with heap := h', toks := tk } := I.laid (t' := tk) keep hD ⟨hz, out, c, hv, hat⟩
/-- sorted(d), a dict's keys -/
theorem call_sortedN (hu : X.A.units + 64 < cLine) (hh : X.A.handled = none) : CallR X (.builtin "sorted") (fun vs H Q => ∃ (F : Hp) (q : Addr) (xs : List Ent) (kvs : List (NestedKey × PyData)), Same F H ∧ vs = [.ref q] ∧ TabAt X.prog X.w H q xs ∧ Paired (EntOk F) kvs xs ∧ Srt (kvs.map (·.1.data)) ∧
    ∀ D us, H D = none → Das F us (srtD (kvs.map (·.1.data))) → Q (.ref D) (upd H D (.lst us))) := by
  intro pins s σ H vs us Q I r h
  obtain ⟨F, q, xs, kvs, sm, rfl, t, pr, so, k⟩ := h
  obtain ⟨u, rfl, ru⟩ := vals1 r
  cases (show u = Value.ref q from ru)
  obtain ⟨⟨o, es, ep, e1, e2, e3, e4⟩, _, _⟩ := (show ObjOk X.prog X.w H s.heap q (.ext (tabOf q (xs.map (entryOfKey (nestedKind X.prog X.w))))) from I.hok q _ t.at_)
  have hsz : es.size = xs.length := by rw [← Array.length_toList, e4, List.length_map]
  have hkl := Paired.length pr
  refine wp_sorted (src_keys (es := es) (ep := ep) t.sys) hh ⟨o, e1, e2, e3⟩ (by rw [hsz]; exact t.few) (R := RelD F) (ds := kvs.map (·.1.data)) (fun acc hl hp => ?_) (fun v d h => reld_reads I sm h) so.al so.so (srt_units hu so) fun h' tk D out c keep hD hat hol ho => ?_
  · refine each_of (by rw [hl, hsz, List.length_map, hkl]) fun j v d ej ed => ?_
    obtain ⟨hj, rfl⟩ := hp j v ej
    rw [List.getElem?_map] at ed
    cases ek : kvs[j]? with
    | none => rw [ek] at ed; cases ed
    | some kv =>
      rw [ek] at ed
      cases ed
      have hjx : j < xs.length := by rw [← hsz]; exact hj
      obtain ⟨y, hy, ry⟩ := paired_get pr ek
      have e5 : es[j] = entryOfKey (nestedKind X.prog X.w) y := by
        have : es.toList[j]? = some es[j] := by rw [Array.getElem?_toList, Array.getElem?_eq_getElem hj]
        rw [e4, List.getElem?_map, hy] at this
        exact (Option.some.inj this).symm
      rw [e5]
      exact ⟨.ref y.2.1, rfl, by show Da F (.ref y.2.1) kv.1.data; rw [ry.1]; exact ry.2.2.1⟩
  · obtain ⟨us, hv, hw⟩ := each_vals ho
    have hz : us.length ≤ sizeLine := by rw [hv.length, hol, List.length_map, hkl]; exact t.few
    exact ⟨.ref D, _, inv_list I keep hD hat hv hz, rfl, k D us (I.hok.fresh hD) hw⟩
/-- sorted(xs), a list -/
theorem call_sortedL (hu : X.A.units + 64 < cLine) : CallR X (.builtin "sorted") (fun vs H Q => ∃ (F : Hp) (q : Addr) (xs : List V) (ds : List PyData), Same F H ∧ vs = [.ref q] ∧ Rd H q (.lst xs) ∧ Das F xs ds ∧ Srt ds ∧ ∀ D us, H D = none → Das F us (srtD ds) → Q (.ref D) (upd H D (.lst us))) := by
  intro pins s σ H vs us Q I r h
  obtain ⟨F, q, xs, ds, sm, rfl, hq, w, so, k⟩ := h
  obtain ⟨u, rfl, ru⟩ := vals1 r
  cases (show u = Value.ref q from ru)
  obtain ⟨z, its, n, rv, e1⟩ := hq.ok I.hok
  have hl2 := w.length
  have hl3 := rv.length
  have hE := vals_each rv w
  have er : EachIs (fun v d => ∃ as, Reads s.heap v (id d) as) its ds := hE.mono fun v d hd => reld_reads I sm hd
  refine sorted_data (enc := id) (R := RelD F) ⟨_, e1, rfl, n, rfl⟩ hE er (by rw [List.map_id]; exact so.al) (by rw [List.map_id]; exact so.so) (by omega) (fun d hd => by have h1 := so.dep d hd; show X.A.units + 2 + d.depth < cLine; omega) fun out hol ho => ?_
  obtain ⟨us, hv, hw⟩ := each_vals ho
  have hz : us.length ≤ sizeLine := by rw [hv.length, hol]; omega
  obtain ⟨c, hat⟩ := sortedAll_at s.heap its out.toArray
  have I' := inv_list (tk := s.toks) I (fun b o eb => sortedAll_old eb) (Nat.le_succ _) hat hv hz
  exact ⟨.ref _, _, I', rfl, k _ us (I.hok.fresh (Nat.le_succ _)) hw⟩
theorem evo_sortedN (hu : X.A.units + 64 < cLine) (hh : X.A.handled = none) (ho : EvR X e S (.dN p kvs) S) (so : Srt (kvs.map (·.1.data))) (hm : X.mg "sorted" = none) (hg : Gl X "sorted" := by rfl) (he : starEach [e] X.env = (false, eval e X.env) :: starEach [] X.env := by exact star_plain rfl) (hpl : (backTo pos (starEach [] X.env)).any (·.1) = false := by exact back_plain rfl) :
    EvO X (.Call (.Name "sorted" np) [e] [] pos) S (fun p => .lst p (srtD (kvs.map (·.1.data)))) S := fun F H σ st Q q => by
  refine (pe_callB (call_sortedN hu hh) hg hm boot_sorted (pa_cons (peW X e) pa_nil he) (by decide) (by decide) he hpl).wp ?_
  refine ho F H σ st _ fun v F1 H1 s1 => ?_
  obtain ⟨rfl, xs, t, r⟩ := own_dN s1.own
  refine ⟨F1, p, xs, kvs, s1.st.same, rfl, t, r, so, fun D us hD hw => ?_⟩
  exact q _ _ _ _ S (Got.made s1.stp hD rfl (.lst upd_same hw)) ⟨⟨D, rfl⟩, rfl⟩
theorem evo_sortedL (hu : X.A.units + 64 < cLine) (he' : Ev X e S (.list ds) S1) (so : Srt ds) (hm : X.mg "sorted" = none) (hg : Gl X "sorted" := by rfl) (he : starEach [e] X.env = (false, eval e X.env) :: starEach [] X.env := by exact star_plain rfl) (hpl : (backTo pos (starEach [] X.env)).any (·.1) = false := by exact back_plain rfl) :
    EvO X (.Call (.Name "sorted" np) [e] [] pos) S (fun p => .lst p (srtD ds)) S1 := fun F H σ st Q q => by
  refine (pe_callB (call_sortedL hu) hg hm boot_sorted (pa_cons (peW X e) pa_nil he) (by decide) (by decide) he hpl).wp ?_
  refine he'.use st fun v F1 H1 p1 w1 => ?_
  cases w1 with
  | @lst l us _ ql wl =>
    refine ⟨F1, l, us, ds, p1.st.same, rfl, Rd.same p1.st.same ql, wl, so, fun D us hD hw => ?_⟩
    exact q _ _ _ _ S1 (Got.made p1 hD rfl (.lst upd_same hw)) ⟨⟨D, rfl⟩, rfl⟩
end
/-! ### terms sorted -/
theorem alike_enc : ∀ t u : T, alike t.enc u.enc = true := by
  intro t
  induction t with
  | t0 h => intro u; cases u <;> simp [T.enc, alike, alikeAll]
  | t1 h a ih => intro u; cases u <;> simp [T.enc, alike, alikeAll, ih]
  | t2 h a b ih ih2 => intro u; cases u <;> simp [T.enc, alike, alikeAll, ih, ih2]
theorem srt_terms {ts : List T} (h : ∀ t ∈ ts, t.depth ≤ 32) : Srt (ts.map T.enc) := ⟨AllAlike.of alike_enc, Sortable.tuples T.enc_eq, fun d hd => by
  obtain ⟨t, ht, rfl⟩ := List.mem_map.mp hd
  rw [T.enc_depth]; exact h t ht⟩
/-- terms in order -/
abbrev srtT (ts : List T) : List T := ts.mergeSort (dataLe false T.enc)
theorem srtD_enc (ts : List T) : srtD (ts.map T.enc) = (srtT ts).map T.enc := by
  unfold srtD srtT
  rw [List.map_mergeSort]
  intro a _ b _; rfl
end SH
/-! SHo: the order of terms; all terms within terms. -/
namespace SH
open PySem PySem.Spec PyProof.Rows L2 PySem.W

/-! ### sorted rows without twins -/
theorem sorted_ext {α : Type} {lt : α → α → Prop} (ir : ∀ a, ¬ lt a a) (tr : ∀ a b c, lt a b → lt b c → lt a c) : ∀ {l1 l2 : List α}, l1.Pairwise lt → l2.Pairwise lt → (∀ x, x ∈ l1 ↔ x ∈ l2) → l1 = l2
  | [], [], _, _, _ => rfl
  | [], b :: l2, _, _, h => absurd ((h b).mpr (List.mem_cons_self ..)) (by simp)
  | a :: l1, [], _, _, h => absurd ((h a).mp (List.mem_cons_self ..)) (by simp)
  | a :: l1, b :: l2, p1, p2, h => by
    rw [List.pairwise_cons] at p1 p2
    have hab : a = b := by
      rcases List.mem_cons.mp ((h a).mp (List.mem_cons_self ..)) with e | ha
      · exact e
      · rcases List.mem_cons.mp ((h b).mpr (List.mem_cons_self ..)) with e | hb
        · exact e.symm
        · exact absurd (tr _ _ _ (p1.1 b hb) (p2.1 a ha)) (ir a)
    subst hab
    congr 1
    refine sorted_ext ir tr p1.2 p2.2 fun x => ⟨fun hx => ?_, fun hx => ?_⟩
    · rcases List.mem_cons.mp ((h x).mp (List.mem_cons_of_mem _ hx)) with e | hx2
      · subst e; exact absurd (p1.1 x hx) (ir x)
      · exact hx2
    · rcases List.mem_cons.mp ((h x).mpr (List.mem_cons_of_mem _ hx)) with e | hx2
      · subst e; exact absurd (p2.1 x hx) (ir x)
      · exact hx2

/-! ### the order of data -/
def dlt (a b : PyData) : Prop := dataLt a b = true
theorem dlt_irrefl (a : PyData) : ¬ dlt a a := by
  intro h
  have h2 : PyProof.Rows.lexLt itemOrd (keyToks a) (keyToks a) = true := h
  rw [lex_irrefl] at h2
  cases h2
theorem dlt_trans {a b c : PyData} (h1 : dlt a b) (h2 : dlt b c) : dlt a c := lex_trans _ _ _ h1 h2
theorem dlt_total {a b : PyData} (h1 : ¬ dlt a b) (h2 : ¬ dlt b a) : keyToks a = keyToks b := lex_total _ _ (Bool.eq_false_iff.mpr h1) (Bool.eq_false_iff.mpr h2)
theorem toks_pre : ∀ (t u : T) (r r' : List (Int ⊕ List Nat)), keyToks t.enc ++ r = keyToks u.enc ++ r' → t = u ∧ r = r' := by
  have k0 : ∀ h, keyToks (T.t0 h).enc = [.inl 1, .inr h.cps.toList, .inl 0] := fun h => by simp [T.enc, keyToks, keyToksAll]
  have k1 : ∀ h a, keyToks (T.t1 h a).enc = .inl 1 :: .inr h.cps.toList :: .inl 1 :: (keyToks a.enc ++ [.inl 0]) := fun h a => by simp [T.enc, keyToks, keyToksAll]
  have k2 : ∀ h a b, keyToks (T.t2 h a b).enc = .inl 1 :: .inr h.cps.toList :: .inl 1 :: (keyToks a.enc ++ .inl 1 :: (keyToks b.enc ++ [.inl 0])) := fun h a b => by simp [T.enc, keyToks, keyToksAll]
  have hx : ∀ {x y : Str}, x.cps.toList = y.cps.toList → x = y := fun {x y} e => by rw [sOf_of x, sOf_of y, e]
  intro t
  induction t with
  | t0 h =>
    intro u r r' e
    cases u with
    | t0 h2 =>
      rw [k0, k0] at e
      simp only [List.cons_append, List.nil_append, List.cons.injEq, Sum.inr.injEq, true_and] at e
      exact ⟨by rw [hx e.1], e.2⟩
    | t1 h2 a => rw [k0, k1] at e; simp at e
    | t2 h2 a b => rw [k0, k2] at e; simp at e
  | t1 h a ih =>
    intro u r r' e
    cases u with
    | t0 h2 => rw [k0, k1] at e; simp at e
    | t1 h2 a2 =>
      rw [k1, k1] at e
      simp only [List.cons_append, List.append_assoc, List.cons.injEq, Sum.inr.injEq, true_and] at e
      obtain ⟨rfl, e2⟩ := ih a2 _ _ e.2
      simp only [List.nil_append, List.cons.injEq, true_and] at e2
      exact ⟨by rw [hx e.1], e2⟩
    | t2 h2 a2 b2 =>
      rw [k1, k2] at e
      simp only [List.cons_append, List.append_assoc, List.cons.injEq, Sum.inr.injEq, true_and] at e
      obtain ⟨rfl, e2⟩ := ih a2 _ _ e.2
      simp at e2
  | t2 h a b ih ih2 =>
    intro u r r' e
    cases u with
    | t0 h2 => rw [k0, k2] at e; simp at e
    | t1 h2 a2 =>
      rw [k1, k2] at e
      simp only [List.cons_append, List.append_assoc, List.cons.injEq, Sum.inr.injEq, true_and] at e
      obtain ⟨rfl, e2⟩ := ih a2 _ _ e.2
      simp at e2
    | t2 h2 a2 b2 =>
      rw [k2, k2] at e
      simp only [List.cons_append, List.append_assoc, List.cons.injEq, Sum.inr.injEq, true_and] at e
      obtain ⟨rfl, e2⟩ := ih a2 _ _ e.2
      simp only [List.cons_append, List.append_assoc, List.cons.injEq, true_and] at e2
      obtain ⟨rfl, e3⟩ := ih2 b2 _ _ e2
      simp only [List.nil_append, List.cons.injEq, true_and] at e3
      exact ⟨by rw [hx e.1], e3⟩
theorem toks_inj {t u : T} (h : keyToks t.enc = keyToks u.enc) : t = u := (toks_pre t u [] [] (by rw [h])).1
def tlt (a b : T) : Prop := dlt a.enc b.enc
theorem tlt_irrefl (a : T) : ¬ tlt a a := dlt_irrefl _
theorem tlt_trans (a b c : T) : tlt a b → tlt b c → tlt a c := dlt_trans
theorem tlt_total {a b : T} (h1 : ¬ tlt a b) (h2 : ¬ tlt b a) : a = b := toks_inj (dlt_total h1 h2)
theorem srtT_pairwise {ts : List T} (nd : ts.Nodup) : (srtT ts).Pairwise tlt := by
  have h1 : (srtT ts).Pairwise fun a b => dataLe false T.enc a b = true := List.pairwise_mergeSort (fun a b c => (sortLe_total (listOrd itemOrd) false fun b => keyToks (T.enc b)).trans a b c) (fun a b => by rw [Bool.or_eq_true]; exact (sortLe_total (listOrd itemOrd) false fun b => keyToks (T.enc b)).total a b) ts
  have h2 : (srtT ts).Nodup := (List.mergeSort_perm ts _).nodup_iff.mpr nd
  refine (h1.and h2).imp fun {a b} ⟨h3, h4⟩ => ?_
  have h5 : ¬ tlt b a := by
    have h6 : (!dataLt b.enc a.enc) = true := h3
    unfold tlt dlt
    simpa using h6
  exact Classical.byContradiction fun h6 => h4 (tlt_total h6 h5)
theorem srtT_mem {ts : List T} {t : T} : t ∈ srtT ts ↔ t ∈ ts := List.mem_mergeSort
theorem srtT_ext {ts us : List T} (n1 : ts.Nodup) (n2 : us.Nodup) (h : ∀ t, t ∈ ts ↔ t ∈ us) : srtT ts = srtT us :=
  sorted_ext tlt_irrefl tlt_trans (srtT_pairwise n1) (srtT_pairwise n2) fun x => by rw [srtT_mem, srtT_mem]; exact h x

/-! ### all terms within terms -/
/-- terms as a dict's keys -/
abbrev tkeys (ts : List T) : List (NestedKey × PyData) := ts.map fun t => (t.key, .bool true)
theorem nget_tkeys (ts : List T) (t : T) : (nget (tkeys ts) t.key).isSome = decide (t ∈ ts) := by
  unfold nget
  rw [Option.isSome_map]
  induction ts with
  | nil => rfl
  | cons u r ih =>
    rw [tkeys, List.map_cons, List.find?_cons]
    by_cases h : u = t
    · subst h; simp
    · have : decide (u.key = t.key) = false := decide_eq_false fun z => h (T.key_inj z)
      rw [this]
      have e : decide (t ∈ u :: r) = decide (t ∈ r) := by
        rw [decide_eq_decide, List.mem_cons]
        exact ⟨fun q => q.elim (fun z => absurd z.symm h) id, .inr⟩
      rw [e]; exact ih
theorem nput_tkeys {ts : List T} {t : T} (h : t ∉ ts) : nput (tkeys ts) t.key (.bool true) = tkeys (ts ++ [t]) := by
  unfold nput
  rw [nget_tkeys, decide_eq_false h, tkeys, tkeys, List.map_append]; rfl
theorem nput_tkeys' {ts : List T} {t : T} (h : t ∈ ts) : nput (tkeys ts) t.key (.bool true) = tkeys ts := by
  unfold nput
  rw [nget_tkeys, decide_eq_true h, if_pos rfl, tkeys, List.map_map]
  refine List.map_congr_left fun x _ => ?_
  show (if x.key = t.key then (x.key, PyData.bool true) else (x.key, .bool true)) = _
  split <;> rfl
def gath : T → List T → List T
  | .t0 h, ts => if T.t0 h ∈ ts then ts else ts ++ [.t0 h]
  | .t1 h a, ts => if T.t1 h a ∈ ts then ts else gath a (ts ++ [.t1 h a])
  | .t2 h a b, ts => if T.t2 h a b ∈ ts then ts else gath b (gath a (ts ++ [.t2 h a b]))
def gathL (us : List T) (ts : List T) : List T := us.foldl (fun ts u => gath u ts) ts
theorem gath_in {t : T} {ts : List T} (h : t ∈ ts) : gath t ts = ts := by cases t <;> simp [gath, h]
theorem gath_out {t : T} {ts : List T} (h : t ∉ ts) : gath t ts = gathL t.ps (ts ++ [t]) := by cases t <;> simp [gath, h, gathL, T.ps]
/-- t and all within it -/
def T.all : T → List T
  | .t0 h => [.t0 h]
  | .t1 h a => .t1 h a :: a.all
  | .t2 h a b => .t2 h a b :: (a.all ++ b.all)
theorem all_self (t : T) : t ∈ t.all := by cases t <;> simp [T.all]
theorem all_len : ∀ t : T, t.all.length = t.size
  | .t0 _ => rfl
  | .t1 _ a => by rw [T.all, List.length_cons, all_len a, T.size]; omega
  | .t2 _ a b => by rw [T.all, List.length_cons, List.length_append, all_len a, all_len b, T.size]; omega
theorem all_ps {t u : T} : u ∈ t.all ↔ u = t ∨ ∃ p ∈ t.ps, u ∈ p.all := by
  cases t <;> simp [T.all, T.ps]
/-- a row of terms that holds all within -/
def ClosedT (ts : List T) : Prop := ∀ t ∈ ts, ∀ p ∈ t.ps, p ∈ ts
theorem all_closed {ts : List T} (h : ClosedT ts) : ∀ {t : T}, t ∈ ts → ∀ u ∈ t.all, u ∈ ts
  | .t0 x, ht, u, hu => by simp [T.all] at hu; subst hu; exact ht
  | .t1 x a, ht, u, hu => by
    simp only [T.all, List.mem_cons] at hu
    rcases hu with rfl | hu
    · exact ht
    · exact all_closed h (h _ ht a (by simp [T.ps])) u hu
  | .t2 x a b, ht, u, hu => by
    simp only [T.all, List.mem_cons, List.mem_append] at hu
    rcases hu with rfl | hu | hu
    · exact ht
    · exact all_closed h (h _ ht a (by simp [T.ps])) u hu
    · exact all_closed h (h _ ht b (by simp [T.ps])) u hu
/-- but for the terms ex, all parts are there -/
def ClosedBut (ex ts : List T) : Prop := ∀ t ∈ ts, t ∉ ex → ∀ p ∈ t.ps, p ∈ ts
theorem gath_sub : ∀ (t : T) (ts : List T), ∀ u ∈ ts, u ∈ gath t ts
  | .t0 h, ts, u, hu => by unfold gath; split; exact hu; exact List.mem_append_left _ hu
  | .t1 h a, ts, u, hu => by unfold gath; split; exact hu; exact gath_sub a _ u (List.mem_append_left _ hu)
  | .t2 h a b, ts, u, hu => by unfold gath; split; exact hu; exact gath_sub b _ u (gath_sub a _ u (List.mem_append_left _ hu))
theorem gath_self : ∀ (t : T) (ts : List T), t ∈ gath t ts
  | .t0 h, ts => by unfold gath; split; assumption; simp
  | .t1 h a, ts => by unfold gath; split; assumption; exact gath_sub a _ _ (by simp)
  | .t2 h a b, ts => by unfold gath; split; assumption; exact gath_sub b _ _ (gath_sub a _ _ (by simp))
theorem gath_mem : ∀ (t : T) (ts : List T) (u : T), u ∈ gath t ts → u ∈ ts ∨ u ∈ t.all
  | .t0 h, ts, u, hu => by
    unfold gath at hu
    split at hu
    · exact .inl hu
    · rcases List.mem_append.mp hu with q | q
      · exact .inl q
      · exact .inr (by simpa [T.all] using q)
  | .t1 h a, ts, u, hu => by
    unfold gath at hu
    split at hu
    · exact .inl hu
    · rcases gath_mem a _ u hu with q | q
      · rcases List.mem_append.mp q with q | q
        · exact .inl q
        · right; simp only [List.mem_singleton] at q; subst q; exact all_self _
      · right; simp [T.all, q]
  | .t2 h a b, ts, u, hu => by
    unfold gath at hu
    split at hu
    · exact .inl hu
    · rcases gath_mem b _ u hu with q | q
      · rcases gath_mem a _ u q with q | q
        · rcases List.mem_append.mp q with q | q
          · exact .inl q
          · right; simp only [List.mem_singleton] at q; subst q; exact all_self _
        · right; simp [T.all, q]
      · right; simp [T.all, q]
theorem gath_nodup : ∀ (t : T) (ts : List T), ts.Nodup → (gath t ts).Nodup
  | .t0 h, ts, nd => by
    unfold gath
    split
    · exact nd
    · rename_i hn
      rw [List.nodup_append]
      exact ⟨nd, by simp, fun x hx y hy z => by simp only [List.mem_singleton] at hy; subst hy z; exact hn hx⟩
  | .t1 h a, ts, nd => by
    unfold gath
    split
    · exact nd
    · rename_i hn
      refine gath_nodup a _ ?_
      rw [List.nodup_append]
      exact ⟨nd, by simp, fun x hx y hy z => by simp only [List.mem_singleton] at hy; subst hy z; exact hn hx⟩
  | .t2 h a b, ts, nd => by
    unfold gath
    split
    · exact nd
    · rename_i hn
      refine gath_nodup b _ (gath_nodup a _ ?_)
      rw [List.nodup_append]
      exact ⟨nd, by simp, fun x hx y hy z => by simp only [List.mem_singleton] at hy; subst hy z; exact hn hx⟩
theorem gath_len : ∀ (t : T) (ts : List T), (gath t ts).length ≤ ts.length + t.size
  | .t0 h, ts => by unfold gath; split; omega; rw [List.length_append]; simp [T.size]
  | .t1 h a, ts => by
    unfold gath
    split
    · omega
    · have := gath_len a (ts ++ [.t1 h a])
      rw [List.length_append, List.length_singleton] at this
      rw [T.size]; omega
  | .t2 h a b, ts => by
    unfold gath
    split
    · omega
    · have h1 := gath_len a (ts ++ [.t2 h a b])
      have h2 := gath_len b (gath a (ts ++ [.t2 h a b]))
      rw [List.length_append, List.length_singleton] at h1
      rw [T.size]; omega
/-- gath keeps and makes closed -/
theorem gath_closed : ∀ (t : T) (ex ts : List T), ClosedBut ex ts → ClosedBut ex (gath t ts)
  | .t0 h, ex, ts, c => by
    unfold gath
    split
    · exact c
    · intro u hu hx p hp
      rcases List.mem_append.mp hu with q | q
      · exact List.mem_append_left _ (c u q hx p hp)
      · simp only [List.mem_singleton] at q; subst q; simp [T.ps] at hp
  | .t1 h a, ex, ts, c => by
    unfold gath
    split
    · exact c
    · have c2 : ClosedBut (T.t1 h a :: ex) (ts ++ [.t1 h a]) := fun u hu hx p hp => by
        rcases List.mem_append.mp hu with q | q
        · exact List.mem_append_left _ (c u q (fun z => hx (List.mem_cons_of_mem _ z)) p hp)
        · simp only [List.mem_singleton] at q; subst q; exact absurd (List.mem_cons_self ..) hx
      have c3 := gath_closed a _ _ c2
      intro u hu hx p hp
      by_cases e : u = T.t1 h a
      · subst e
        simp only [T.ps, List.mem_singleton] at hp
        subst hp
        exact gath_self _ _
      · exact c3 u hu (fun z => by rcases List.mem_cons.mp z with z | z; exact e z; exact hx z) p hp
  | .t2 h a b, ex, ts, c => by
    unfold gath
    split
    · exact c
    · have c2 : ClosedBut (T.t2 h a b :: ex) (ts ++ [.t2 h a b]) := fun u hu hx p hp => by
        rcases List.mem_append.mp hu with q | q
        · exact List.mem_append_left _ (c u q (fun z => hx (List.mem_cons_of_mem _ z)) p hp)
        · simp only [List.mem_singleton] at q; subst q; exact absurd (List.mem_cons_self ..) hx
      have c3 := gath_closed b _ _ (gath_closed a _ _ c2)
      intro u hu hx p hp
      by_cases e : u = T.t2 h a b
      · subst e
        simp only [T.ps, List.mem_cons, List.not_mem_nil, or_false] at hp
        rcases hp with rfl | rfl
        · exact gath_sub _ _ _ (gath_self _ _)
        · exact gath_self _ _
      · exact c3 u hu (fun z => by rcases List.mem_cons.mp z with z | z; exact e z; exact hx z) p hp
theorem gathL_facts : ∀ (us ts : List T), ts.Nodup → ClosedBut [] ts → (gathL us ts).Nodup ∧ ClosedBut [] (gathL us ts) ∧ (∀ u ∈ ts, u ∈ gathL us ts) ∧ (∀ u ∈ us, u ∈ gathL us ts) ∧ (∀ x ∈ gathL us ts, x ∈ ts ∨ ∃ u ∈ us, x ∈ u.all) ∧ (gathL us ts).length ≤ ts.length + (us.map T.size).sum
  | [], ts, nd, c => ⟨nd, c, fun u h => h, fun u h => (by cases h), fun x h => .inl h, Nat.le_add_right _ _⟩
  | v :: us, ts, nd, c => by
    have ⟨h1, h2, h3, h4, h5, h6⟩ := gathL_facts us (gath v ts) (gath_nodup v ts nd) (gath_closed v [] ts c)
    refine ⟨h1, h2, fun u hu => h3 u (gath_sub v ts u hu), fun u hu => ?_, fun x hx => ?_, ?_⟩
    · rcases List.mem_cons.mp hu with rfl | hu
      · exact h3 _ (gath_self _ _)
      · exact h4 u hu
    · rcases h5 x hx with q | ⟨u, q1, q2⟩
      · rcases gath_mem v ts x q with q | q
        · exact .inl q
        · exact .inr ⟨v, List.mem_cons_self .., q⟩
      · exact .inr ⟨u, List.mem_cons_of_mem _ q1, q2⟩
    · have := gath_len v ts
      rw [List.map_cons, List.sum_cons]
      show (gathL us (gath v ts)).length ≤ _
      omega
/-- all terms within terms, in order -/
def parts (us : List T) : List T := srtT (gathL us [])
theorem parts_mem {us : List T} {t : T} : t ∈ parts us ↔ ∃ u ∈ us, t ∈ u.all := by
  have ⟨h1, h2, h3, h4, h5, h6⟩ := gathL_facts us [] .nil (fun _ h => by cases h)
  unfold parts
  rw [srtT_mem]
  constructor
  · intro h
    rcases h5 t h with q | q
    · cases q
    · exact q
  · rintro ⟨u, hu, ht⟩
    exact all_closed (fun t ht p hp => h2 t ht (by simp) p hp) (h4 u hu) t ht
theorem gathL_nodup (us : List T) : (gathL us []).Nodup := (gathL_facts us [] .nil (fun _ h => by cases h)).1
theorem parts_sorted (us : List T) : (parts us).Pairwise tlt := srtT_pairwise (gathL_nodup us)
theorem parts_nodup (us : List T) : (parts us).Nodup := List.Pairwise.imp (fun {a b} (h : tlt a b) (e : a = b) => tlt_irrefl b (e ▸ h)) (parts_sorted us)
theorem parts_closed (us : List T) : ClosedT (parts us) := fun t ht p hp => by
  obtain ⟨u, hu, h⟩ := parts_mem.mp ht
  refine parts_mem.mpr ⟨u, hu, ?_⟩
  have go : ∀ {u t p : T}, t ∈ u.all → p ∈ t.ps → p ∈ u.all := fun {u} => by
    induction u with
    | t0 x => intro t p h hp; simp [T.all] at h; subst h; simp [T.ps] at hp
    | t1 x a ih =>
      intro t p h hp
      simp only [T.all, List.mem_cons] at h ⊢
      rcases h with rfl | h
      · simp only [T.ps, List.mem_singleton] at hp; subst hp; exact .inr (all_self _)
      · exact .inr (ih h hp)
    | t2 x a b ih ih2 =>
      intro t p h hp
      simp only [T.all, List.mem_cons, List.mem_append] at h ⊢
      rcases h with rfl | h | h
      · simp only [T.ps, List.mem_cons, List.not_mem_nil, or_false] at hp
        rcases hp with rfl | rfl
        · exact .inr (.inl (all_self _))
        · exact .inr (.inr (all_self _))
      · exact .inr (.inl (ih h hp))
      · exact .inr (.inr (ih2 h hp))
  exact go h hp
theorem parts_ext {us vs : List T} (h : ∀ t, (∃ u ∈ us, t ∈ u.all) ↔ ∃ u ∈ vs, t ∈ u.all) : parts us = parts vs :=
  sorted_ext tlt_irrefl tlt_trans (parts_sorted us) (parts_sorted vs) fun x => by rw [parts_mem, parts_mem]; exact h x
end SH
/-! SHp: sizes, a term in the place of a name, all terms within; contracts. -/
namespace SH
open PySem PySem.Spec PyProof.Rows L2
def T.put : T → Str → T → T
  | .t0 h, x, o => if h = x then o else .t0 h
  | .t1 h a, x, o => .t1 h (a.put x o)
  | .t2 h a b, x, o => .t2 h (a.put x o) (b.put x o)
theorem put_ok {x : Str} {o : T} (ho : o.Ok) : ∀ {t : T}, t.Ok → (t.put x o).Ok
  | .t0 h, k => by unfold T.put; split; exact ho; exact k
  | .t1 h a, k => ⟨k.1, put_ok ho k.2⟩
  | .t2 h a b, k => ⟨k.1, put_ok ho k.2.1, put_ok ho k.2.2⟩
theorem put_depth {x : Str} {o : T} : ∀ {t : T}, (t.put x o).depth + 1 ≤ t.depth + o.depth
  | .t0 h => by unfold T.put; split <;> simp only [T.depth]; omega; (cases o <;> simp only [T.depth] <;> omega)
  | .t1 h a => by have := put_depth (x := x) (o := o) (t := a); simp only [T.put, T.depth]; omega
  | .t2 h a b => by
    have := put_depth (x := x) (o := o) (t := a)
    have := put_depth (x := x) (o := o) (t := b)
    simp only [T.put, T.depth]; omega
theorem put_self {x : Str} : ∀ (t : T), t.put x (.t0 x) = t
  | .t0 h => by unfold T.put; split; rename_i e; rw [e]; rfl
  | .t1 h a => by rw [T.put, put_self a]
  | .t2 h a b => by rw [T.put, put_self a, put_self b]
theorem put_ps {x : Str} {o t : T} (h : t ≠ .t0 x) : (t.put x o).enc = .tuple ([.str t.hd] ++ t.ps.map fun u => (u.put x o).enc) := by
  cases t with
  | t0 y => rw [T.put, if_neg (fun e => h (by rw [e]))]; rfl
  | t1 y a => rfl
  | t2 y a b => rfl
theorem size_ps (t : T) : (1 : Int) + (t.ps.map fun u => (u.size : Int)).sum = (t.size : Nat) := by
  cases t with
  | t0 y => rfl
  | t1 y a => simp only [T.ps, T.size, List.map_cons, List.map_nil, List.sum_cons, List.sum_nil]; omega
  | t2 y a b => simp only [T.ps, T.size, List.map_cons, List.map_nil, List.sum_cons, List.sum_nil]; omega
theorem size_depth : ∀ t : T, t.size + 1 ≤ 2 ^ t.depth
  | .t0 _ => by simp [T.size, T.depth]
  | .t1 _ a => by have := size_depth a; simp only [T.size, T.depth, Nat.pow_succ]; have : 1 ≤ a.size := by cases a <;> simp [T.size] <;> omega
                  omega
  | .t2 _ a b => by
    have h1 := size_depth a
    have h2 := size_depth b
    have h4 : 2 ^ a.depth ≤ 2 ^ max a.depth b.depth := Nat.pow_le_pow_right (by decide) (Nat.le_max_left ..)
    have h5 : 2 ^ b.depth ≤ 2 ^ max a.depth b.depth := Nat.pow_le_pow_right (by decide) (Nat.le_max_right ..)
    simp only [T.size, T.depth, Nat.pow_succ]
    omega
theorem key_tup (t : T) : isTup t.key = true := by cases t <;> rfl
theorem cut_head (a : PyData) (r : List PyData) : PyData.tuple (cutD (a :: r) none (some 1)) = .tuple [a] := by
  unfold cutD
  rw [show (1 : Int) = ((1 : Nat) : Int) from rfl, HT.sIx_nat, HT.sIx_none, List.drop_zero]
  rw [show min 1 (a :: r).length - 0 = 1 by rw [List.length_cons]; omega]
  rfl
theorem cut_ps (t : T) : PyData.tuple (cutD t.items (some 1) none) = .tuple (t.ps.map T.enc) := cut_tail _ _
def ct_size (n : Nat) : Ct := fun args Q => ∃ t : T, args = [.dat t.enc] ∧ t.depth ≤ n ∧ Q (.dat (.int (t.size : Nat))) args
def ct_put (n : Nat) : Ct := fun args Q => ∃ (t : T) (x : Str) (o : T), args = [.dat t.enc, .dat (.str x), .dat o.enc] ∧ t.Ok ∧ isHd x = true ∧ t.depth ≤ n ∧ Q (.dat (t.put x o).enc) args
def ct_gather (n : Nat) : Ct := fun args Q => ∃ (t : T) (p : Addr) (ts : List T), args = [.dat t.enc, .dN p (tkeys ts)] ∧ t.depth ≤ n ∧ ts.length + t.size ≤ 100000 ∧ Q (.dat .none) [.dat t.enc, .dN p (tkeys (gath t ts))]
def ct_parts : Ct := fun args Q => ∃ (us : List T) (d : PyData), args = [.dat d] ∧ (d = .list (us.map T.enc) ∨ d = .tuple (us.map T.enc)) ∧ (∀ u ∈ us, u.depth ≤ 8) ∧ (us.map T.size).sum ≤ 100000 ∧ Q (.dat (.tuple ((parts us).map T.enc))) args
theorem mo_size (n : Nat) : ∀ args Q Q', (∀ r a, Q r a → Q' r a) → ct_size n args Q → ct_size n args Q' := fun _ _ _ h ⟨t, e, z, q⟩ => ⟨t, e, z, h _ _ q⟩
theorem mo_put (n : Nat) : ∀ args Q Q', (∀ r a, Q r a → Q' r a) → ct_put n args Q → ct_put n args Q' := fun _ _ _ h ⟨t, x, o, e, z, y, y2, q⟩ => ⟨t, x, o, e, z, y, y2, h _ _ q⟩
theorem mo_gather (n : Nat) : ∀ args Q Q', (∀ r a, Q r a → Q' r a) → ct_gather n args Q → ct_gather n args Q' := fun _ _ _ h ⟨t, p, ts, e, z, y, q⟩ => ⟨t, p, ts, e, z, y, h _ _ q⟩
theorem mo_parts : ∀ args Q Q', (∀ r a, Q r a → Q' r a) → ct_parts args Q → ct_parts args Q' := fun _ _ _ h ⟨us, d, e, z, y, y2, q⟩ => ⟨us, d, e, z, y, y2, h _ _ q⟩
/-- the rows on the way -/
theorem gathL_take {us ts : List T} {i : Nat} {u : T} (h : us[i]? = some u) : gath u (gathL (us.take i) ts) = gathL (us.take (i + 1)) ts := by
  unfold gathL
  rw [List.take_add_one, h, Option.toList, List.foldl_append]; rfl
theorem sum_take (us : List T) (i : Nat) (u : T) (h : us[i]? = some u) : ((us.take i).map T.size).sum + u.size ≤ (us.map T.size).sum := by
  induction us generalizing i with
  | nil => simp at h
  | cons v r ih =>
    cases i with
    | zero => simp at h; subst h; simp
    | succ i =>
      have := ih i (by simpa using h)
      simp only [List.take_succ_cons, List.map_cons, List.sum_cons]
      omega
theorem gathL_len (us ts : List T) : (gathL us ts).length ≤ ts.length + (us.map T.size).sum := by
  induction us generalizing ts with
  | nil => exact Nat.le_add_right _ _
  | cons v r ih =>
    have h1 := gath_len v ts
    have h2 := ih (gath v ts)
    rw [List.map_cons, List.sum_cons]
    show (gathL r (gath v ts)).length ≤ _
    omega
theorem ps_sum (t : T) : (t.ps.map T.size).sum + 1 = t.size := by
  cases t <;> simp [T.ps, T.size] <;> omega
theorem all_depth : ∀ {t u : T}, u ∈ t.all → u.depth ≤ t.depth
  | .t0 h, u, hu => by simp only [T.all, List.mem_singleton] at hu; subst hu; exact Nat.le_refl _
  | .t1 h a, u, hu => by
    simp only [T.all, List.mem_cons] at hu
    rcases hu with rfl | hu
    · exact Nat.le_refl _
    · have := all_depth hu; simp only [T.depth]; omega
  | .t2 h a b, u, hu => by
    simp only [T.all, List.mem_cons, List.mem_append] at hu
    rcases hu with rfl | hu | hu
    · exact Nat.le_refl _
    · have := all_depth hu; simp only [T.depth]; omega
    · have := all_depth hu; simp only [T.depth]; omega
/-! ### what the laws gather themselves -/
def insT (t : T) (ts : List T) : List T := if t ∈ ts then ts else ts ++ [t]
theorem nput_ins (t : T) (ts : List T) : nput (tkeys ts) t.key (.bool true) = tkeys (insT t ts) := by
  unfold insT
  split
  · exact nput_tkeys' (by assumption)
  · exact nput_tkeys (by assumption)
theorem insT_len (t : T) (ts : List T) : (insT t ts).length ≤ ts.length + 1 := by
  unfold insT
  split
  · omega
  · rw [List.length_append, List.length_singleton]; exact Nat.le_refl _
theorem insT_mem {t u : T} {ts : List T} : u ∈ insT t ts ↔ u = t ∨ u ∈ ts := by
  unfold insT
  split
  · rename_i h
    exact ⟨.inr, fun q => q.elim (fun z => z ▸ h) id⟩
  · rw [List.mem_append, List.mem_singleton]; exact or_comm
theorem insT_nodup {t : T} {ts : List T} (nd : ts.Nodup) : (insT t ts).Nodup := by
  unfold insT
  split
  · exact nd
  · rename_i h
    rw [List.nodup_append]
    exact ⟨nd, by simp, fun x hx y hy z => by simp only [List.mem_singleton] at hy; subst hy z; exact h hx⟩
/-- on the way: ls is left, ts is found -/
structure Within (us ls ts : List T) : Prop where
  nd : ts.Nodup
  sub : ∀ t ∈ ts, ∃ u ∈ us, t ∈ u.all
  lsub : ∀ t ∈ ls, ∃ u ∈ us, t ∈ u.all
  all : ∀ u ∈ us, ∀ t ∈ u.all, t ∈ ts ∨ ∃ l ∈ ls, t ∈ l.all
  len : ts.length + (ls.map T.size).sum ≤ (us.map T.size).sum
theorem Within.start (us : List T) : Within us us [] := ⟨.nil, fun _ h => (by cases h), fun t ht => ⟨t, ht, all_self t⟩, fun u hu t ht => .inr ⟨u, hu, ht⟩, by simp⟩
theorem all_trans {t u v : T} (h1 : t ∈ u.all) (h2 : u ∈ v.all) : t ∈ v.all := by
  induction v with
  | t0 x => simp only [T.all, List.mem_singleton] at h2; subst h2; exact h1
  | t1 x a ih =>
    simp only [T.all, List.mem_cons] at h2
    rcases h2 with rfl | h2
    · exact h1
    · simp only [T.all, List.mem_cons]; exact .inr (ih h2)
  | t2 x a b ih ih2 =>
    simp only [T.all, List.mem_cons, List.mem_append] at h2
    rcases h2 with rfl | h2 | h2
    · exact h1
    · simp only [T.all, List.mem_cons, List.mem_append]; exact .inr (.inl (ih h2))
    · simp only [T.all, List.mem_cons, List.mem_append]; exact .inr (.inr (ih2 h2))
theorem ps_all {t p : T} (h : p ∈ t.ps) : p ∈ t.all := all_ps.mpr (.inr ⟨p, h, all_self p⟩)
theorem Within.step {us ls ts : List T} {t : T} (h : Within us (ls ++ [t]) ts) : Within us (ls ++ t.ps) (insT t ts) where
  nd := insT_nodup h.nd
  sub := fun x hx => by
    rcases insT_mem.mp hx with rfl | hx
    · exact h.lsub _ (by simp)
    · exact h.sub x hx
  lsub := fun x hx => by
    rcases List.mem_append.mp hx with hx | hx
    · exact h.lsub x (List.mem_append_left _ hx)
    · obtain ⟨u, hu, ht⟩ := h.lsub t (by simp)
      exact ⟨u, hu, all_trans (ps_all hx) ht⟩
  all := fun u hu x hx => by
    rcases h.all u hu x hx with q | ⟨l, hl, q⟩
    · exact .inl (insT_mem.mpr (.inr q))
    · rcases List.mem_append.mp hl with hl | hl
      · exact .inr ⟨l, List.mem_append_left _ hl, q⟩
      · simp only [List.mem_singleton] at hl
        subst hl
        rcases all_ps.mp q with rfl | ⟨p, hp, q⟩
        · exact .inl (insT_mem.mpr (.inl rfl))
        · exact .inr ⟨p, List.mem_append_right _ hp, q⟩
  len := by
    have h1 := h.len
    have h2 := insT_len t ts
    have h3 := ps_sum t
    rw [List.map_append, List.sum_append] at h1 ⊢
    simp only [List.map_cons, List.map_nil, List.sum_cons, List.sum_nil] at h1
    omega
theorem Within.end' {us ts : List T} (h : Within us [] ts) : srtT ts = parts us := by
  refine srtT_ext h.nd (gathL_nodup us) fun t => ?_
  have e : t ∈ gathL us [] ↔ ∃ u ∈ us, t ∈ u.all := by rw [← parts_mem, parts, srtT_mem]
  rw [e]
  exact ⟨h.sub t, fun ⟨u, hu, ht⟩ => (h.all u hu t ht).elim id fun ⟨l, hl, _⟩ => by cases hl⟩
theorem sum_ge_len (ls : List T) : ls.length ≤ (ls.map T.size).sum := by
  induction ls with
  | nil => exact Nat.le_refl _
  | cons t r ih =>
    rw [List.length_cons, List.map_cons, List.sum_cons]
    have : 1 ≤ t.size := by cases t <;> simp only [T.size] <;> omega
    omega
def ct_within : Ct := fun args Q => ∃ (us : List T) (d : PyData), args = [.dat d] ∧ (d = .list (us.map T.enc) ∨ d = .tuple (us.map T.enc)) ∧ (∀ u ∈ us, u.depth ≤ 8) ∧ (us.map T.size).sum ≤ 100000 ∧ Q (.dat (.list ((parts us).map T.enc))) args
theorem mo_within : ∀ args Q Q', (∀ r a, Q r a → Q' r a) → ct_within args Q → ct_within args Q' := fun _ _ _ h ⟨us, d, e, z, y, y2, q⟩ => ⟨us, d, e, z, y, y2, h _ _ q⟩
def ct_all (n : Nat) : Ct := fun args Q => ∃ t : T, args = [.dat t.enc] ∧ t.depth ≤ n ∧ t.size ≤ 100000 ∧ Q (.dat (.list (t.all.map T.enc))) args
theorem mo_all (n : Nat) : ∀ args Q Q', (∀ r a, Q r a → Q' r a) → ct_all n args Q → ct_all n args Q' := fun _ _ _ h ⟨t, e, z, y, q⟩ => ⟨t, e, z, y, h _ _ q⟩
theorem all_ps_eq (t : T) : t.all = t :: (t.ps.map T.all).flatten := by cases t <;> simp [T.all, T.ps]
theorem keys_enc (ts : List T) : (tkeys ts).map (·.1.data) = ts.map T.enc := by
  rw [List.map_map]
  exact List.map_congr_left fun t _ => T.key_data t
theorem canLay_list {ts : List T} (h : ∀ t ∈ ts, t.Ok) : PyData.canLayAll0 (ts.map T.enc) = true := by
  induction ts with
  | nil => rfl
  | cons t r ih =>
    rw [List.map_cons, PyData.canLayAll0, canLay_enc (T.All.imp (fun _ => isHd_ok) (h t (List.mem_cons_self ..))), ih fun u hu => h u (List.mem_cons_of_mem _ hu)]; rfl
theorem depth_list {ts : List T} {n : Nat} (h : ∀ t ∈ ts, t.depth ≤ n) : PyData.depthAll (ts.map T.enc) ≤ n := by
  induction ts with
  | nil => simp [PyData.depthAll]
  | cons t r ih =>
    have h1 := ih fun u hu => h u (List.mem_cons_of_mem _ hu)
    have h2 := h t (List.mem_cons_self ..)
    rw [List.map_cons, PyData.depthAll, T.enc_depth]
    omega
theorem shaped_list {ts : List T} (h : ∀ t ∈ ts, t.Ok) (hd : ∀ t ∈ ts, t.depth ≤ 32) : SeqAt.shaped (.list (ts.map T.enc)) = true := by
  refine shaped_mk ?_ ?_
  · rw [PyData.canLay0]; exact canLay_list h
  · have := depth_list hd
    rw [PyData.depth]; omega
theorem shaped_tuple {ts : List T} (h : ∀ t ∈ ts, t.Ok) (hd : ∀ t ∈ ts, t.depth ≤ 32) : SeqAt.shaped (.tuple (ts.map T.enc)) = true := by
  refine shaped_mk ?_ ?_
  · rw [PyData.canLay0]; exact canLay_list h
  · have := depth_list hd
    rw [PyData.depth]; omega
theorem sum_sizes (us : List T) (n : Nat) (hd : ∀ u ∈ us, u.depth ≤ n) (hn : us.length * 2 ^ n ≤ 100000) : (us.map T.size).sum ≤ 100000 := by
  refine Nat.le_trans ?_ hn
  clear hn
  induction us with
  | nil => simp
  | cons u r ih =>
    have h1 := ih fun v hv => hd v (List.mem_cons_of_mem _ hv)
    have h2 := size_depth u
    have h3 : 2 ^ u.depth ≤ 2 ^ n := Nat.pow_le_pow_right (by decide) (hd u (List.mem_cons_self ..))
    rw [List.map_cons, List.sum_cons, List.length_cons, Nat.succ_mul]
    omega
theorem list_eqv (ts : List T) : PyData.eqv (.list (ts.map T.enc)) (.list (ts.map T.enc)) = true := by
  have h : plainD (.list (ts.map T.enc)) = true := by
    show plainDs (ts.map T.enc) = true
    induction ts with
    | nil => rfl
    | cons t r ih => rw [List.map_cons, plainDs, plain_enc, ih]; rfl
  exact (eqv_iff _ _ h h).mpr rfl
theorem all_ok : ∀ {t u : T}, t.Ok → u ∈ t.all → u.Ok
  | .t0 h, u, o, hu => by simp only [T.all, List.mem_singleton] at hu; subst hu; exact o
  | .t1 h a, u, o, hu => by
    simp only [T.all, List.mem_cons] at hu
    rcases hu with rfl | hu
    · exact o
    · exact all_ok o.2 hu
  | .t2 h a b, u, o, hu => by
    simp only [T.all, List.mem_cons, List.mem_append] at hu
    rcases hu with rfl | hu | hu
    · exact o
    · exact all_ok o.2.1 hu
    · exact all_ok o.2.2 hu
theorem is_t0 (t : T) (x : Str) : (decide (((t.items.length : Nat) : Int) = 1) && decide (t.hd = x)) = decide (t = .t0 x) := by
  cases t with
  | t0 h =>
    show (true && decide (h = x)) = _
    rw [Bool.true_and, decide_eq_decide]
    exact ⟨fun e => by rw [e], fun e => by cases e; rfl⟩
  | t1 h a => rw [decide_eq_false (p := T.t1 h a = .t0 x) (fun e => by cases e)]; rfl
  | t2 h a b => rw [decide_eq_false (p := T.t2 h a b = .t0 x) (fun e => by cases e)]; rfl
end SH
/-! SHq: instances of own classes: fields, methods, making. -/
namespace SH
open PySem PySem.Spec PyProof.Rows L2
section
variable {P : Program} {w : World} {F F' H H' : Hp} {σ : L2.St} {S S' : ASt} {ov ov' : OV}
/-! ### fields -/
def putFd (f : Str) (ov : OV) : List (Str × OV) → List (Str × OV)
  | [] => [(f, ov)]
  | (g, u) :: r => if g = f then (g, ov) :: r else (g, u) :: putFd f ov r
theorem lookup_own {f : Str} {o : OV} : ∀ {ws : List (Str × V)} {fs : List (Str × OV)}, OwnF P w F H ws fs → fs.lookup f = some o → ∃ v, ws.lookup f = some v ∧ Own P w F H v o
  | _, _, .nil, h => by cases h
  | _, _, .cons (f := g) q r, h => by
    rw [List.lookup_cons] at h ⊢
    by_cases e : f == g
    · rw [e] at h ⊢
      cases h
      exact ⟨_, rfl, q⟩
    · rw [show (f == g) = false by simpa using e] at h ⊢
      exact lookup_own r h
theorem lookup_mem {f : Str} {o : OV} : ∀ {fs : List (Str × OV)}, fs.lookup f = some o → (f, o) ∈ fs
  | [], h => by cases h
  | (g, u) :: r, h => by
    rw [List.lookup_cons] at h
    by_cases e : f == g
    · rw [e] at h
      have := beq_iff_eq.mp e
      subst this
      cases h
      exact List.mem_cons_self ..
    · rw [show (f == g) = false by simpa using e] at h
      exact List.mem_cons_of_mem _ (lookup_mem h)
theorem ownF_len : ∀ {ws : List (Str × V)} {fs : List (Str × OV)}, OwnF P w F H ws fs → ws.length = fs.length
  | _, _, .nil => rfl
  | _, _, .cons _ r => congrArg (· + 1) (ownF_len r)
theorem ownF_none {f : Str} : ∀ {ws : List (Str × V)} {fs : List (Str × OV)}, OwnF P w F H ws fs → fs.lookup f = none → ws.lookup f = none
  | _, _, .nil, _ => rfl
  | _, _, .cons (f := g) q r, h => by
    rw [List.lookup_cons] at h ⊢
    by_cases e : f == g
    · rw [e] at h; cases h
    · rw [show (f == g) = false by simpa using e] at h ⊢
      exact ownF_none r h
end
section
variable {X : Cx} {F H : Hp} {σ : L2.St} {S S1 S2 S' : ASt} {a b e o i : Expr} {es : List Expr} {d : PyData} {pos pos' np : Pos} {ov : OV}
/-- x.f, x in the slot j -/
theorem evr_fld (j : Nat) {x f : Str} {p dx C : Addr} {fs : List (Str × OV)} (cl : Cls X.K C) (na : NoAttr X.K C f) (hS : S[j]? = some (some (.ins p dx C fs))) (hf : fs.lookup f = some ov) (hN : X.N[j]? = some x := by rfl) (hv : Vis X.env.scope x := by first | exact Or.inl rfl | exact Or.inr (Or.inl rfl) | exact Or.inr (Or.inr rfl))
    (hd : (x == ("__debug__" : Str)) = false := by decide) (hcd : (x == ("__classdict__" : Str)) = false := by decide) (hb : attributeBase (.Name x np) f X.env (eval (.Name x np) X.env) = eval (.Name x np) X.env := by rfl) : EvR X (.Attribute (.Name x np) f pos) S ov S := fun F H σ st Q k => by
  refine (pe_fld (pe_var hN hv hd hcd) hb).wp ?_
  obtain ⟨v, e1, o1⟩ := st.slot j _ hS
  cases o1 with
  | ins q1 q2 r =>
    obtain ⟨u, h1, h2⟩ := lookup_own r hf
    exact ⟨_, e1, p, C, dx, _, u, rfl, q1, cl, na, h1, k u F H ⟨st, h2, .refl, .refl⟩⟩
/-- .. a datum -/
theorem ev_fld (j : Nat) {x f : Str} {p dx C : Addr} {fs : List (Str × OV)} (cl : Cls X.K C) (na : NoAttr X.K C f) (hS : S[j]? = some (some (.ins p dx C fs))) (hf : fs.lookup f = some (.dat d)) (hN : X.N[j]? = some x := by rfl) (hv : Vis X.env.scope x := by first | exact Or.inl rfl | exact Or.inr (Or.inl rfl) | exact Or.inr (Or.inr rfl))
    (hd : (x == ("__debug__" : Str)) = false := by decide) (hcd : (x == ("__classdict__" : Str)) = false := by decide) (hb : attributeBase (.Name x np) f X.env (eval (.Name x np) X.env) = eval (.Name x np) X.env := by rfl) : Ev X (.Attribute (.Name x np) f pos) S d S :=
  .of fun F H σ st Q k => evr_fld j cl na hS hf hN hv hd hcd hb F H σ st Q fun v F' H' s => by
    have hw := s.own
    cases hw with
    | dat w => exact k v F' H' s.stp w
/-! ### storing a field -/
theorem putFd_mem {f : Str} {ov : OV} {b : Addr} : ∀ {fs : List (Str × OV)}, b ∈ footF (putFd f ov fs) → b ∈ footF fs ∨ b ∈ foot ov
  | [], h => by simp only [putFd, footF, List.append_nil] at h; exact .inr h
  | (g, u) :: r, h => by
    unfold putFd at h
    split at h
    · simp only [footF, List.mem_append] at h ⊢
      rcases h with h | h
      · exact .inr h
      · exact .inl (.inr h)
    · simp only [footF, List.mem_append] at h ⊢
      rcases h with h | h
      · exact .inl (.inl h)
      · exact (putFd_mem h).imp .inr id
theorem putFd_nodup {f : Str} {ov : OV} (hn : (foot ov).Nodup) : ∀ {fs : List (Str × OV)}, (footF fs).Nodup → (∀ b ∈ foot ov, b ∉ footF fs) → (footF (putFd f ov fs)).Nodup
  | [], _, _ => by simp only [putFd, footF, List.append_nil]; exact hn
  | (g, u) :: r, nd, hx => by
    simp only [footF] at nd
    rw [List.nodup_append] at nd
    unfold putFd
    split
    · simp only [footF]
      rw [List.nodup_append]
      exact ⟨hn, nd.2.1, fun a ha b hb e => hx a ha (by rw [footF]; exact List.mem_append_right _ (e ▸ hb))⟩
    · simp only [footF]
      rw [List.nodup_append]
      refine ⟨nd.1, putFd_nodup hn nd.2.1 (fun b hb z => hx b hb (by rw [footF]; exact List.mem_append_right _ z)), fun a ha b hb e => ?_⟩
      rcases putFd_mem hb with z | z
      · exact nd.2.2 a ha b z e
      · exact hx b z (by rw [footF]; exact List.mem_append_left _ (e ▸ ha))
theorem OwnF.put {P : Program} {w : World} {H' : Hp} {f : Str} {v : V} {ov : OV} (o : Own P w F H' v ov) : ∀ {ws : List (Str × V)} {fs : List (Str × OV)}, OwnF P w F H' ws fs → OwnF P w F H' (putF f v ws) (putFd f ov fs)
  | _, _, .nil => .cons o .nil
  | _, _, .cons (f := g) q r => by
    unfold putF putFd
    split
    · exact .cons o r
    · exact .cons q (OwnF.put o r)
theorem Got.field {P : Program} {w : World} {F1 H1 : Hp} {v : V} {ov : OV} {j : Nat} {f : Str} {p dx C : Addr} {fs : List (Str × OV)} {ws : List (Str × V)} (g : Got P w F H S F1 H1 σ S1 v ov) (hS : S1[j]? = some (some (.ins p dx C fs))) (hp : H1 p = some (.ins C dx ws)) (r : OwnF P w F1 H1 ws fs) :
    Stp P w F H S F1 (upd H1 p (.ins C dx (putF f v ws))) σ (S1.set j (some (.ins p dx C (putFd f ov fs)))) := by
  have st := g.st
  have hlt : j < S1.length := (List.getElem?_eq_some_iff.mp hS).1
  have fS : footAt S1 j = p :: dx :: footF fs := by rw [footAt_some hS, foot]
  have hpj : p ∈ footAt S1 j := by rw [fS]; simp
  have hF : F1 p = none := st.free p ⟨j, hpj⟩
  have nd := st.nd j
  rw [fS, List.nodup_cons, List.nodup_cons] at nd
  have hnew : ∀ b ∈ foot ov, b ≠ p ∧ b ≠ dx ∧ b ∉ footF fs := fun b hb => by
    have h := (g.new b hb).2
    refine ⟨fun z => h ⟨j, by rw [fS, z]; simp⟩, fun z => h ⟨j, by rw [fS, z]; simp⟩, fun z => h ⟨j, by rw [fS]; simp [z]⟩⟩
  have fj : footAt (S1.set j (some (.ins p dx C (putFd f ov fs)))) j = p :: dx :: footF (putFd f ov fs) := by rw [footAt_set hlt, foot]
  have fin : ∀ b, b ∈ footAt (S1.set j (some (.ins p dx C (putFd f ov fs)))) j → b ∈ footAt S1 j ∨ b ∈ foot ov := fun b hb => by
    rw [fj] at hb
    rw [fS]
    simp only [List.mem_cons] at hb ⊢
    rcases hb with rfl | rfl | hb
    · exact .inl (.inl rfl)
    · exact .inl (.inr (.inl rfl))
    · exact (putFd_mem hb).imp (fun z => .inr (.inr z)) id
  have hdx : dx ≠ p := fun z => nd.1 (by rw [z]; exact List.mem_cons_self ..)
  obtain ⟨v0, e0, o0⟩ := st.slot j _ hS
  refine ⟨⟨fun b z e => ?_, by rw [List.length_set]; exact st.len, fun i ou h => ?_, fun i => ?_, fun i l b hil h1 h2 => ?_, fun b ⟨i, h⟩ => ?_⟩, ?_, fun b ⟨i, h⟩ => ?_⟩
  · rw [upd_ne (fun q => by rw [q, hF] at e; cases e)]; exact st.same b z e
  · by_cases hij : j = i
    · subst hij
      rw [List.getElem?_set_self hlt] at h
      cases h
      cases o0 with
      | ins q1 q2 r0 =>
        refine ⟨_, e0, .ins upd_same (by rw [upd_ne hdx]; exact q2) (OwnF.put (g.own.keep (Same.refl _) fun b hb z e => by rw [upd_ne (hnew b hb).1]; exact e) (OwnF.keep (Same.refl _) r fun b hb z e => by rw [upd_ne (fun y => nd.1 (by rw [← y]; exact List.mem_cons_of_mem _ hb))]; exact e))⟩
    · rw [List.getElem?_set_ne hij] at h
      obtain ⟨x, g1, g2⟩ := st.slot i ou h
      refine ⟨x, g1, g2.keep (Same.refl _) fun b hb z e => ?_⟩
      rw [upd_ne (fun q => st.apart j i b hij (by rw [q]; exact hpj) (by rw [footAt_some h]; exact hb))]
      exact e
  · by_cases hij : j = i
    · subst hij
      rw [fj, List.nodup_cons, List.nodup_cons]
      refine ⟨fun z => ?_, fun z => ?_, putFd_nodup g.nd nd.2.2 fun b hb => (hnew b hb).2.2⟩
      · rcases List.mem_cons.mp z with z | z
        · exact hdx z.symm
        · rcases putFd_mem z with z | z
          · exact nd.1 (List.mem_cons_of_mem _ z)
          · exact (hnew p z).1 rfl
      · rcases putFd_mem z with z | z
        · exact nd.2.1 z
        · exact (hnew dx z).2.1 rfl
    · rw [footAt_ne hij]; exact st.nd i
  · by_cases hij : j = i
    · subst hij
      rw [footAt_ne hil] at h2
      rcases fin b h1 with z | z
      · exact st.apart j l b hil z h2
      · exact (g.new b z).2 ⟨l, h2⟩
    · rw [footAt_ne hij] at h1
      by_cases hjl : j = l
      · subst hjl
        rcases fin b h2 with z | z
        · exact st.apart i j b hil h1 z
        · exact (g.new b z).2 ⟨i, h1⟩
      · rw [footAt_ne hjl] at h2
        exact st.apart i l b hil h1 h2
  · by_cases hij : j = i
    · subst hij
      rcases fin b h with z | z
      · exact st.free b ⟨j, z⟩
      · exact (g.new b z).1
    · rw [footAt_ne hij] at h
      exact st.free b ⟨i, h⟩
  · refine g.aft.trans g.gr (B1 := inFeet S1) ⟨Same.refl _, fun _ _ _ _ => rfl, fun b z e nb => ?_, fun b z e => ?_⟩
    · rw [upd_ne (fun q => nb ⟨j, by rw [q]; exact hpj⟩)]; exact e
    · by_cases hb : b = p
      · exact ⟨_, by rw [hb]; exact upd_same⟩
      · exact ⟨z, by rw [upd_ne hb]; exact e⟩
  · by_cases hij : j = i
    · subst hij
      rcases fin b h with z | z
      · exact g.gr b ⟨j, z⟩
      · exact g.grv b z
    · rw [footAt_ne hij] at h
      exact g.gr b ⟨i, h⟩
/-- x.f = e, x in the slot j -/
theorem s_fldQ (j : Nat) {x f : Str} {D : AE} {p dx C : Addr} (cl : Cls X.K C) (na : NoAttr X.K C f) (h : EVQ X e S fun ov S' => ∃ fs : List (Str × OV), S'[j]? = some (some (.ins p dx C fs)) ∧ fs.length < 1000 ∧ D.nx (S'.set j (some (.ins p dx C (putFd f ov fs))))) (hN : X.N[j]? = some x := by rfl) (hv : Vis X.env.scope x := by first | exact Or.inl rfl | exact Or.inr (Or.inl rfl) | exact Or.inr (Or.inr rfl))
    (hd : (x == ("__debug__" : Str)) = false := by decide) (hcd : (x == ("__classdict__" : Str)) = false := by decide) (hs : swapsWith e (some (.Attribute (.Name x np) f pos')) pos.line X.env = pure false := by rfl) : SH.S1 X (.Assign [.Attribute (.Name x np) f pos'] e pos) S D := fun F H σ st D' kk => by
  refine (ps_fld (pe_var hN hv hd hcd) (peW X e) hs).wp ?_
  refine h F H σ st _ fun v ov F1 H1 S1 g r => ?_
  obtain ⟨fs, hS, hl, q⟩ := r
  obtain ⟨v0, e0, o0⟩ := g.st.slot j _ hS
  cases o0 with
  | @ins _ _ _ ws _ q1 q2 r =>
    refine ⟨_, e0, p, C, dx, ws, rfl, q1, cl, na, by rw [ownF_len r]; exact hl, ?_⟩
    exact kk.nx σ F1 _ _ (g.field hS q1 r) q
/-- .. a datum, the state stays -/
theorem s_fld (j : Nat) {x f : Str} {D : AE} {p dx C : Addr} {fs : List (Str × OV)} (cl : Cls X.K C) (na : NoAttr X.K C f) (h : Ev X e S d S1) (hS : S1[j]? = some (some (.ins p dx C fs))) (hl : fs.length < 1000) (q : D.nx (S1.set j (some (.ins p dx C (putFd f (.dat d) fs))))) (hN : X.N[j]? = some x := by rfl) (hv : Vis X.env.scope x := by first | exact Or.inl rfl | exact Or.inr (Or.inl rfl) | exact Or.inr (Or.inr rfl))
    (hd : (x == ("__debug__" : Str)) = false := by decide) (hcd : (x == ("__classdict__" : Str)) = false := by decide) (hs : swapsWith e (some (.Attribute (.Name x np) f pos')) pos.line X.env = pure false := by rfl) : SH.S1 X (.Assign [.Attribute (.Name x np) f pos'] e pos) S D :=
  s_fldQ (p := p) (dx := dx) j cl na (fun F H σ st Q k => h F H σ st Q fun v ov F1 H1 S2 g r => k v ov F1 H1 S2 g (by obtain ⟨rfl, rfl⟩ := r; exact ⟨fs, hS, hl, q⟩)) hN hv hd hcd hs
/-- .. a new object -/
theorem s_fldO (j : Nat) {x f : Str} {D : AE} {p dx C : Addr} {fs : List (Str × OV)} {mk : Addr → OV} (cl : Cls X.K C) (na : NoAttr X.K C f) (h : EvO X e S mk S1) (hS : S1[j]? = some (some (.ins p dx C fs))) (hl : fs.length < 1000) (q : ∀ a, D.nx (S1.set j (some (.ins p dx C (putFd f (mk a) fs))))) (hN : X.N[j]? = some x := by rfl) (hv : Vis X.env.scope x := by first | exact Or.inl rfl | exact Or.inr (Or.inl rfl) | exact Or.inr (Or.inr rfl))
    (hd : (x == ("__debug__" : Str)) = false := by decide) (hcd : (x == ("__classdict__" : Str)) = false := by decide) (hs : swapsWith e (some (.Attribute (.Name x np) f pos')) pos.line X.env = pure false := by rfl) : SH.S1 X (.Assign [.Attribute (.Name x np) f pos'] e pos) S D :=
  s_fldQ (p := p) (dx := dx) j cl na (fun F H σ st Q k => h F H σ st Q fun v ov F1 H1 S2 g r => k v ov F1 H1 S2 g (by obtain ⟨⟨a, rfl⟩, rfl⟩ := r; exact ⟨fs, hS, hl, q a⟩)) hN hv hd hcd hs
end
end SH
/-! SHs: methods and making. -/
namespace SH
open PySem PySem.Spec PyProof.Rows L2
def clsS (st : Stmt) (i : Nat) : Stmt := match st with
  | .ClassDef (body := b) .. => b.getD i (.Pass ⟨0, 0, 0, 0⟩)
  | _ => .Pass ⟨0, 0, 0, 0⟩
/-- a method that keeps a contract; n counts self -/
structure Fm (P : Program) (w : World) (K : PySem.W.Frag) (mg : Str → Option Value) (base : Heap) (C : Addr) (m : Str) (k n : Nat) (ct : Ct) : Prop where
  ex : ∃ (f : Addr) (fd : FuncData) (ps : List Str), FnOk P w K mg base CX0 k f fd ps (spC P w n ct) ∧ Binds K fd ps [] ∧ Meth K C m f
  mono : ∀ args Q Q', (∀ r a, Q r a → Q' r a) → ct args Q → ct args Q'
theorem Fm.up {P : Program} {w : World} {K : PySem.W.Frag} {mg : Str → Option Value} {base : Heap} {C : Addr} {x : Str} {j k n : Nat} {ct : Ct} (G : Fm P w K mg base C x j n ct) (h : j ≤ k) : Fm P w K mg base C x k n ct := by
  obtain ⟨⟨f, fd, ps, a, b⟩, m⟩ := G
  exact ⟨⟨f, fd, ps, a.mono h, b⟩, m⟩
/-- a class that is made by an __init__ of a contract -/
structure Fi (P : Program) (w : World) (K : PySem.W.Frag) (mg : Str → Option Value) (base : Heap) (C : Addr) (x : Str) (k n : Nat) (ct : Ct) : Prop where
  ex : ∃ (f : Addr) (fd : FuncData) (ps : List Str), FnOk P w K mg base CX0 k f fd ps (spC P w n ct) ∧ Binds K fd ps [] ∧ Mk K C f ∧ mg x = some (.ref C)
  mono : ∀ args Q Q', (∀ r a, Q r a → Q' r a) → ct args Q → ct args Q'
theorem Fi.up {P : Program} {w : World} {K : PySem.W.Frag} {mg : Str → Option Value} {base : Heap} {C : Addr} {x : Str} {j k n : Nat} {ct : Ct} (G : Fi P w K mg base C x j n ct) (h : j ≤ k) : Fi P w K mg base C x k n ct := by
  obtain ⟨⟨f, fd, ps, a, b⟩, m⟩ := G
  exact ⟨⟨f, fd, ps, a.mono h, b⟩, m⟩
section
variable {X : Cx} {S S1 S2 : ASt} {e : Expr} {es : List Expr} {d : PyData} {ars : List Ar} {pos apos p np : Pos} {x m : Str} {k n : Nat} {ct : Ct} {C : Addr}
/-- x.m(..), x in the slot i -/
theorem evq_meth {R : OV → ASt → Prop} (i : Nat) {q dx : Addr} {fs : List (Str × OV)} {pl : Sem Bool} (cl : Cls X.K C) (G : Fm X.prog X.w X.K X.mg X.base C m k n ct) (hr : Room k X.A) (hS0 : S[i]? = some (some (.ins q dx C fs))) (hm : fs.lookup m = none) (ha : EvAB X (e :: es) S ars S1) (hS1 : S1[i]? = some (some (.ins q dx C fs)))
    (hc : ct ((Ar.b i :: ars).map (arOV S1)) fun r args' => R r (putBack S1 (.b i :: ars) args')) (hn : (Ar.b i :: ars).length = n := by rfl) (nd : (slotsOf (Ar.b i :: ars)).Nodup := by simp [slotsOf])
    (hb : ∀ j ∈ slotsOf (Ar.b i :: ars), ∃ ov, S1[j]? = some (some ov) := by simp [slotsOf]) (hN : X.N[i]? = some x := by rfl) (hv : Vis X.env.scope x := by first | exact Or.inl rfl | exact Or.inr (Or.inl rfl) | exact Or.inr (Or.inr rfl))
    (hd : (x == ("__debug__" : Str)) = false := by decide) (hcd : (x == ("__classdict__" : Str)) = false := by decide)
    (he : starEach (e :: es) X.env = (false, eval e X.env) :: starEach es X.env := by exact star_plain rfl) (hpl : (backTo pos (starEach es X.env)).any (·.1) = false := by exact back_plain rfl)
    (ht : eval (.Call (.Attribute (.Name x np) m apos) (e :: es) [] pos) X.env = (do
      let ov ← eval (.Name x np) X.env
      standAt apos.atName
      let (f, first) ← holding [ov] (getMethod ov m pl)
      callWith pos f first (backTo pos (starEach (e :: es) X.env)) (backToKw pos (keywordEach [] X.env))) := by rfl) : EVQ X (.Call (.Attribute (.Name x np) m apos) (e :: es) [] pos) S R := fun F H σ st Q qq => by
  obtain ⟨⟨f, fd, ps, hF, hB, hM⟩, mono⟩ := G
  refine (pe_meth (pe_var hN hv hd hcd) cl hM hF hr hB .nil pass0 (paW X (e :: es)) he hpl ht).wp ?_
  obtain ⟨v, e1, o1⟩ := st.slot i _ hS0
  cases o1 with
  | ins q1 q2 r =>
    refine ⟨_, e1, q, dx, _, rfl, q1, ownF_none r hm, ?_⟩
    refine ha F H σ st _ fun vs F1 H1 p1 rel => ?_
    rw [List.append_nil]
    have rel' : ArRel F1 σ (V.ref q :: vs) (Ar.b i :: ars) := .cons e1 rel
    refine ⟨F1, (Ar.b i :: ars).map (arOV S1), by rw [Paired.length rel']; exact hn, p1.st.ars rel' nd hb, mono _ _ _ (fun r a h v F' H' g => ?_) hc⟩
    exact qq v r F' H' _ (.thn p1 (.back p1.st rel' nd hb g)) h
theorem evq_meth0 {R : OV → ASt → Prop} (i : Nat) {q dx : Addr} {fs : List (Str × OV)} {pl : Sem Bool} (cl : Cls X.K C) (G : Fm X.prog X.w X.K X.mg X.base C m k 1 ct) (hr : Room k X.A) (hS0 : S[i]? = some (some (.ins q dx C fs))) (hm : fs.lookup m = none)
    (hc : ct [.ins q dx C fs] fun r args' => ∃ a, args' = [a] ∧ R r (S.set i (some a))) (hN : X.N[i]? = some x := by rfl) (hv : Vis X.env.scope x := by first | exact Or.inl rfl | exact Or.inr (Or.inl rfl) | exact Or.inr (Or.inr rfl))
    (hd : (x == ("__debug__" : Str)) = false := by decide) (hcd : (x == ("__classdict__" : Str)) = false := by decide)
    (ht : eval (.Call (.Attribute (.Name x np) m apos) [] [] pos) X.env = (do
      let ov ← eval (.Name x np) X.env
      standAt apos.atName
      let (f, first) ← holding [ov] (getMethod ov m pl)
      callWith pos f first (backTo pos (starEach [] X.env)) (backToKw pos (keywordEach [] X.env))) := by rfl) : EVQ X (.Call (.Attribute (.Name x np) m apos) [] [] pos) S R := fun F H σ st Q qq => by
  obtain ⟨⟨f, fd, ps, hF, hB, hM⟩, mono⟩ := G
  refine (pe_meth0 (pe_var hN hv hd hcd) cl hM hF hr hB .nil pass0 ht).wp ?_
  obtain ⟨v, e1, o1⟩ := st.slot i _ hS0
  cases o1 with
  | ins q1 q2 r =>
    refine ⟨_, e1, q, dx, _, rfl, q1, ownF_none r hm, ?_⟩
    have rel' : ArRel F σ [V.ref q] [Ar.b i] := .cons e1 .nil
    have hA : ([Ar.b i].map (arOV S)) = [.ins q dx C fs] := by rw [List.map_cons, List.map_nil, arOV_b hS0]
    have hb : ∀ j ∈ slotsOf [Ar.b i], ∃ ov, S[j]? = some (some ov) := fun j hj => by
      simp only [slotsOf, List.mem_singleton] at hj
      subst hj; exact ⟨_, hS0⟩
    refine ⟨F, [.ins q dx C fs], rfl, ?_, mono _ _ _ (fun r a h v F' H' g => ?_) hc⟩
    · have := st.ars rel' (by simp [slotsOf]) hb
      rw [hA] at this; exact this
    · obtain ⟨a', rfl, hR⟩ := h
      rw [← hA] at g
      exact qq v r F' H' _ (.back st rel' (by simp [slotsOf]) hb g) hR
/-- C(..), the arguments data -/
theorem evq_make {R : OV → ASt → Prop} {ds : List PyData} (G : Fi X.prog X.w X.K X.mg X.base C x k n ct) (hr : Room (k + 1) X.A) (ha : EvA X (e :: es) S ds S1)
    (hc : ∀ q dx, ct (.ins q dx C [] :: ds.map .dat) fun r args' => r = .dat .none ∧ ∃ fs, args' = .ins q dx C fs :: ds.map .dat ∧ R (.ins q dx C fs) S1) (hn : ds.length + 1 = n := by rfl)
    (hg : Gl X x := by rfl) (hdb : (x == ("__debug__" : Str)) = false := by decide)
    (he : starEach (e :: es) X.env = (false, eval e X.env) :: starEach es X.env := by exact star_plain rfl) (hpl : (backTo pos (starEach es X.env)).any (·.1) = false := by exact back_plain rfl) : EVQ X (.Call (.Name x np) (e :: es) [] pos) S R := fun F H σ st Q qq => by
  obtain ⟨⟨f, fd, ps, hF, hB, hM, hmg⟩, mono⟩ := G
  refine (pe_make hM hF hr hg hmg hB .nil pass0 (paW X (e :: es)) hdb he hpl).wp ?_
  refine ha F H σ st _ fun vs F1 H1 p1 w1 => ?_
  intro q dx hq hdx hne
  rw [List.append_nil]
  have st1 := p1.st
  have f1 := st1.fnone hq
  have f2 := st1.fnone hdx
  have hH : ∀ b o, H1 b = some o → upd (upd H1 dx (.own q)) q (.ins C dx []) b = some o := fun b o eb => by
    rw [upd_ne (ne_new hq eb), upd_ne (ne_new hdx eb)]; exact eb
  have sm : Same F1 (upd (upd H1 dx (.own q)) q (.ins C dx [])) := fun b o eb => hH b o (st1.same b o eb)
  have fa : ∀ i b, b ∈ footAt (args0 (OV.ins q dx C [] :: ds.map .dat)) i → i = 0 ∧ (b = q ∨ b = dx) := fun i b hb => by
    cases i with
    | zero => simpa [footAt, foot, footF] using hb
    | succ i =>
      obtain ⟨ov, e1, h2⟩ := StOk.some_of_foot hb
      rw [List.getElem?_map, List.getElem?_cons_succ, List.getElem?_map] at e1
      cases h3 : ds[i]? with
      | none => rw [h3] at e1; cases e1
      | some d => rw [h3] at e1; cases e1; simp [foot] at h2
  have feet : ∀ b, inFeet (args0 (OV.ins q dx C [] :: ds.map .dat)) b → b = q ∨ b = dx := fun b ⟨i, h⟩ => (fa i b h).2
  refine ⟨F1, .ins q dx C [] :: ds.map .dat, by rw [List.length_cons, w1.length]; exact hn, ⟨sm, ?_, fun i ov eo => ?_, fun i => ?_, fun i j b hij h1 h2 => ?_, fun b hb => ?_⟩, mono _ _ _ (fun r a h v F' H' g => ?_) (hc q dx)⟩
  · simp [w1.length]
  · cases i with
    | zero =>
      cases eo
      exact ⟨_, rfl, .ins upd_same (by rw [upd_ne hne]; exact upd_same) .nil⟩
    | succ i =>
      rw [List.getElem?_map, List.getElem?_cons_succ, List.getElem?_map] at eo
      cases h3 : ds[i]? with
      | none => rw [h3] at eo; cases eo
      | some d =>
        rw [h3] at eo; cases eo
        obtain ⟨v, hv, wv⟩ := w1.get h3
        exact ⟨v, by rw [List.getElem?_map, List.getElem?_cons_succ, hv]; rfl, .dat wv⟩
  · cases i with
    | zero =>
      show (foot (OV.ins q dx C [])).Nodup
      simp [foot, footF, Ne.symm hne]
    | succ i =>
      cases h : footAt (args0 (OV.ins q dx C [] :: ds.map .dat)) (i + 1) with
      | nil => exact .nil
      | cons b r => exact absurd (fa (i + 1) b (by rw [h]; exact List.mem_cons_self ..)).1 (by simp)
  · have := (fa i b h1).1
    have := (fa j b h2).1
    exact hij (by omega)
  · rcases feet b hb with rfl | rfl
    · exact f1
    · exact f2
  · obtain ⟨rfl, fs, rfl, hR⟩ := h
    have hvn : v = .non := by
      have o := g.own
      cases o with
      | dat z => cases z; rfl
    refine ⟨hvn, ?_⟩
    obtain ⟨u, e1, o1⟩ := g.st.slot 0 (.ins q dx C fs) rfl
    have hu : u = .ref q := o1.root rfl
    subst hu
    have f0 : footAt (args0 (OV.ins q dx C fs :: ds.map .dat)) 0 = foot (.ins q dx C fs) := rfl
    have outS : ∀ b, inFeet S1 b → ¬ inFeet (args0 (OV.ins q dx C [] :: ds.map .dat)) b := fun b hb z => by
      obtain ⟨o, eo⟩ := st1.foot_tracked hb
      rcases feet b z with rfl | rfl
      · rw [hq] at eo; cases eo
      · rw [hdx] at eo; cases eo
    have newS : ∀ b ∈ foot (OV.ins q dx C fs), ¬ inFeet S1 b := fun b hb z => by
      rcases g.gr b ⟨0, hb⟩ with y | y
      · exact outS b z y
      · obtain ⟨o, eo⟩ := st1.foot_tracked z
        rw [hH b o eo] at y; cases y
    have far : ∀ b o, H1 b = some o → ¬ inFeet (args0 (OV.ins q dx C [] :: ds.map .dat)) b := fun b o eb z => by
      rcases feet b z with rfl | rfl
      · rw [hq] at eb; cases eb
      · rw [hdx] at eb; cases eb
    have aft1 : Aft F1 H1 (inFeet S1) F' H' := ⟨g.aft.ff, fun b o eb nb => g.aft.nf b o (hH b o eb) (far b o eb), fun b o eb nb => g.aft.kp b o (hH b o eb) (far b o eb), fun b o eb => g.aft.tr b o (hH b o eb)⟩
    refine qq _ (.ins q dx C fs) F' H' S1 ⟨st1.keep g.aft.ff g.st.same (fun b hb => ?_) (fun b o hb eb => g.aft.kp b o (hH b o eb) (outS b hb)), o1, by rw [← f0]; exact g.st.nd 0, fun b hb => ⟨g.st.free b ⟨0, hb⟩, newS b hb⟩, p1.aft.trans p1.gr aft1, p1.gr, fun b hb => ?_⟩ hR
    · obtain ⟨o, eo⟩ := st1.foot_tracked hb
      rw [g.aft.nf b o (hH b o eo) (outS b hb)]
      exact st1.free b hb
    · right
      cases z : H b with
      | none => rfl
      | some o =>
        obtain ⟨o', eo'⟩ := p1.aft.tr b o z
        rcases g.gr b ⟨0, hb⟩ with y | y
        · rcases feet b y with rfl | rfl
          · rw [hq] at eo'; cases eo'
          · rw [hdx] at eo'; cases eo'
        · rw [hH b o' eo'] at y; cases y
end
end SH
/-! SHu: dicts of lists, in an instance. -/
namespace SH
open PySem PySem.Spec PyProof.Rows L2
section
variable {X : Cx} {F H F1 H1 : Hp} {σ : L2.St} {S S1 : ASt} {v : V} {ov : OV}
/-- a new thing goes into an owned object, which changes at p' -/
theorem Got.into {P : Program} {w : World} {j : Nat} {o o' : OV} {p' : Addr} {u : HO} (g : Got P w F H S F1 H1 σ S1 v ov) (hS : S1[j]? = some (some o)) (hp : p' ∈ foot o) (hsub : ∀ b ∈ foot o', b ∈ foot o ∨ b ∈ foot ov) (hnd : (foot o').Nodup) (own : ∀ z, Own P w F1 H1 z o → Own P w F1 (upd H1 p' u) z o') :
    Stp P w F H S F1 (upd H1 p' u) σ (S1.set j (some o')) := by
  have st := g.st
  have hlt : j < S1.length := (List.getElem?_eq_some_iff.mp hS).1
  have hpj : p' ∈ footAt S1 j := by rw [footAt_some hS]; exact hp
  have hF : F1 p' = none := st.free p' ⟨j, hpj⟩
  have fin : ∀ b, b ∈ footAt (S1.set j (some o')) j → b ∈ footAt S1 j ∨ b ∈ foot ov := fun b hb => by
    rw [footAt_set hlt] at hb
    rw [footAt_some hS]
    exact hsub b hb
  obtain ⟨v0, e0, o0⟩ := st.slot j _ hS
  refine ⟨⟨fun b z e => ?_, by rw [List.length_set]; exact st.len, fun i ou h => ?_, fun i => ?_, fun i l b hil h1 h2 => ?_, fun b ⟨i, h⟩ => ?_⟩, ?_, fun b ⟨i, h⟩ => ?_⟩
  · rw [upd_ne (fun q => by rw [q, hF] at e; cases e)]; exact st.same b z e
  · by_cases hij : j = i
    · subst hij
      rw [List.getElem?_set_self hlt] at h
      cases h
      exact ⟨_, e0, own _ o0⟩
    · rw [List.getElem?_set_ne hij] at h
      obtain ⟨x, g1, g2⟩ := st.slot i ou h
      refine ⟨x, g1, g2.keep (Same.refl _) fun b hb z e => ?_⟩
      rw [upd_ne (fun q => st.apart j i b hij (by rw [q]; exact hpj) (by rw [footAt_some h]; exact hb))]
      exact e
  · by_cases hij : j = i
    · subst hij; rw [footAt_set hlt]; exact hnd
    · rw [footAt_ne hij]; exact st.nd i
  · by_cases hij : j = i
    · subst hij
      rw [footAt_ne hil] at h2
      rcases fin b h1 with z | z
      · exact st.apart j l b hil z h2
      · exact (g.new b z).2 ⟨l, h2⟩
    · rw [footAt_ne hij] at h1
      by_cases hjl : j = l
      · subst hjl
        rcases fin b h2 with z | z
        · exact st.apart i j b hil h1 z
        · exact (g.new b z).2 ⟨i, h1⟩
      · rw [footAt_ne hjl] at h2
        exact st.apart i l b hil h1 h2
  · by_cases hij : j = i
    · subst hij
      rcases fin b h with z | z
      · exact st.free b ⟨j, z⟩
      · exact (g.new b z).1
    · rw [footAt_ne hij] at h
      exact st.free b ⟨i, h⟩
  · refine g.aft.trans g.gr (B1 := inFeet S1) ⟨Same.refl _, fun _ _ _ _ => rfl, fun b z e nb => ?_, fun b z e => ?_⟩
    · rw [upd_ne (fun q => nb ⟨j, by rw [q]; exact hpj⟩)]; exact e
    · by_cases hb : b = p'
      · exact ⟨_, by rw [hb]; exact upd_same⟩
      · exact ⟨z, by rw [upd_ne hb]; exact e⟩
  · by_cases hij : j = i
    · subst hij
      rcases fin b h with z | z
      · exact g.gr b ⟨j, z⟩
      · exact g.grv b z
    · rw [footAt_ne hij] at h
      exact g.gr b ⟨i, h⟩
theorem footF_sub {f : Str} {o o' : OV} {N : List Addr} (hs : ∀ b ∈ foot o', b ∈ foot o ∨ b ∈ N) : ∀ {fs : List (Str × OV)} {i : Nat}, fs[i]? = some (f, o) → ∀ b ∈ footF (fs.set i (f, o')), b ∈ footF fs ∨ b ∈ N
  | [], _, h, _, _ => by simp at h
  | (g, u) :: r, 0, h, b, hb => by
    simp only [List.getElem?_cons_zero, Option.some.injEq, Prod.mk.injEq] at h
    obtain ⟨rfl, rfl⟩ := h
    simp only [List.set_cons_zero, footF, List.mem_append] at hb ⊢
    rcases hb with hb | hb
    · exact (hs b hb).imp .inl id
    · exact .inl (.inr hb)
  | (g, u) :: r, i + 1, h, b, hb => by
    have h' : r[i]? = some (f, o) := by simpa using h
    simp only [List.set_cons_succ, footF, List.mem_append] at hb ⊢
    rcases hb with hb | hb
    · exact .inl (.inl hb)
    · exact (footF_sub hs h' b hb).imp .inr id
theorem footF_nd {f : Str} {o o' : OV} {N : List Addr} (hs : ∀ b ∈ foot o', b ∈ foot o ∨ b ∈ N) (hn : (foot o').Nodup) : ∀ {fs : List (Str × OV)} {i : Nat}, fs[i]? = some (f, o) → (footF fs).Nodup → (∀ b ∈ N, b ∉ footF fs) → (footF (fs.set i (f, o'))).Nodup
  | [], _, h, _, _ => by simp at h
  | (g, u) :: r, 0, h, nd, hx => by
    simp only [List.getElem?_cons_zero, Option.some.injEq, Prod.mk.injEq] at h
    obtain ⟨rfl, rfl⟩ := h
    simp only [List.set_cons_zero, footF] at nd hx ⊢
    rw [List.nodup_append] at nd ⊢
    refine ⟨hn, nd.2.1, fun a ha b hb e => ?_⟩
    rcases hs a ha with z | z
    · exact nd.2.2 a z b hb e
    · exact hx a z (List.mem_append_right _ (e ▸ hb))
  | (g, u) :: r, i + 1, h, nd, hx => by
    have h' : r[i]? = some (f, o) := by simpa using h
    simp only [List.set_cons_succ, footF] at nd hx ⊢
    rw [List.nodup_append] at nd ⊢
    refine ⟨nd.1, footF_nd hs hn h' nd.2.1 fun b hb z => hx b hb (List.mem_append_right _ z), fun a ha b hb e => ?_⟩
    rcases footF_sub hs h' b hb with z | z
    · exact nd.2.2 a ha b z e
    · exact hx b z (List.mem_append_left _ (e ▸ ha))
theorem pairS1 {α β : Type} {R : α → β → Prop} {a : α} {b : β} (r : R a b) {as : List α} {bs : List β} (h : Paired R as bs) : Paired R (as ++ [a]) (bs ++ [b]) := by
  induction h with
  | nil => exact .cons r .nil
  | cons q _ ih => exact .cons q ih
abbrev LKv := NestedKey × Addr × List PyData
theorem entL_eq {F H : Hp} (a : LKv) (b : Ent) (h : EntLOk F H a b) : a.1 = b.1 := h.1
theorem keysL_of {F H : Hp} {kvs : List LKv} {xs : List Ent} (h : Paired (EntLOk F H) kvs xs) : KeysOk F xs := by
  induction h with
  | nil => intro x hx; cases hx
  | cons r _ ih =>
    intro x hx
    rcases List.mem_cons.mp hx with rfl | hx
    · exact ⟨r.2.1, r.2.2.1⟩
    · exact ih x hx
theorem own_dL {p : Addr} {kvs : List LKv} {v : V} (o : XOwn X F H v (.dL p kvs)) : v = .ref p ∧ ∃ xs, TabAt X.prog X.w H p xs ∧ Paired (EntLOk F H) kvs xs := by
  cases o with
  | dL q r => exact ⟨rfl, _, q, r⟩
end
section
variable {X : Cx} {F H : Hp} {σ : L2.St} {S S1 : ASt} {e i : Expr} {d : PyData} {pos pos' ap np : Pos} {p : Addr} {kvs : List LKv} {k : NestedKey}
/-- x.f[k] = [], x in the slot j, k new -/
theorem s_setL (j m : Nat) {x f : Str} {D : AE} {q dx C : Addr} {fs : List (Str × OV)} {lp : Pos} (hu : X.A.units + 64 < cLine) (cl : Cls X.K C) (na : NoAttr X.K C f) (hS : S[j]? = some (some (.ins q dx C fs))) (hf : fs[m]? = some (f, .dL p kvs)) (hlk : fs.lookup f = some (.dL p kvs)) (hi : Ev X i S k.data S) (hnew : nget kvs k = none) (tk : isTup k = true) (dep : k.depth ≤ 8) (hz : kvs.length < sizeLine)
    (hq : ∀ a, D.nx (S.set j (some (.ins q dx C (fs.set m (f, .dL p (kvs ++ [(k, a, [])]))))))) (hN : X.N[j]? = some x := by rfl) (hv : Vis X.env.scope x := by first | exact Or.inl rfl | exact Or.inr (Or.inl rfl) | exact Or.inr (Or.inr rfl))
    (hd : (x == ("__debug__" : Str)) = false := by decide) (hcd : (x == ("__classdict__" : Str)) = false := by decide) (hb : attributeBase (.Name x np) f X.env (eval (.Name x np) X.env) = eval (.Name x np) X.env := by rfl)
    (hs : swapsWith (.List [] lp) (some (.Subscript (.Attribute (.Name x np) f ap) i pos')) pos.line X.env = pure false := by rfl) : SH.S1 X (.Assign [.Subscript (.Attribute (.Name x np) f ap) i pos'] (.List [] lp) pos) S D := fun F H σ st D' kk => by
  refine (ps_setN hu (pe_fld (pe_var hN hv hd hcd) hb) (peW X i) (pe_lst pa_nil) hs).wp ?_
  refine ⟨Nat.zero_le _, fun a ha => ?_⟩
  have g : Got X.prog X.w F H S F (upd H a (.lst [])) σ S (.ref a) (.lst a []) := Got.made (.refl st) ha rfl (.lst upd_same .nil)
  obtain ⟨v0, e0, o0⟩ := g.st.slot j _ hS
  cases o0 with
  | @ins _ _ _ ws _ q1 q2 r =>
    obtain ⟨u, h1, h2⟩ := lookup_own r hlk
    refine ⟨_, e0, q, C, dx, ws, u, rfl, q1, cl, na, h1, ?_⟩
    refine hi.use g.st fun y F3 H3 p3 w3 => ?_
    obtain ⟨y, rfl⟩ := da_ref w3 tk
    obtain ⟨rfl, _⟩ := own_dL h2
    -- the new list behind the key
    have hal : (upd H a (.lst [])) a = some (.lst []) := upd_same
    have naS : ¬ inFeet S a := st.new_free ha
    have hal3 : H3 a = some (.lst []) := p3.aft.kp a _ hal naS
    have haF3 : F3 a = none := by rw [p3.aft.nf a _ hal naS]; exact st.fnone ha
    have naS3 : ¬ inFeet S a := naS
    have g3 : Got X.prog X.w F H S F3 H3 σ S (.ref a) (.lst a []) := by
      have pp := g.stp.thn p3
      refine ⟨pp.st, .lst hal3 .nil, by simp [foot], fun b hb => ?_, pp.aft, pp.gr, fun b hb => ?_⟩
      · simp only [foot, List.mem_singleton] at hb; subst hb; exact ⟨haF3, naS⟩
      · simp only [foot, List.mem_singleton] at hb; subst hb; exact .inr ha
    obtain ⟨v4, e4, o4⟩ := g3.st.slot j _ hS
    have hmem := List.mem_of_getElem? hf
    have hpf : p ∈ foot (OV.ins q dx C fs) := by simp only [foot]; exact List.mem_cons_of_mem _ (List.mem_cons_of_mem _ (footF_mem (by simp [foot]) hmem))
    have ndj := g3.st.nd j
    rw [footAt_some hS] at ndj
    simp only [foot] at ndj
    rw [List.nodup_cons, List.nodup_cons] at ndj
    have hna : a ∉ foot (OV.ins q dx C fs) := fun z => naS ⟨j, by rw [footAt_some hS]; exact z⟩
    simp only [foot, List.mem_cons, not_or] at hna
    have hsub : ∀ b ∈ foot (OV.dL p (kvs ++ [(k, a, [])])), b ∈ foot (OV.dL p kvs) ∨ b ∈ [a] := fun b hb => by
      simp only [foot, List.map_append, List.map_cons, List.map_nil, List.mem_cons, List.mem_append, List.not_mem_nil, or_false] at hb ⊢
      rcases hb with hb | hb | hb
      · exact .inl (.inl hb)
      · exact .inl (.inr hb)
      · exact .inr hb
    cases o4 with
    | @ins _ _ _ ws4 _ z1 z2 r4 =>
      obtain ⟨u4, h14, h24⟩ := r4.mem hmem
      obtain ⟨rfl, xs, t, pr⟩ := own_dL h24
      have hnk : atKey xs k = none := by
        rcases nget_at entL_eq k pr with ⟨_, h⟩ | ⟨_, _, _, h, _⟩
        · exact h
        · rw [hnew] at h; cases h
      refine ⟨y, p, xs, k, rfl, rfl, ⟨t, (keysL_of pr).mono g3.st.same, Da.mono g3.st.same _ _ w3, dep⟩, fun u ru => ?_⟩
      have hu' : u = Value.ref a := ru
      subst hu'
      have ndL : (foot (OV.dL p kvs)).Nodup := by
        have : ∀ {l : List (Str × OV)}, (footF l).Nodup → (f, OV.dL p kvs) ∈ l → (foot (OV.dL p kvs)).Nodup := fun {l} => by
          induction l with
          | nil => intro _ h; cases h
          | cons c r ih =>
            intro nd h
            simp only [footF] at nd
            rw [List.nodup_append] at nd
            rcases List.mem_cons.mp h with rfl | h
            · exact nd.1
            · exact ih nd.2.1 h
        exact this ndj.2.2 hmem
      have haL : a ∉ foot (OV.dL p kvs) := fun z => hna.2.2 (footF_mem z hmem)
      have ndL' : (foot (OV.dL p (kvs ++ [(k, a, [])]))).Nodup := by
        simp only [foot, List.map_append, List.map_cons, List.map_nil] at ndL haL ⊢
        rw [List.nodup_cons] at ndL ⊢
        rw [List.mem_cons, not_or] at haL
        refine ⟨fun z => ?_, ?_⟩
        · rcases List.mem_append.mp z with z | z
          · exact ndL.1 z
          · exact haL.1 (List.mem_singleton.mp z).symm
        · rw [List.nodup_append]
          exact ⟨ndL.2, by simp, fun b hb c hc e => by simp only [List.mem_singleton] at hc; subst hc e; exact haL.2 hb⟩
      have hown : XOwn X F3 (tabPut X.prog X.w H3 p xs k y (Value.ref a)) (.ref p) (.dL p (kvs ++ [(k, a, [])])) := by
        unfold tabPut
        rw [storedH_new hnk]
        have hap : a ≠ p := fun z => haL (by rw [z]; simp [foot])
        have hkl := Paired.length pr
        refine .dL (xs := xs ++ [(k, y, Value.ref a)]) ⟨upd_same, t.sys, ?_, ?_⟩ ?_
        · rw [List.length_append, List.length_singleton]; omega
        · have := stored_nodup (k := k) (a := y) (u := Value.ref a) t.nd
          rw [storedH_new hnk] at this; exact this
        · have npk : ∀ b ∈ kvs.map (·.2.1), b ≠ p := fun b hb z => by
            simp only [foot] at ndL
            rw [List.nodup_cons] at ndL
            exact ndL.1 (z ▸ hb)
          exact pairS1 ⟨rfl, dep, w3, rfl, [], by rw [upd_ne hap]; exact hal3, .nil⟩ (pairedEntL (Same.refl _) pr fun b hb o eo => by rw [upd_ne (npk b hb)]; exact eo)
      refine kk.nx σ F3 _ _ (g3.into hS hpf (o' := .ins q dx C (fs.set m (f, .dL p (kvs ++ [(k, a, [])])))) (fun b hb => ?_) ?_ fun z oz => ?_) (hq a)
      · simp only [foot, List.mem_cons] at hb ⊢
        rcases hb with hb | hb | hb
        · exact .inl (.inl hb)
        · exact .inl (.inr (.inl hb))
        · rcases footF_sub hsub hf b hb with z | z
          · exact .inl (.inr (.inr z))
          · exact .inr (List.mem_singleton.mp z ▸ .inl rfl)
      · simp only [foot]
        rw [List.nodup_cons, List.nodup_cons]
        refine ⟨fun z => ?_, fun z => ?_, footF_nd hsub ndL' hf ndj.2.2 fun b hb => by simp only [List.mem_singleton] at hb; subst hb; exact hna.2.2⟩
        · rcases List.mem_cons.mp z with z | z
          · exact ndj.1 (by rw [z]; exact List.mem_cons_self ..)
          · rcases footF_sub hsub hf q z with z | z
            · exact ndj.1 (List.mem_cons_of_mem _ z)
            · exact hna.1 (List.mem_singleton.mp z).symm
        · rcases footF_sub hsub hf dx z with z | z
          · exact ndj.2.1 z
          · exact hna.2.1 (List.mem_singleton.mp z).symm
      · cases oz with
        | ins y1 y2 ry =>
          have hqp : q ≠ p := fun z => ndj.1 (by rw [z]; exact List.mem_cons_of_mem _ (footF_mem (by simp [foot]) hmem))
          have hdp : dx ≠ p := fun z => ndj.2.1 (by rw [z]; exact footF_mem (by simp [foot]) hmem)
          refine .ins (by rw [upd_ne hqp]; exact y1) (by rw [upd_ne hdp]; exact y2) (OwnF.poke (by simp [foot]) (fun v5 o5 => ?_) ry hf ndj.2.2)
          obtain ⟨rfl, xs5, t5, pr5⟩ := own_dL o5
          exact hown
/-- an item more in the list behind a key -/
def lput (kvs : List LKv) (k : NestedKey) (d : PyData) : List LKv := kvs.map fun x => if x.1 = k then (x.1, x.2.1, x.2.2 ++ [d]) else x
theorem lput_addr (kvs : List LKv) (k : NestedKey) (d : PyData) : (lput kvs k d).map (·.2.1) = kvs.map (·.2.1) := by
  unfold lput
  rw [List.map_map]
  refine List.map_congr_left fun x _ => ?_
  show (if x.1 = k then (x.1, x.2.1, x.2.2 ++ [d]) else x).2.1 = x.2.1
  split <;> rfl
theorem lput_keys (kvs : List LKv) (k : NestedKey) (d : PyData) : (lput kvs k d).map (·.1) = kvs.map (·.1) := by
  unfold lput
  rw [List.map_map]
  refine List.map_congr_left fun x _ => ?_
  show (if x.1 = k then (x.1, x.2.1, x.2.2 ++ [d]) else x).1 = x.1
  split <;> rfl
theorem lput_out {kvs : List LKv} {k : NestedKey} {d : PyData} (h : k ∉ kvs.map (·.1)) : lput kvs k d = kvs := by
  unfold lput
  conv => rhs; rw [← List.map_id kvs]
  refine List.map_congr_left fun x hx => ?_
  have hx2 : ¬ x.1 = k := fun e => h (by rw [← e]; exact List.mem_map.mpr ⟨x, hx, rfl⟩)
  rw [if_neg hx2]; rfl
theorem pairL_app {F H : Hp} {k : NestedKey} {a : Addr} {ds : List PyData} {us : List V} {v : V} {d : PyData} (wu : Das F us ds) (wv : Da F v d) : ∀ {kvs : List LKv} {xs : List Ent}, Paired (EntLOk F H) kvs xs → (kvs.map (·.1)).Nodup → (kvs.map (·.2.1)).Nodup → nget kvs k = some (a, ds) → Paired (EntLOk F (upd H a (.lst (us ++ [v])))) (lput kvs k d) xs
  | _, _, .nil, _, _, h => by cases h
  | (k', a', ds') :: kvs, x :: xs, .cons r rs, n1, n2, h => by
    rw [List.map_cons, List.nodup_cons] at n1 n2
    obtain ⟨r1, r2, r3, r4, vs, r5, r6⟩ := r
    by_cases e : k' = k
    · subst e
      have h' : some (a', ds') = some (a, ds) := by simpa [nget] using h
      cases h'
      have ho : lput kvs k' d = kvs := lput_out n1.1
      show Paired _ ((if k' = k' then (k', a, ds ++ [d]) else (k', a, ds)) :: lput kvs k' d) (x :: xs)
      rw [if_pos rfl, ho]
      refine .cons ⟨r1, r2, r3, r4, us ++ [v], upd_same, wu.append (.cons wv .nil)⟩ (pairedEntL (Same.refl _) rs fun b hb o eo => ?_)
      have hne : b ≠ a := fun z => n2.1 (by rw [← z]; exact hb)
      rw [upd_ne hne]; exact eo
    · have h' : nget kvs k = some (a, ds) := by
        unfold nget at h ⊢
        rw [List.find?_cons_of_neg (by simpa using e)] at h
        exact h
      have hmem : a ∈ kvs.map (·.2.1) := by
        unfold nget at h'
        obtain ⟨y, hy, ey⟩ := Option.map_eq_some_iff.mp h'
        exact List.mem_map.mpr ⟨y, List.mem_of_find?_eq_some hy, by rw [ey]⟩
      show Paired _ ((if k' = k then (k', a', ds' ++ [d]) else (k', a', ds')) :: lput kvs k d) (x :: xs)
      rw [if_neg e]
      refine .cons ⟨r1, r2, r3, r4, vs, ?_, r6⟩ (pairL_app wu wv rs n1.2 n2.2 h')
      have r5' : H a' = some (.lst vs) := r5
      show upd H a (.lst (us ++ [v])) a' = _
      have hne : a' ≠ a := fun z => n2.1 (by show a' ∈ _; rw [z]; exact hmem)
      rw [upd_ne hne]; exact r5'
/-- x.f[k].append(e), x in the slot j, k there -/
theorem ev_appendL (j m : Nat) {x f : Str} {q dx C : Addr} {fs : List (Str × OV)} {a : Addr} {ds : List PyData} {sp apos cpos : Pos} (hu : X.A.units + 64 < cLine) (cl : Cls X.K C) (na : NoAttr X.K C f) (hS : S[j]? = some (some (.ins q dx C fs))) (hf : fs[m]? = some (f, .dL p kvs)) (hlk : fs.lookup f = some (.dL p kvs)) (hi : Ev X i S k.data S) (he : Ev X e S d S) (hg : nget kvs k = some (a, ds)) (tk : isTup k = true) (dep : k.depth ≤ 8) (hz : ds.length < sizeLine)
    (hN : X.N[j]? = some x := by rfl) (hv : Vis X.env.scope x := by first | exact Or.inl rfl | exact Or.inr (Or.inl rfl) | exact Or.inr (Or.inr rfl))
    (hd : (x == ("__debug__" : Str)) = false := by decide) (hcd : (x == ("__classdict__" : Str)) = false := by decide) (hb : attributeBase (.Name x np) f X.env (eval (.Name x np) X.env) = eval (.Name x np) X.env := by rfl) (hs : NoSl i := by intro _ _; rfl)
    (hbase : attributeBase (.Subscript (.Attribute (.Name x np) f ap) i sp) "append" X.env (eval (.Subscript (.Attribute (.Name x np) f ap) i sp) X.env) = eval (.Subscript (.Attribute (.Name x np) f ap) i sp) X.env := by rfl)
    (hfew : ((backTo cpos (starEach [e] X.env)).all (fun x => !x.1) && (backToKw cpos (keywordEach [] X.env)).all (fun x => x.1.isSome)
      && decide (([e] : List Expr).length + ([] : List Keyword).length + (if ([] : List Keyword).isEmpty then 0 else 1) < 30)) = true := by rfl)
    (hline : (apos.endLine == cpos.line) = true := by rfl) (hst : starEach [e] X.env = (false, eval e X.env) :: starEach [] X.env := by exact star_plain rfl) (hplain : (backTo cpos (starEach [] X.env)).any (·.1) = false := by exact back_plain rfl) :
    Ev X (.Call (.Attribute (.Subscript (.Attribute (.Name x np) f ap) i sp) "append" apos) [e] [] cpos) S .none (S.set j (some (.ins q dx C (fs.set m (f, .dL p (lput kvs k d)))))) := by
  refine .ofPE (pe_bm PySem.F.plainAttrs_list PySem.F.slot_list_append PySem.F.type_list_append mt_append (pe_getN hu (pe_fld (pe_var hN hv hd hcd) hb) (peW X i) hs) (paW X [e]) hbase hfew hline hst hplain) fun F H σ st Q kq => ?_
  have hmem := List.mem_of_getElem? hf
  have hpl : Has S (.dL p kvs) := .fld hS hmem
  obtain ⟨v0, e0, o0⟩ := st.slot j _ hS
  cases o0 with
  | @ins _ _ _ ws _ q1 q2 r =>
    obtain ⟨u, h1, h2⟩ := lookup_own r hlk
    refine ⟨_, e0, q, C, dx, ws, u, rfl, q1, cl, na, h1, ?_⟩
    refine hi.use st fun y F2 H2 p2 w2 => ?_
    obtain ⟨y, rfl⟩ := da_ref w2 tk
    obtain ⟨rfl, _⟩ := own_dL h2
    obtain ⟨_, o3⟩ := hpl.own p2.st
    obtain ⟨rfl, xs, t, pr⟩ := own_dL o3
    rcases nget_at entL_eq k pr with ⟨z, _⟩ | ⟨_, c, d', g1, g2, g3, rfl, g5⟩
    · rw [hg] at z; cases z
    rw [hg] at g1; cases g1
    obtain ⟨_, _, _, g6, us, g7, g8⟩ := g5
    refine ⟨y, p, xs, _, c, .ref a, rfl, rfl, ⟨t, (keysL_of pr).mono p2.st.same, Da.mono p2.st.same _ _ w2, dep⟩, g2, g6, .inl ⟨rfl, us, SqL.of g7⟩, ?_⟩
    refine eva_cons he eva_nil hst F2 H2 σ p2.st _ fun vs F3 H3 p3 w3 => ?_
    obtain ⟨v, rfl, wv⟩ := das1 w3
    obtain ⟨_, o4⟩ := hpl.own p3.st
    obtain ⟨rfl, xs4, t4, pr4⟩ := own_dL o4
    rcases nget_at entL_eq _ pr4 with ⟨z, _⟩ | ⟨_, c4, d4, k1, k2, k3, rfl, k5⟩
    · rw [hg] at z; cases z
    rw [hg] at k1; cases k1
    obtain ⟨_, _, _, k6, us4, k7, k8⟩ := k5
    have haf : a ∈ foot (OV.dL p kvs) := by
      simp only [foot]
      exact List.mem_cons_of_mem _ (List.mem_map.mpr ⟨_, k3, rfl⟩)
    have ndL : (foot (OV.dL p kvs)).Nodup := by
      have ndj := p3.st.nd j
      rw [footAt_some hS] at ndj
      simp only [foot] at ndj
      rw [List.nodup_cons, List.nodup_cons] at ndj
      have : ∀ {l : List (Str × OV)}, (footF l).Nodup → (f, OV.dL p kvs) ∈ l → (foot (OV.dL p kvs)).Nodup := fun {l} => by
        induction l with
        | nil => intro _ h; cases h
        | cons c r ih =>
          intro nd h
          simp only [footF] at nd
          rw [List.nodup_append] at nd
          rcases List.mem_cons.mp h with rfl | h
          · exact nd.1
          · exact ih nd.2.1 h
      exact this ndj.2.2 hmem
    have ff : ∀ kk, foot (OV.dL p (lput kvs kk d)) = foot (OV.dL p kvs) := fun kk => by
      simp only [foot]; rw [lput_addr]
    have ndL2 := ndL
    simp only [foot] at ndL2
    rw [List.nodup_cons] at ndL2
    have hap : p ≠ a := fun z => ndL2.1 (by rw [z]; exact List.mem_map.mpr ⟨_, k3, rfl⟩)
    have hkn : (kvs.map (·.1)).Nodup := by
      have : ∀ {kvs : List LKv} {xs : List Ent}, Paired (EntLOk F3 H3) kvs xs → kvs.map (·.1) = xs.map (·.1) := fun h => by
        induction h with
        | nil => rfl
        | cons r _ ih => rw [List.map_cons, List.map_cons, ih, r.1]
      rw [this pr4]; exact t4.nd
    refine ⟨a, us4, v, rfl, rfl, k7, by rw [k8.length]; exact hz, ?_⟩
    refine kq _ F3 _ ((p2.trans p3).thn ((Place.fld hS hf).poke p3.st haf (fun b => by rw [ff]) (by rw [ff]; exact ndL) fun z oz => ?_)) .non
    obtain ⟨rfl, _⟩ := own_dL oz
    exact .dL (xs := xs4) (t4.keep fun o eo => by rw [upd_ne hap]; exact eo) (pairL_app k8 wv pr4 hkn ndL2.2 hg)
end
end SH
/-! SHv: what is the same if some things are, in plain Lean. -/
namespace SH
/-! ### the least congruence -/
inductive Cong (E : List (T × T)) : T → T → Prop
  | ax {a b : T} : (a, b) ∈ E → Cong E a b
  | refl (a : T) : Cong E a a
  | symm {a b : T} : Cong E a b → Cong E b a
  | trans {a b c : T} : Cong E a b → Cong E b c → Cong E a c
  | c1 {x : PySem.Str} {a b : T} : Cong E a b → Cong E (.t1 x a) (.t1 x b)
  | c2 {x : PySem.Str} {a b c d : T} : Cong E a b → Cong E c d → Cong E (.t2 x a c) (.t2 x b d)
/-! ### homes -/
/-- a term's head with the homes of its parts -/
def keyT (h : T → T) : T → T
  | .t0 x => .t0 x
  | .t1 x a => .t1 x (h a)
  | .t2 x a b => .t2 x (h a) (h b)
def joinH (h : T → T) (a b : T) : T → T := fun t => if h t = h a then h b else h t
theorem joinH_same {h : T → T} {a b : T} (e : h a = h b) : joinH h a b = h := by
  funext t
  unfold joinH
  split
  · rename_i h2; rw [← e, ← h2]
  · rfl
theorem joinH_eq {h : T → T} {a b : T} : joinH h a b a = joinH h a b b := by
  unfold joinH
  rw [if_pos rfl]
  split <;> rfl
theorem joinH_keep {h : T → T} {a b t u : T} (e : h t = h u) : joinH h a b t = joinH h a b u := by
  unfold joinH
  rw [e]
/-- sound homes: each the same as its term, in ts, its own home -/
structure Sound (E : List (T × T)) (ts : List T) (h : T → T) : Prop where
  cg : ∀ t ∈ ts, Cong E t (h t)
  mem : ∀ t ∈ ts, h t ∈ ts
  idem : ∀ t ∈ ts, h (h t) = h t
theorem Sound.start (E : List (T × T)) (ts : List T) : Sound E ts id := ⟨fun t _ => .refl t, fun _ h => h, fun _ _ => rfl⟩
theorem Sound.join {E : List (T × T)} {ts : List T} {h : T → T} (s : Sound E ts h) {a b : T} (ha : a ∈ ts) (hb : b ∈ ts) (e : Cong E a b) : Sound E ts (joinH h a b) where
  cg := fun t ht => by
    unfold joinH
    split
    · rename_i h2
      have h3 := s.cg t ht
      rw [h2] at h3
      exact h3.trans ((s.cg a ha).symm.trans (e.trans (s.cg b hb)))
    · exact s.cg t ht
  mem := fun t ht => by
    unfold joinH
    split
    · exact s.mem b hb
    · exact s.mem t ht
  idem := fun t ht => by
    unfold joinH
    by_cases h1 : h t = h a
    · rw [if_pos h1]
      split
      · rfl
      · exact s.idem b hb
    · rw [if_neg h1, s.idem t ht, if_neg h1]
/-- wholes of parts that are the same are the same -/
def ClosedH (ts : List T) (h : T → T) : Prop := ∀ t ∈ ts, ∀ u ∈ ts, keyT h t = keyT h u → h t = h u
theorem Sound.key {E : List (T × T)} {ts : List T} {h : T → T} (s : Sound E ts h) (c : ClosedT ts) {t u : T} (ht : t ∈ ts) (hu : u ∈ ts) (e : keyT h t = keyT h u) : Cong E t u := by
  have hp : ∀ p ∈ t.ps, p ∈ ts := c t ht
  have hq : ∀ p ∈ u.ps, p ∈ ts := c u hu
  cases t with
  | t0 x =>
    cases u with
    | t0 y => cases e; exact .refl _
    | t1 _ _ => cases e
    | t2 _ _ _ => cases e
  | t1 x a =>
    cases u with
    | t0 _ => cases e
    | t1 y b =>
      simp only [keyT, T.t1.injEq] at e
      obtain ⟨rfl, e⟩ := e
      have h1 := s.cg a (hp a (by simp [T.ps]))
      have h2 := s.cg b (hq b (by simp [T.ps]))
      rw [e] at h1
      exact .c1 (h1.trans h2.symm)
    | t2 _ _ _ => cases e
  | t2 x a a2 =>
    cases u with
    | t0 _ => cases e
    | t1 _ _ => cases e
    | t2 y b b2 =>
      simp only [keyT, T.t2.injEq] at e
      obtain ⟨rfl, e, e2⟩ := e
      have h1 := s.cg a (hp a (by simp [T.ps]))
      have h2 := s.cg b (hq b (by simp [T.ps]))
      have h3 := s.cg a2 (hp a2 (by simp [T.ps]))
      have h4 := s.cg b2 (hq b2 (by simp [T.ps]))
      rw [e] at h1
      rw [e2] at h3
      exact .c2 (h1.trans h2.symm) (h3.trans h4.symm)
/-! ### completeness: a world -/
open Classical in
noncomputable def nd (ts : List T) (h : T → T) (k : T) : T := if hw : ∃ w, w ∈ ts ∧ keyT h w = k then h hw.choose else k
noncomputable def norm (ts : List T) (h : T → T) : T → T
  | .t0 x => nd ts h (.t0 x)
  | .t1 x a => nd ts h (.t1 x (norm ts h a))
  | .t2 x a b => nd ts h (.t2 x (norm ts h a) (norm ts h b))
theorem nd_in {ts : List T} {h : T → T} (cl : ClosedH ts h) {t : T} (ht : t ∈ ts) : nd ts h (keyT h t) = h t := by
  unfold nd
  have hw : ∃ w, w ∈ ts ∧ keyT h w = keyT h t := ⟨t, ht, rfl⟩
  rw [dif_pos hw]
  exact cl _ hw.choose_spec.1 _ ht hw.choose_spec.2
theorem norm_in {ts : List T} {h : T → T} (c : ClosedT ts) (cl : ClosedH ts h) : ∀ {t : T}, t ∈ ts → norm ts h t = h t
  | .t0 x, ht => nd_in cl ht
  | .t1 x a, ht => by
    rw [norm, norm_in c cl (c _ ht a (by simp [T.ps]))]
    exact nd_in cl ht
  | .t2 x a b, ht => by
    rw [norm, norm_in c cl (c _ ht a (by simp [T.ps])), norm_in c cl (c _ ht b (by simp [T.ps]))]
    exact nd_in cl ht
theorem cong_norm {E : List (T × T)} {ts : List T} {h : T → T} (c : ClosedT ts) (cl : ClosedH ts h) (he : ∀ p ∈ E, p.1 ∈ ts ∧ p.2 ∈ ts ∧ h p.1 = h p.2) {t u : T} (e : Cong E t u) : norm ts h t = norm ts h u := by
  induction e with
  | ax hm =>
    obtain ⟨h1, h2, h3⟩ := he _ hm
    rw [norm_in c cl h1, norm_in c cl h2]; exact h3
  | refl _ => rfl
  | symm _ ih => exact ih.symm
  | trans _ _ ih ih2 => exact ih.trans ih2
  | c1 _ ih => rw [norm, norm, ih]
  | c2 _ _ ih ih2 => rw [norm, norm, ih, ih2]
/-- homes that are as they should be -/
structure Homes (E : List (T × T)) (ts : List T) (h : T → T) : Prop where
  s : Sound E ts h
  cl : ClosedH ts h
  told : ∀ p ∈ E, p.1 ∈ ts ∧ p.2 ∈ ts ∧ h p.1 = h p.2
theorem Homes.iff {E : List (T × T)} {ts : List T} {h : T → T} (k : Homes E ts h) (c : ClosedT ts) {t u : T} (ht : t ∈ ts) (hu : u ∈ ts) : h t = h u ↔ Cong E t u := by
  constructor
  · intro e
    have h1 := k.s.cg t ht
    rw [e] at h1
    exact h1.trans (k.s.cg u hu).symm
  · intro e
    have := cong_norm c k.cl k.told e
    rw [norm_in c k.cl ht, norm_in c k.cl hu] at this
    exact this
/-! ### a pass over the wholes -/
/-- what a pass has: the first whole of each key, the homes, whether any was new -/
structure Pass where
  first : List (T × T)
  h : T → T
  new : Bool
def fget (fs : List (T × T)) (k : T) : Option T := (fs.find? fun x => decide (x.1 = k)).map (·.2)
def passStep (p : Pass) (t : T) : Pass :=
  match fget p.first (keyT p.h t) with
  | none => { p with first := p.first ++ [(keyT p.h t, t)] }
  | some u => if p.h u = p.h t then p else { p with h := joinH p.h u t, new := true }
def passAll (h : T → T) (ts : List T) : Pass := ts.foldl passStep ⟨[], h, false⟩
theorem Sound.key2 {E : List (T × T)} {ts : List T} {h h' : T → T} (s : Sound E ts h) (s' : Sound E ts h') (c : ClosedT ts) {t u : T} (ht : t ∈ ts) (hu : u ∈ ts) (e : keyT h t = keyT h' u) : Cong E t u := by
  have hp : ∀ p ∈ t.ps, p ∈ ts := c t ht
  have hq : ∀ p ∈ u.ps, p ∈ ts := c u hu
  cases t with
  | t0 x =>
    cases u with
    | t0 y => cases e; exact .refl _
    | t1 _ _ => cases e
    | t2 _ _ _ => cases e
  | t1 x a =>
    cases u with
    | t0 _ => cases e
    | t1 y b =>
      simp only [keyT, T.t1.injEq] at e
      obtain ⟨rfl, e⟩ := e
      have h1 := s.cg a (hp a (by simp [T.ps]))
      have h2 := s'.cg b (hq b (by simp [T.ps]))
      rw [e] at h1
      exact .c1 (h1.trans h2.symm)
    | t2 _ _ _ => cases e
  | t2 x a a2 =>
    cases u with
    | t0 _ => cases e
    | t1 _ _ => cases e
    | t2 y b b2 =>
      simp only [keyT, T.t2.injEq] at e
      obtain ⟨rfl, e, e2⟩ := e
      have h1 := s.cg a (hp a (by simp [T.ps]))
      have h2 := s'.cg b (hq b (by simp [T.ps]))
      have h3 := s.cg a2 (hp a2 (by simp [T.ps]))
      have h4 := s'.cg b2 (hq b2 (by simp [T.ps]))
      rw [e] at h1
      rw [e2] at h3
      exact .c2 (h1.trans h2.symm) (h3.trans h4.symm)
/-- how many are their own homes -/
def roots (ts : List T) (h : T → T) : Nat := (ts.filter fun t => decide (h t = t)).length
theorem filter_lt {α : Type} {p q : α → Bool} : ∀ {l : List α}, (∀ x ∈ l, q x = true → p x = true) → (∃ x ∈ l, p x = true ∧ q x = false) → (l.filter q).length < (l.filter p).length
  | [], _, h => by obtain ⟨_, h, _⟩ := h; cases h
  | a :: l, hq, h => by
    have le : (l.filter q).length ≤ (l.filter p).length := by
      have : ∀ {l : List α}, (∀ x ∈ l, q x = true → p x = true) → (l.filter q).length ≤ (l.filter p).length := fun {l} => by
        induction l with
        | nil => intro _; exact Nat.le_refl _
        | cons b r ih =>
          intro h
          have h1 := ih fun x hx => h x (List.mem_cons_of_mem _ hx)
          rw [List.filter_cons, List.filter_cons]
          cases hb : q b with
          | true =>
            rw [h b (List.mem_cons_self ..) hb]
            simp only [if_true, List.length_cons]
            omega
          | false =>
            cases p b <;> simp only [if_true, Bool.false_eq_true, if_false, List.length_cons] <;> omega
      exact this fun x hx => hq x (List.mem_cons_of_mem _ hx)
    obtain ⟨x, hx, hp, hqx⟩ := h
    rw [List.filter_cons, List.filter_cons]
    rcases List.mem_cons.mp hx with rfl | hx
    · rw [hp, hqx]
      simp only [if_true, Bool.false_eq_true, if_false, List.length_cons]
      omega
    · have ih := filter_lt (fun x hx => hq x (List.mem_cons_of_mem _ hx)) ⟨x, hx, hp, hqx⟩
      cases hb : q a with
      | true =>
        rw [hq a (List.mem_cons_self ..) hb]
        simp only [if_true, List.length_cons]
        omega
      | false => cases p a <;> simp only [if_true, Bool.false_eq_true, if_false, List.length_cons] <;> omega
theorem roots_join {E : List (T × T)} {ts : List T} {h : T → T} (s : Sound E ts h) {a b : T} (ha : a ∈ ts) (hb : b ∈ ts) (e : h a ≠ h b) : roots ts (joinH h a b) < roots ts h := by
  refine filter_lt (fun t ht hq => ?_) ⟨h a, s.mem a ha, decide_eq_true (s.idem a ha), decide_eq_false ?_⟩
  · have hq' := of_decide_eq_true hq
    refine decide_eq_true ?_
    unfold joinH at hq'
    split at hq'
    · rename_i h1
      have h2 := s.idem b hb
      rw [hq'] at h2
      exact h2
    · exact hq'
  · unfold joinH
    rw [if_pos (s.idem a ha)]
    exact fun z => e z.symm
theorem fget_app {fs : List (T × T)} {k k' u : T} : fget (fs ++ [(k', u)]) k = match fget fs k with | some v => some v | none => if k' = k then some u else none := by
  unfold fget
  rw [List.find?_append]
  cases h : fs.find? (fun x => decide (x.1 = k)) with
  | some v => rfl
  | none =>
    by_cases e : k' = k
    · simp [e]
    · simp [e]
theorem fget_mem {fs : List (T × T)} {k u : T} (h : fget fs k = some u) : (k, u) ∈ fs := by
  unfold fget at h
  obtain ⟨y, hy, rfl⟩ := Option.map_eq_some_iff.mp h
  have h1 := List.mem_of_find?_eq_some hy
  have h2 : decide (y.1 = k) = true := by simpa using List.find?_some hy
  rw [← of_decide_eq_true h2]; exact h1
/-- what holds behind the terms of l: E's homes stay sound, told pairs stay joined, and while nothing is new, the homes are h0's and all of l are closed -/
structure PassOk (E : List (T × T)) (ts : List T) (h0 : T → T) (l : List T) (p : Pass) : Prop where
  s : Sound E ts p.h
  keep : ∀ t u, h0 t = h0 u → p.h t = p.h u
  fst : ∀ x ∈ p.first, x.2 ∈ ts ∧ ∃ h', Sound E ts h' ∧ x.1 = keyT h' x.2 ∧ ∀ t u, h' t = h' u → p.h t = p.h u
  same : p.new = false → p.h = h0 ∧ ∀ t ∈ l, ∃ u, fget p.first (keyT h0 t) = some u ∧ h0 u = h0 t
  less : p.new = true → roots ts p.h < roots ts h0
theorem PassOk.start {E : List (T × T)} {ts : List T} {h0 : T → T} (s : Sound E ts h0) : PassOk E ts h0 [] ⟨[], h0, false⟩ :=
  ⟨s, fun _ _ e => e, fun x hx => (by cases hx), fun _ => ⟨rfl, fun t ht => (by cases ht)⟩, fun e => (by cases e)⟩
theorem PassOk.step {E : List (T × T)} {ts : List T} {h0 : T → T} (c : ClosedT ts) (s0 : Sound E ts h0) {l : List T} {p : Pass} {t : T} (k : PassOk E ts h0 l p) (ht : t ∈ ts) : PassOk E ts h0 (l ++ [t]) (passStep p t) := by
  unfold passStep
  cases hf : fget p.first (keyT p.h t) with
  | none =>
    refine ⟨k.s, k.keep, fun x hx => ?_, fun hn => ?_, k.less⟩
    · rcases List.mem_append.mp hx with hx | hx
      · exact k.fst x hx
      · simp only [List.mem_singleton] at hx; subst hx; exact ⟨ht, p.h, k.s, rfl, fun _ _ e => e⟩
    · obtain ⟨h1, h2⟩ := k.same hn
      refine ⟨h1, fun u hu => ?_⟩
      rcases List.mem_append.mp hu with hu | hu
      · obtain ⟨w, h3, h4⟩ := h2 u hu
        exact ⟨w, by rw [fget_app, h3], h4⟩
      · simp only [List.mem_singleton] at hu; subst hu
        refine ⟨u, ?_, rfl⟩
        rw [h1] at hf ⊢
        rw [fget_app, hf]; simp
  | some u =>
    have hm := fget_mem hf
    obtain ⟨hu, h', s', hk, kk⟩ := k.fst _ hm
    have cg : Cong E u t := s'.key2 k.s c hu ht hk.symm
    by_cases e : p.h u = p.h t
    · show PassOk E ts h0 (l ++ [t]) (if p.h u = p.h t then p else _)
      rw [if_pos e]
      refine ⟨k.s, k.keep, k.fst, fun hn => ?_, k.less⟩
      obtain ⟨h1, h2⟩ := k.same hn
      refine ⟨h1, fun v hv => ?_⟩
      rcases List.mem_append.mp hv with hv | hv
      · exact h2 v hv
      · simp only [List.mem_singleton] at hv; subst hv
        rw [h1] at hf e
        exact ⟨u, hf, e⟩
    · show PassOk E ts h0 (l ++ [t]) (if p.h u = p.h t then p else { p with h := joinH p.h u t, new := true })
      rw [if_neg e]
      refine ⟨k.s.join hu ht cg, fun a b ab => joinH_keep (k.keep a b ab), fun x hx => ?_, fun hn => (by cases hn), fun _ => ?_⟩
      · obtain ⟨g1, h2, g2, g3, g4⟩ := k.fst x hx
        exact ⟨g1, h2, g2, g3, fun a b ab => joinH_keep (g4 a b ab)⟩
      have h1 := roots_join k.s hu ht e
      cases hn : p.new with
      | true => exact Nat.lt_trans h1 (k.less hn)
      | false =>
        have h2 := (k.same hn).1
        show roots ts (joinH p.h u t) < _
        rw [h2] at h1 ⊢
        exact h1
theorem PassOk.closed {E : List (T × T)} {ts : List T} {h0 : T → T} {p : Pass} (k : PassOk E ts h0 ts p) (hn : p.new = false) : ClosedH ts p.h := by
  obtain ⟨h1, h2⟩ := k.same hn
  rw [h1]
  intro t ht u hu e
  obtain ⟨a, a1, a2⟩ := h2 t ht
  obtain ⟨b, b1, b2⟩ := h2 u hu
  rw [e, b1] at a1
  cases a1
  rw [← a2, ← b2]
end SH
/-! SHx: a Book as an owned thing; the contracts of its methods. -/
namespace SH
open PySem PySem.Spec PyProof.Rows L2
/-- the homes as a dict -/
abbrev hkv (ts : List T) (h : T → T) : List (NestedKey × PyData) := ts.map fun t => (t.key, (h t).enc)
theorem nget_hkv {ts : List T} {h : T → T} {t : T} (ht : t ∈ ts) : nget (hkv ts h) t.key = some (h t).enc := by
  unfold nget
  induction ts with
  | nil => cases ht
  | cons u r ih =>
    rw [hkv, List.map_cons, List.find?_cons]
    by_cases e : u = t
    · subst e; simp
    · have : decide (u.key = t.key) = false := decide_eq_false fun z => e (T.key_inj z)
      rw [this]
      exact ih ((List.mem_cons.mp ht).resolve_left fun z => e z.symm)
theorem nput_hkv {ts : List T} {h : T → T} {t : T} (ht : t ∈ ts) (o : T) : nput (hkv ts h) t.key o.enc = hkv ts (fun u => if u = t then o else h u) := by
  unfold nput
  rw [nget_hkv ht]
  show List.map _ (hkv ts h) = _
  unfold hkv
  rw [List.map_map]
  refine List.map_congr_left fun u _ => ?_
  show (if u.key = t.key then (u.key, o.enc) else (u.key, (h u).enc)) = (u.key, (if u = t then o else h u).enc)
  by_cases e : u = t
  · subst e; rw [if_pos rfl, if_pos rfl]
  · rw [if_neg (fun z => e (T.key_inj z)), if_neg e]
theorem nput_hkv_new {ts : List T} {h : T → T} {t : T} (ht : t ∉ ts) (o : T) (ho : h t = o) : nput (hkv ts h) t.key o.enc = hkv (ts ++ [t]) h := by
  have hn : nget (hkv ts h) t.key = none := by
    unfold nget
    rw [Option.map_eq_none_iff, List.find?_eq_none]
    intro x hx
    obtain ⟨u, hu, rfl⟩ := List.mem_map.mp hx
    simp only [decide_eq_true_eq]
    exact fun z => ht (T.key_inj z ▸ hu)
  unfold nput
  rw [hn]
  show hkv ts h ++ _ = _
  rw [hkv, hkv, List.map_append, List.map_cons, List.map_nil, ho]
abbrev bk (q dx C hp lp : Addr) (ts : List T) (h : T → T) (ls : List LKv) : OV := .ins q dx C [("terms", .dat (.tuple (ts.map T.enc))), ("home", .dN hp (hkv ts h)), ("links", .dL lp ls)]
/-- the links behind a join -/
def linkJ (ls : List LKv) (a b : T) (there back : PyData) : List LKv := lput (lput ls a.key (.tuple [b.enc, there])) b.key (.tuple [a.enc, back])
structure TsOk (ts : List T) : Prop where
  nd : ts.Nodup
  ok : ∀ t ∈ ts, t.Ok
  dep7 : ∀ t ∈ ts, t.depth ≤ 7
  len : ts.length ≤ 50000
theorem TsOk.dep {ts : List T} (h : TsOk ts) : ∀ t ∈ ts, t.depth ≤ 8 := fun t ht => Nat.le_succ_of_le (h.dep7 t ht)
structure LsOk (ts : List T) (h : T → T) (ls : List LKv) : Prop where
  keys : ls.map (·.1) = ts.map T.key
  len : ∀ x ∈ ls, x.2.2.length + roots ts h ≤ 100000
theorem nget_ls {ts : List T} {ls : List LKv} (hk : ls.map (·.1) = ts.map T.key) {t : T} (ht : t ∈ ts) : ∃ a ds, nget ls t.key = some (a, ds) ∧ (t.key, a, ds) ∈ ls := by
  have hm : t.key ∈ ls.map (·.1) := by rw [hk]; exact List.mem_map.mpr ⟨t, ht, rfl⟩
  cases e : ls.find? (fun x => decide (x.1 = t.key)) with
  | none =>
    rw [List.find?_eq_none] at e
    obtain ⟨x, hx, ex⟩ := List.mem_map.mp hm
    exact absurd (decide_eq_true ex) (e x hx)
  | some x =>
    have h1 := List.mem_of_find?_eq_some e
    have h2 : decide (x.1 = t.key) = true := by simpa using List.find?_some e
    refine ⟨x.2.1, x.2.2, by unfold nget; rw [e]; rfl, ?_⟩
    rw [← of_decide_eq_true h2]; exact h1
theorem lput_len {ls : List LKv} {k : NestedKey} {d : PyData} {N : Nat} (h : ∀ x ∈ ls, x.2.2.length ≤ N) : ∀ x ∈ lput ls k d, x.2.2.length ≤ N + 1 := fun x hx => by
  unfold lput at hx
  obtain ⟨y, hy, rfl⟩ := List.mem_map.mp hx
  have := h y hy
  split
  · show (y.2.2 ++ [d]).length ≤ _; rw [List.length_append, List.length_singleton]; omega
  · omega
def ct_join : Ct := fun args Q => ∃ (q dx C hp lp : Addr) (ts : List T) (h : T → T) (ls : List LKv) (a b : T) (there back : PyData), args = [bk q dx C hp lp ts h ls, .dat a.enc, .dat b.enc, .dat there, .dat back] ∧ TsOk ts ∧ LsOk ts h ls ∧ (∀ t ∈ ts, h t ∈ ts) ∧ a ∈ ts ∧ b ∈ ts ∧
  Q (.dat (.bool (!decide (h a = h b)))) [bk q dx C hp lp ts (joinH h a b) (if h a = h b then ls else linkJ ls a b there back), .dat a.enc, .dat b.enc, .dat there, .dat back]
theorem mo_join : ∀ args Q Q', (∀ r a, Q r a → Q' r a) → ct_join args Q → ct_join args Q' := fun _ _ _ h ⟨q, dx, C, hp, lp, ts, h0, ls, a, b, t, u, e, h1, h2, h3, h4, h5, k⟩ => ⟨q, dx, C, hp, lp, ts, h0, ls, a, b, t, u, e, h1, h2, h3, h4, h5, h _ _ k⟩
def ct_key : Ct := fun args Q => ∃ (q dx C hp lp : Addr) (ts : List T) (h : T → T) (ls : List LKv) (t : T), args = [bk q dx C hp lp ts h ls, .dat t.enc] ∧ TsOk ts ∧ t.depth ≤ 8 ∧ (∀ p ∈ t.ps, p ∈ ts) ∧ Q (.dat (keyT h t).enc) args
theorem mo_key : ∀ args Q Q', (∀ r a, Q r a → Q' r a) → ct_key args Q → ct_key args Q' := fun _ _ _ h ⟨q, dx, C, hp, lp, ts, h0, ls, t, e, h1, h2, h3, k⟩ => ⟨q, dx, C, hp, lp, ts, h0, ls, t, e, h1, h2, h3, h _ _ k⟩
theorem key_enc (h : T → T) (t : T) : (keyT h t).enc = .tuple ([.str t.hd] ++ t.ps.map fun u => (h u).enc) := by cases t <;> rfl
/-- .. of an instance of the class C -/
def clsOf : OV → Option Addr
  | .ins _ _ C _ => some C
  | _ => none
def ct_at (C : Addr) (ct : Ct) : Ct := fun args Q => (∀ C', args.head?.bind clsOf = some C' → C' = C) ∧ ct args Q
theorem mo_at {C : Addr} {ct : Ct} (m : ∀ args Q Q', (∀ r a, Q r a → Q' r a) → ct args Q → ct args Q') : ∀ args Q Q', (∀ r a, Q r a → Q' r a) → ct_at C ct args Q → ct_at C ct args Q' := fun args Q Q' h k => ⟨k.1, m args Q Q' h k.2⟩
/-- the homes while a join goes through the terms -/
def hI (ts : List T) (h : T → T) (a b : T) (i : Nat) : T → T := fun t => if t ∈ ts.take i then joinH h a b t else h t
theorem hI_start (ts : List T) (h : T → T) (a b : T) : hkv ts (hI ts h a b 0) = hkv ts h := List.map_congr_left fun t _ => by simp [hI]
theorem hI_end (ts : List T) (h : T → T) (a b : T) : hkv ts (hI ts h a b ts.length) = hkv ts (joinH h a b) := List.map_congr_left fun t ht => by simp [hI, ht]
theorem take_out {ts : List T} (nd : ts.Nodup) {i : Nat} {t : T} (e : ts[i]? = some t) : t ∉ ts.take i := fun hm => by
  obtain ⟨j, hj⟩ := List.mem_iff_getElem?.mp hm
  rw [List.getElem?_take] at hj
  split at hj
  · rename_i hlt
    have h1 := (List.getElem?_eq_some_iff.mp hj).1
    have h2 := (List.getElem?_eq_some_iff.mp e).1
    have e1 := (List.getElem?_eq_some_iff.mp hj).2
    have e2 := (List.getElem?_eq_some_iff.mp e).2
    have hp := List.pairwise_iff_getElem.mp nd
    exact hp j i h1 h2 hlt (e1.trans e2.symm)
  · cases hj
theorem mem_take_succ {ts : List T} {i : Nat} {t u : T} (e : ts[i]? = some t) : u ∈ ts.take (i + 1) ↔ u ∈ ts.take i ∨ u = t := by
  rw [List.take_add_one, e, List.mem_append]; simp
theorem hI_at {ts : List T} {h : T → T} {a b : T} (nd : ts.Nodup) {i : Nat} {t : T} (e : ts[i]? = some t) : hI ts h a b i t = h t := by
  unfold hI
  rw [if_neg (take_out nd e)]
theorem hI_put {ts : List T} {h : T → T} {a b : T} {i : Nat} {t : T} (e : ts[i]? = some t) (he : h t = h a) : hkv ts (fun u => if u = t then h b else hI ts h a b i u) = hkv ts (hI ts h a b (i + 1)) := List.map_congr_left fun u _ => by
  show (u.key, (if u = t then h b else hI ts h a b i u).enc) = (u.key, (hI ts h a b (i + 1) u).enc)
  by_cases hu : u = t
  · subst hu
    rw [if_pos rfl]
    unfold hI
    rw [if_pos ((mem_take_succ e).mpr (.inr rfl)), joinH, if_pos he]
  · rw [if_neg hu]
    unfold hI
    by_cases hm : u ∈ ts.take i
    · rw [if_pos hm, if_pos ((mem_take_succ e).mpr (.inl hm))]
    · rw [if_neg hm, if_neg (fun z => ((mem_take_succ e).mp z).elim hm hu)]
theorem hI_not {ts : List T} {h : T → T} {a b : T} {i : Nat} {t : T} (e : ts[i]? = some t) (he : ¬ h t = h a) : hkv ts (hI ts h a b i) = hkv ts (hI ts h a b (i + 1)) := List.map_congr_left fun u _ => by
  show (u.key, (hI ts h a b i u).enc) = (u.key, (hI ts h a b (i + 1) u).enc)
  unfold hI
  by_cases hm : u ∈ ts.take i
  · rw [if_pos hm, if_pos ((mem_take_succ e).mpr (.inl hm))]
  · rw [if_neg hm]
    by_cases hu : u = t
    · subst hu
      rw [if_pos ((mem_take_succ e).mpr (.inr rfl)), joinH, if_neg he]
    · rw [if_neg (fun z => ((mem_take_succ e).mp z).elim hm hu)]
end SH
/-! SHy: enumerate and zip of lists and tuples. -/
namespace SH
open PySem PySem.Spec PyProof.Rows L2
/-! ### enumerate(v) begins -/
theorem wp_called {m : Model} {A : Around} {cls : Value} {Q : Bool → Shared → Prop} {E : Value → Shared → Prop} {s : Shared} (h : ∀ c, Q c s) : wpAny m A (Builtin.SmallTypes.calledThroughType cls) Q E s := by
  unfold Builtin.SmallTypes.calledThroughType
  exact wpAny_bind (wpAny_stack_any fun st => wpAny_pure (h _))
open PySem.Builtin in
theorem meets_enum1 {v : Value} {o : Obj} {Hh : Heap → Prop} (B : Begins v o Hh) : Meets (Builtin.«enumerate.__new__» { pos := [Value.type "enumerate", v] }) fun x R s => Hh s.heap ∧
            R (Except.ok (Flow.ret (Value.ref (s.heap.push o).objs.size)))
              { s with heap := (s.heap.push o).push { cls := Value.type "enumerate", data := Data.fields #[Value.none, Value.bool false, Value.ref s.heap.objs.size, rawInt 0, Value.none, Value.none] } } := by
  intro prog w A R s ⟨hs, h⟩
  unfold Builtin.«enumerate.__new__»
  refine wpAny_bind ?_
  refine wpAny_bind (m := isType (Value.type "enumerate")) (wpAny_pure ?_)
  refine wpAny_ite_false rfl ?_
  have hsub : isSubtype (Value.type "enumerate") (Value.type "enumerate") = pure true := by rfl
  refine wpAny_bind (wpAny_of_eq hsub ?_)
  refine wpAny_ite_false rfl ?_
  refine wpAny_pure ?_
  refine wpAny_ite_true rfl ?_
  refine wpAny_bind ?_
  refine wp_called fun c => ?_
  have fin : wpAny (model prog w) A.in1 (do
      let i ← pyIter v
      let e ← SmallTypes.newRecord (Value.type "enumerate") (SmallTypes.ownedTupleFields ++ [i, rawInt 0, .none, .none])
      ret e) (fun fin s' =>
        match fin with
        | Fin.done f => R (Except.ok f) s'
        | Fin.again c' => c'.quiet = true ∧ codeAny (model prog w) A c' R s') (fun e s' => R (Except.error e) s') s := by
    refine wpAny_bind (B.iter prog w A.in1 _ s _ hs ?_)
    refine wpAny_bind ?_
    unfold SmallTypes.newRecord
    refine wpAny_newObj_type (hd := by first | trivial | (show _ ≤ _; simp [SmallTypes.ownedTupleFields, sizeLine]) | simp [sizeOk]) ?_
    exact wpAny_pure h
  cases c
  · refine wpAny_ite_false rfl ?_
    refine wpAny_bind ?_
    exact wpAny_pure fin
  · refine wpAny_ite_true rfl ?_
    refine wpAny_bind ?_
    exact wpAny_pure fin
section
variable {prog : Program} {w : World} {A : Around} {E : Value → Shared → Prop} {s : Shared}
theorem enum_begins1 {v : Value} {o : Obj} {Hh : Heap → Prop} {Q : Value → Shared → Prop} (B : Begins v o Hh) (h1 : Hh s.heap)
    (h : ∀ h', IsEnum h' (s.heap.objs.size + 1) s.heap.objs.size 0 .none → h'.get? s.heap.objs.size = some o → h'.objs.size = s.heap.objs.size + 2 →
      (∀ b o, s.heap.get? b = some o → h'.get? b = some o) → Q (.ref (s.heap.objs.size + 1)) { s with heap := h' }) :
    wpAny (model prog w) A (call (.type "enumerate") [v]) Q E s := by
  refine callType_new F.called_enumerate (by decide) (F.typeCall_enumerate_1 _) (F.newCall_enumerate_1 _) (fun obj => F.args_object_init_2 obj _) F.entry_enumerate_new
    (meets_enum1 B) ⟨h1, ?_⟩
  have hz : (s.heap.push o).objs.size = s.heap.objs.size + 1 := Heap.size_push ..
  show _ ∧ _
  rw [hz]
  have he : IsEnum ((s.heap.push o).push { cls := .type "enumerate", data := .fields #[.none, .bool false, .ref s.heap.objs.size, rawInt 0, .none, .none] }) (s.heap.objs.size + 1) s.heap.objs.size 0 .none := by
    have := Heap.get?_push_size (s.heap.push o) (o := { cls := .type "enumerate", data := .fields #[.none, .bool false, .ref s.heap.objs.size, rawInt 0, .none, .none] }) rfl
    rw [hz] at this; exact this
  refine ⟨⟨_, he, rfl⟩, h _ he (Heap.get?_push_of_some _ (Heap.get?_push_size _ B.free)) (by rw [Heap.size_push, hz]) fun b o x => Heap.get?_push_of_some _ (Heap.get?_push_of_some _ x)⟩
end
/-! ### lists and tuples alike -/
def SrcAt (t : Bool) (h : Heap) (a : Addr) (its : Array Value) : Prop := match t with
  | true => h.IsTuple a its
  | false => h.IsList a its
def SrcIt (t : Bool) (h : Heap) (it a : Addr) (i : Nat) : Prop := match t with
  | true => h.IsTupleIter it a i
  | false => h.IsListIter it a i
def SqX (t : Bool) (K : PySem.W.Frag) (H : Hp) (a : Addr) (xs : List V) : Prop := match t with
  | true => SqT K H a xs
  | false => SqL K H a xs
def srcO (t : Bool) (a : Addr) : Obj := match t with
  | true => { cls := .type "tuple_iterator", data := .fields #[.ref a, .int 0 0] }
  | false => { cls := .type "list_iterator", data := .fields #[.ref a, .int 0 0] }
theorem src_begins (t : Bool) (a : Addr) (its : Array Value) : Begins (.ref a) (srcO t a) (fun h => SrcAt t h a its) := by
  cases t
  · exact begins_list a its
  · exact begins_tuple a its
theorem src_draws {prog : Program} {w : World} {A : Around} (t : Bool) (hh : A.handled = none) (it a : Addr) (hne : a ≠ it) (its : Array Value) :
    Draws prog w A it [it, a] its.size (fun i v => its[i]? = some v) (fun i h => SrcIt t h it a i ∧ SrcAt t h a its) := by
  cases t
  · exact .list hh it a hne its
  · exact .tuple hh it a hne its
theorem src_iter0 {t : Bool} {h : Heap} {it a : Addr} (e : h.get? it = some (srcO t a)) : SrcIt t h it a 0 := by
  cases t
  · exact ⟨_, e, rfl, rfl⟩
  · exact ⟨_, e, rfl, rfl⟩
theorem src_ne {t : Bool} {h : Heap} {it a : Addr} {i : Nat} {its : Array Value} (p : SrcIt t h it a i) (q : SrcAt t h a its) : a ≠ it := by
  rintro rfl
  cases t
  · obtain ⟨o, e, c, _⟩ := p
    obtain ⟨o', e', c', _⟩ := q
    rw [e] at e'; cases e'
    have z : Value.type "list_iterator" = .type "list" := c.symm.trans c'
    exact absurd z (by decide)
  · obtain ⟨o, e, c, _⟩ := p
    obtain ⟨o', e', c', _⟩ := q
    rw [e] at e'; cases e'
    have z : Value.type "tuple_iterator" = .type "tuple" := c.symm.trans c'
    exact absurd z (by decide)
theorem src_obj {t : Bool} {h : Heap} {it a : Addr} {i : Nat} (p : SrcIt t h it a i) : ∃ o, h.get? it = some o ∧ ∀ v, o.data ≠ .cell v := by
  cases t
  · obtain ⟨o, e, c, d⟩ := p
    exact ⟨o, e, fun v z => by rw [d] at z; cases z⟩
  · obtain ⟨o, e, c, d⟩ := p
    exact ⟨o, e, fun v z => by rw [d] at z; cases z⟩
theorem src_keep {t : Bool} {h h' : Heap} {it a : Addr} {i : Nat} (p : SrcIt t h it a i) (k : ∀ o, h.get? it = some o → h'.get? it = some o) : SrcIt t h' it a i := by
  cases t
  · exact Heap.IsListIter.at p k
  · exact Heap.IsTupleIter.at p k
theorem src_of {X : Cx} {pins : List (Addr × Obj)} {σ : L2.St} {H : Hp} {s : Shared} {t : Bool} {a : Addr} {xs : List V} (I : L2.Inv X pins σ H s) (q : SqX t X.K H a xs) : ∃ its : List Value, Vals xs its ∧ SrcAt t s.heap a its.toArray := by
  cases t
  · obtain ⟨its, rv, p, hz⟩ := I.list q
    exact ⟨its, rv, p.isList⟩
  · obtain ⟨its, rv, p, hz⟩ := I.tuple q
    exact ⟨its, rv, p⟩
theorem src_inj {X : Cx} {pins : List (Addr × Obj)} {σ : L2.St} {H : Hp} {s : Shared} {t : Bool} {a : Addr} {xs ys : List V} (I : L2.Inv X pins σ H s) (q : SqX t X.K H a xs) (r : SqX t X.K H a ys) : xs = ys := by
  cases t
  · exact I.list_inj q r
  · exact I.tuple_inj q r
theorem src_lt {t : Bool} {h : Heap} {a : Addr} {its : Array Value} (q : SrcAt t h a its) : a < h.objs.size := by
  cases t
  · obtain ⟨o, e, _⟩ := q
    exact Heap.lt_size e
  · obtain ⟨o, e, _⟩ := q
    exact Heap.lt_size e
/-! ### enumerate -/
def Itex (t : Bool) (K : PySem.W.Frag) (a : Addr) : It :=
  ⟨fun i H => ∃ (xs : List V) (x : V), SqX t K H a xs ∧ xs[i]? = some x, fun i H v H' => ∃ T x, v = .ref T ∧ H T = none ∧ H' = upd H T (.tup [.int (i : Nat), x]) ∧ ∀ xs, SqX t K H a xs → xs[i]? = some x, fun i H => ∃ xs : List V, SqX t K H a xs ∧ xs.length = i⟩
theorem turn_enumX {P : Program} {w : World} {K : PySem.W.Frag} {elts : List Expr} {kk : Nat} {tpos : Pos} (t : Bool) (a e it : Addr) (hea : e ≠ a) :
    Turn P w K (.Tuple elts kk tpos) (Itex t K a) [e, it] e (fun i h => (∃ old, IsEnum h e it ((i : Nat) : Int) old) ∧ SrcIt t h it a i ∧ e ≠ it) where
  mem := by simp
  obj := fun i h st b hb => by
    obtain ⟨⟨old, he⟩, hs, _⟩ := st
    have e' : b = e ∨ b = it := by simpa using hb
    rcases e' with z | z
    · rw [z]; exact ⟨_, he, fun v q => nomatch q⟩
    · rw [z]; exact src_obj hs
  keep := fun i h h' st k => let ⟨⟨old, he⟩, hi, hne⟩ := st; ⟨⟨old, k e (by simp) _ he⟩, src_keep hi fun o q => k it (by simp) o q, hne⟩
  item := by
    intro X hP hw hK hc i pins s σ H E I hf st hg
    subst hP hw hK
    obtain ⟨⟨old, he⟩, hit, hne⟩ := st
    obtain ⟨xs, x, hq, hx⟩ := hg
    obtain ⟨its, rv, p⟩ := src_of I hq
    obtain ⟨u, hu, ru⟩ := rv.get hx
    have hel : e < s.heap.objs.size := Heap.lt_size he
    have hil : it < s.heap.objs.size := by obtain ⟨_, q, _⟩ := src_obj hit; exact Heap.lt_size q
    have hai := src_ne hit p
    have hlt : i < its.toArray.size := by
      have := (List.getElem?_eq_some_iff.mp hu).1
      simpa using this
    have D : Draws X.prog X.w X.A.in1 it [it, a] its.toArray.size (fun i v => its.toArray[i]? = some v) (fun i h => SrcIt t h it a i ∧ SrcAt t h a its.toArray) := src_draws t (show X.A.in1.handled = none from I.ok.hd hc) it a hai its.toArray
    refine wpAny_pyNext_enum_itemD D he ⟨hit, p⟩ hlt hne (by simp [hne, hea]) fun u' h' tk hu' ho hit' hT hsz hk => ?_
    obtain rfl : u' = u := by
      have e1 : its.toArray[i]? = some u := by simpa using hu
      rw [e1] at hu'; exact (Option.some.inj hu').symm
    refine ⟨_, rfl, wpAny_letOwnedTupleGo_enum (s := { s with heap := h', toks := tk + 1 }) ho fun h'' he' sb => ?_⟩
    have hT2 : h''.get? s.heap.objs.size = some { cls := .type "tuple", data := .seq #[.int i tk, u'] } := (sb.2 _ (Nat.ne_of_gt hel)).trans hT
    have new : ObjOk X.prog X.w (upd H s.heap.objs.size (.tup [.int (i : Nat), x])) h'' s.heap.objs.size (.tup [.int (i : Nat), x]) :=
      ⟨by show 2 ≤ sizeLine; decide, [.int i tk, u'], .cons ⟨_, rfl⟩ (.cons ru .nil), ⟨_, hT2, rfl, _, rfl⟩⟩
    have I1 : L2.Inv X pins σ (upd H s.heap.objs.size (.tup [.int (i : Nat), x])) { s with heap := h'', toks := tk + 1 } :=
      I.turnedNew (ch := [e, it]) (fun b ob hb q => (sb.2 b (fun z => hb (by simp [z]))).trans (hk b ob (fun z => hb (by simp [z])) (fun z => hb (by simp [z])) q)) hf (Nat.le_refl _) new
    refine ⟨.ref s.heap.objs.size, _, I1, rfl, ⟨_, x, rfl, I.hok.fresh (Nat.le_refl _), rfl, fun ys hy => by rw [src_inj I hy hq]; exact hx⟩, ⟨⟨u', ?_⟩, src_keep hit'.1 fun o q => (sb.2 it (Ne.symm hne)).trans q, hne⟩, fun b hb => ?_⟩
    · have e1 : ((i + 1 : Nat) : Int) = (i : Int) + 1 := by omega
      rw [e1]; exact he'
    · have hb' : b < s.heap.objs.size := by
        have e' : b = e ∨ b = it := by simpa using hb
        rcases e' with z | z
        · rw [z]; exact hel
        · rw [z]; exact hil
      rw [upd_ne (Nat.ne_of_lt hb')]
      exact (hf b hb).1
  done := by
    intro X hP hw hK hc i pins s σ H E I hf st hg
    subst hP hw hK
    obtain ⟨⟨old, he⟩, hit, hne⟩ := st
    obtain ⟨xs, hq, hx⟩ := hg
    obtain ⟨its, rv, p⟩ := src_of I hq
    obtain ⟨f0, f1, f2, f3, f4, f5⟩ := hf it (by simp)
    have hl := rv.length
    have hai := src_ne hit p
    have D : Draws X.prog X.w X.A.in1 it [it, a] its.toArray.size (fun i v => its.toArray[i]? = some v) (fun i h => SrcIt t h it a i ∧ SrcAt t h a its.toArray) := src_draws t (show X.A.in1.handled = none from I.ok.hd hc) it a hai its.toArray
    have hn : i = its.toArray.size := by simp; omega
    subst hn
    exact wpAny_pyNext_enum_endD D he ⟨hit, p⟩ fun h' eb => ⟨rfl, I.turned (t' := s.toks) (fun b o hb q => eb b o hb q) f0 f1 f3 f4 f5⟩
  self := fun A i s Q E st h => let ⟨⟨_, he⟩, _⟩ := st; wpAny_pyIter_enum he h
def iEnumX (t : Bool) (K : PySem.W.Frag) (ta : TA) : TI := fun σ H R => ta σ H fun vs H1 => ∃ a xs, vs = [.ref a] ∧ SqX t K H1 a xs ∧ R (Itex t K a) H1
theorem pi_enumX {X : Cx} {e : Expr} {ta : TA} {p pos tpos : Pos} {elts : List Expr} {kk : Nat} (t : Bool) (hg : Gl X "enumerate") (hm : X.mg "enumerate" = none) (ha : PA X [e] ta) (hs : starEach [e] X.env = [(false, eval e X.env)]) :
    PI X (.Tuple elts kk tpos) (.Call (.Name "enumerate" p) [e] [] pos) (iEnumX t X.K ta) := by
  refine ⟨fun pins s σ H R I h => ?_⟩
  refine Call_ (ld_blt I hg hm boot_enumerate (PyProof.Rows.callWith_type1 (thn (ha.run pos pins s σ H _ I h) fun us s1 ⟨vs, H1, I1, r1, q1⟩ => ?_) hs rfl))
  obtain ⟨a, xs, ex, hq, q⟩ := q1
  subst ex
  cases r1 with
  | cons r rr =>
    cases rr
    cases r
    obtain ⟨its, rv, p'⟩ := src_of I1 hq
    have hal := src_lt p'
    refine enum_begins1 (src_begins t a its.toArray) p' fun h' he hit hsz hk => wpAny_pyIter_enum he ?_
    have I2 : L2.Inv X pins σ H1 { s1 with heap := h' } := I1.kept (t' := s1.toks) hk
    refine ⟨s1.heap.objs.size + 1, [s1.heap.objs.size + 1, s1.heap.objs.size], _, _, H1, rfl, I2, turn_enumX t a (s1.heap.objs.size + 1) s1.heap.objs.size (Nat.ne_of_gt (Nat.lt_succ_of_lt hal)), ⟨⟨.none, he⟩, src_iter0 hit, Nat.succ_ne_self _⟩, fun b hb => ?_, q⟩
    have e' : b = s1.heap.objs.size + 1 ∨ b = s1.heap.objs.size := by simpa using hb
    have hle : s1.heap.objs.size ≤ b := by
      rcases e' with z | z
      · rw [z]; exact Nat.le_add_right _ _
      · rw [z]; exact Nat.le_refl _
    exact I1.fpOk hle (I1.hok.fresh hle)
/-! ### zip -/
def Itzx (t t2 : Bool) (K : PySem.W.Frag) (a b : Addr) : It :=
  ⟨fun i H => ∃ (xs ys : List V) (x y : V), SqX t K H a xs ∧ SqX t2 K H b ys ∧ xs[i]? = some x ∧ ys[i]? = some y,
    fun i H v H' => ∃ T x y, v = .ref T ∧ H T = none ∧ H' = upd H T (.tup [x, y]) ∧ (∀ xs, SqX t K H a xs → xs[i]? = some x) ∧ ∀ ys, SqX t2 K H b ys → ys[i]? = some y,
    fun i H => ∃ xs ys : List V, SqX t K H a xs ∧ SqX t2 K H b ys ∧ i ≤ xs.length ∧ i ≤ ys.length ∧ (i = xs.length ∨ i = ys.length)⟩
theorem turn_zipX {P : Program} {w : World} {K : PySem.W.Frag} {elts : List Expr} {kk : Nat} {tpos : Pos} (t t2 : Bool) {a b z TI TO i1 i2 : Addr} (D : ZipSep2 z TI TO i1 i2 [i1, a] [i2, b]) :
    Turn P w K (.Tuple elts kk tpos) (Itzx t t2 K a b) [z, TI, TO, i1, i2] z (fun i h => IsZip h z TI TO .none ∧ IsTupOf2 h TI (.ref i1) (.ref i2) ∧ (∃ x y, IsTupOf2 h TO x y) ∧ SrcIt t h i1 a i ∧ SrcIt t2 h i2 b i) where
  mem := by simp
  obj := fun i h st c hc => by
    obtain ⟨hz, hTI, ⟨x, y, hTO⟩, h1, h2⟩ := st
    have e' : c = z ∨ c = TI ∨ c = TO ∨ c = i1 ∨ c = i2 := by simpa using hc
    rcases e' with q | q | q | q | q
    · rw [q]; exact ⟨_, hz, fun v q => nomatch q⟩
    · rw [q]; exact ⟨_, hTI, fun v q => nomatch q⟩
    · rw [q]; exact ⟨_, hTO, fun v q => nomatch q⟩
    · rw [q]; exact src_obj h1
    · rw [q]; exact src_obj h2
  keep := fun i h h' st k => by
    obtain ⟨hz, hTI, ⟨x, y, hTO⟩, h1, h2⟩ := st
    exact ⟨k z (by simp) _ hz, k TI (by simp) _ hTI, ⟨x, y, k TO (by simp) _ hTO⟩, src_keep h1 fun o q => k i1 (by simp) o q, src_keep h2 fun o q => k i2 (by simp) o q⟩
  item := by
    intro X hP hw hK hc i pins s σ H E I hf st hg
    subst hP hw hK
    obtain ⟨hz, hTI, ⟨x0, y0, hTO⟩, h1, h2⟩ := st
    obtain ⟨xs, ys, x, y, hqx, hqy, hx, hy⟩ := hg
    obtain ⟨its, rv, p⟩ := src_of I hqx
    obtain ⟨its2, rv2, p2⟩ := src_of I hqy
    obtain ⟨u, hu, ru⟩ := rv.get hx
    obtain ⟨u2, hu2, ru2⟩ := rv2.get hy
    have hzl : z < s.heap.objs.size := Heap.lt_size hz
    have l1 : i < its.toArray.size := by simpa using (List.getElem?_eq_some_iff.mp hu).1
    have l2 : i < its2.toArray.size := by simpa using (List.getElem?_eq_some_iff.mp hu2).1
    have D1 : Draws X.prog X.w X.A.in1 i1 [i1, a] its.toArray.size (fun i v => its.toArray[i]? = some v) (fun i h => SrcIt t h i1 a i ∧ SrcAt t h a its.toArray) := src_draws t (show X.A.in1.handled = none from I.ok.hd hc) i1 a (src_ne h1 p) its.toArray
    have D2 : Draws X.prog X.w X.A.in1 i2 [i2, b] its2.toArray.size (fun i v => its2.toArray[i]? = some v) (fun i h => SrcIt t2 h i2 b i ∧ SrcAt t2 h b its2.toArray) := src_draws t2 (show X.A.in1.handled = none from I.ok.hd hc) i2 b (src_ne h2 p2) its2.toArray
    refine wpAny_pyNext_zipD2_item D D1 D2 hz hTI hTO ⟨h1, p⟩ ⟨h2, p2⟩ l1 l2 fun x1 x2 h' tk q1 q2 z' TO' h1' h2' hT hsz hk => ?_
    obtain rfl : x1 = u := by
      have e1 : its.toArray[i]? = some u := by simpa using hu
      rw [e1] at q1; exact (Option.some.inj q1).symm
    obtain rfl : x2 = u2 := by
      have e1 : its2.toArray[i]? = some u2 := by simpa using hu2
      rw [e1] at q2; exact (Option.some.inj q2).symm
    refine ⟨_, rfl, wpAny_letOwnedTupleGo_zip (s := { s with heap := h', toks := tk }) z' fun h'' z'' sb => ?_⟩
    have hT2 : h''.get? s.heap.objs.size = some { cls := .type "tuple", data := .seq #[x1, x2] } := (sb.2 _ (Nat.ne_of_gt hzl)).trans hT
    have new : ObjOk X.prog X.w (upd H s.heap.objs.size (.tup [x, y])) h'' s.heap.objs.size (.tup [x, y]) :=
      ⟨by show 2 ≤ sizeLine; decide, [x1, x2], .cons ru (.cons ru2 .nil), ⟨_, hT2, rfl, _, rfl⟩⟩
    have I1 : L2.Inv X pins σ (upd H s.heap.objs.size (.tup [x, y])) { s with heap := h'', toks := tk } :=
      I.turnedNew (ch := [z, TI, TO, i1, i2]) (fun c o hb q => (sb.2 c (fun q' => hb (by simp [q']))).trans (hk c o (fun q' => hb (by simp [q'])) (fun q' => hb (by simp [q'])) (fun q' => hb (by simp [q'])) (fun q' => hb (by simp [q'])) q)) hf (Nat.le_refl _) new
    refine ⟨.ref s.heap.objs.size, _, I1, rfl, ⟨_, x, y, rfl, I.hok.fresh (Nat.le_refl _), rfl, fun l hl => by rw [src_inj I hl hqx]; exact hx, fun l hl => by rw [src_inj I hl hqy]; exact hy⟩, ⟨z'', ?_, ⟨x1, x2, ?_⟩, ?_, ?_⟩, fun c hcm => ?_⟩
    · exact (sb.2 _ D.TIz).trans (hk _ _ D.TIz D.TITO D.TIi1 D.TIi2 hTI)
    · exact (sb.2 _ D.TOz).trans TO'
    · exact src_keep h1'.1 fun o q => (sb.2 _ (Ne.symm D.zi1)).trans q
    · exact src_keep h2'.1 fun o q => (sb.2 _ (Ne.symm D.zi2)).trans q
    · have hlt : c < s.heap.objs.size := by
        have e' : c = z ∨ c = TI ∨ c = TO ∨ c = i1 ∨ c = i2 := by simpa using hcm
        rcases e' with q | q | q | q | q
        · rw [q]; exact hzl
        · rw [q]; exact Heap.lt_size hTI
        · rw [q]; exact Heap.lt_size hTO
        · rw [q]; obtain ⟨_, e1, _⟩ := src_obj h1; exact Heap.lt_size e1
        · rw [q]; obtain ⟨_, e1, _⟩ := src_obj h2; exact Heap.lt_size e1
      rw [upd_ne (Nat.ne_of_lt hlt)]
      exact (hf c hcm).1
  done := by
    intro X hP hw hK hc i pins s σ H E I hf st hg
    subst hP hw hK
    obtain ⟨hz, hTI, ⟨x0, y0, hTO⟩, h1, h2⟩ := st
    obtain ⟨xs, ys, hqx, hqy, le1, le2, hend⟩ := hg
    obtain ⟨its, rv, p⟩ := src_of I hqx
    obtain ⟨its2, rv2, p2⟩ := src_of I hqy
    have l1 := rv.length
    have l2 := rv2.length
    have D1 : Draws X.prog X.w X.A.in1 i1 [i1, a] its.toArray.size (fun i v => its.toArray[i]? = some v) (fun i h => SrcIt t h i1 a i ∧ SrcAt t h a its.toArray) := src_draws t (show X.A.in1.handled = none from I.ok.hd hc) i1 a (src_ne h1 p) its.toArray
    have D2 : Draws X.prog X.w X.A.in1 i2 [i2, b] its2.toArray.size (fun i v => its2.toArray[i]? = some v) (fun i h => SrcIt t2 h i2 b i ∧ SrcAt t2 h b its2.toArray) := src_draws t2 (show X.A.in1.handled = none from I.ok.hd hc) i2 b (src_ne h2 p2) its2.toArray
    exact wpAny_pyNext_zipD2_end D D1 D2 hz hTI hTO ⟨h1, p⟩ ⟨h2, p2⟩ (by simp; omega) (by simp; omega) (by simp; omega) fun h' tk hk => ⟨rfl, I.turnedL (t' := tk) (ch := [z, TI, TO, i1, i2]) (fun c o hb q => hk c o (fun q' => hb (by simp [q'])) (fun q' => hb (by simp [q'])) (fun q' => hb (by simp [q'])) (fun q' => hb (by simp [q'])) q) hf⟩
  self := fun A i s Q E st h => wpAny_pyIter_zip st.1 h
def iZipX (t t2 : Bool) (K : PySem.W.Frag) (ta : TA) : TI := fun σ H R => ta σ H fun vs H1 => ∃ a b xs ys, vs = [.ref a, .ref b] ∧ SqX t K H1 a xs ∧ SqX t2 K H1 b ys ∧ R (Itzx t t2 K a b) H1
theorem pi_zipX {X : Cx} {e e2 : Expr} {ta : TA} {p pos tpos : Pos} {elts : List Expr} {kk : Nat} (t t2 : Bool) (hg : Gl X "zip") (hm : X.mg "zip" = none) (ha : PA X [e, e2] ta)
    (hs : starEach [e, e2] X.env = (false, eval e X.env) :: starEach [e2] X.env) (hpl : (backTo pos (starEach [e2] X.env)).any (·.1) = false) :
    PI X (.Tuple elts kk tpos) (.Call (.Name "zip" p) [e, e2] [] pos) (iZipX t t2 X.K ta) := by
  refine ⟨fun pins s σ H R I h => ?_⟩
  refine Call_ (ld_blt I hg hm PyProof.Rows.boot_zip (PyProof.Rows.callWith_type1 (thn (ha.run pos pins s σ H _ I h) fun us s1 ⟨vs, H1, I1, r1, q1⟩ => ?_) hs hpl))
  obtain ⟨a, b, xs, ys, ex, hqx, hqy, q⟩ := q1
  subst ex
  cases r1 with
  | cons r rr =>
    cases rr with
    | cons r' rr =>
      cases rr
      cases r
      cases r'
      obtain ⟨its, rv, p1⟩ := src_of I1 hqx
      obtain ⟨its2, rv2, p2⟩ := src_of I1 hqy
      have la := src_lt p1
      have lb := src_lt p2
      refine zip_begins2 (src_begins t a its.toArray) (src_begins t2 b its2.toArray) p1 p2 fun h' hz hTI hTO h1 h2 hsz hk => wpAny_pyIter_zip hz ?_
      have I2 : L2.Inv X pins σ H1 { s1 with heap := h' } := I1.kept (t' := s1.toks) hk
      refine ⟨s1.heap.objs.size + 4, [s1.heap.objs.size + 4, s1.heap.objs.size + 2, s1.heap.objs.size + 3, s1.heap.objs.size, s1.heap.objs.size + 1], _, _, H1, rfl, I2, turn_zipX t t2 (zip_sep2 (fp1 := [a]) (fp2 := [b]) (fun c hc => by rw [List.mem_singleton.mp hc]; exact la) fun c hc => by rw [List.mem_singleton.mp hc]; exact lb), ⟨hz, hTI, ⟨_, _, hTO⟩, src_iter0 h1, src_iter0 h2⟩, fun c hcm => ?_, q⟩
      have e' : c = s1.heap.objs.size + 4 ∨ c = s1.heap.objs.size + 2 ∨ c = s1.heap.objs.size + 3 ∨ c = s1.heap.objs.size ∨ c = s1.heap.objs.size + 1 := by simpa using hcm
      have hle : s1.heap.objs.size ≤ c := by
        rcases e' with z | z | z | z | z
        · rw [z]; exact Nat.le_add_right _ _
        · rw [z]; exact Nat.le_add_right _ _
        · rw [z]; exact Nat.le_add_right _ _
        · rw [z]; exact Nat.le_refl _
        · rw [z]; exact Nat.le_add_right _ _
      exact I1.fpOk hle (I1.hok.fresh hle)
/-! ### by data -/
section
variable {X : Cx} {S S1 S2 : ASt} {e e2 : Expr} {d d2 : PyData} {ds es : List PyData} {p pos tpos : Pos} {elts : List Expr} {kk : Nat}
theorem src_data {K : PySem.W.Frag} {F H : Hp} {v : V} (sm : Same F H) (h : Da F v d) (hd : d = .list ds ∨ d = .tuple ds) : ∃ t a xs, v = .ref a ∧ Das F xs ds ∧ ∀ F2 H2, Same F F2 → Same F2 H2 → SqX t K H2 a xs := by
  rcases hd with rfl | rfl
  · cases h with
    | @lst a xs _ q r => exact ⟨false, a, xs, rfl, r, fun F2 H2 s1 s2 => .inl (Rd.same (s1.trans s2) q)⟩
  · cases h with
    | @tup a xs _ q r => exact ⟨true, a, xs, rfl, r, fun F2 H2 s1 s2 => .inl (Rd.same (s1.trans s2) q)⟩
abbrev enumD (ds : List PyData) : List PyData := ds.mapIdx fun i d => .tuple [.int (i : Nat), d]
theorem it_enum (h : Ev X e S d S1) (hd : d = .list ds ∨ d = .tuple ds) (hm : X.mg "enumerate" = none) (hg : Gl X "enumerate" := by rfl) (hs : starEach [e] X.env = (false, eval e X.env) :: starEach [] X.env := by exact star_plain rfl) (hs1 : starEach [e] X.env = [(false, eval e X.env)] := by exact star_plain rfl) :
    ItD X (.Tuple elts kk tpos) (.Call (.Name "enumerate" p) [e] [] pos) S (enumD ds) S1 := by
  have core : ∀ t, PI X (.Tuple elts kk tpos) (.Call (.Name "enumerate" p) [e] [] pos) (iEnumX t X.K (fun σ H Q => WPa X [e] σ H Q)) := fun t => pi_enumX t hg hm (paW X [e]) hs1
  have all : PI X (.Tuple elts kk tpos) (.Call (.Name "enumerate" p) [e] [] pos) (fun σ H R => ∃ t, iEnumX t X.K (fun σ H Q => WPa X [e] σ H Q) σ H R) := ⟨fun pins s σ H R I ⟨t, h⟩ => (core t).run pins s σ H R I h⟩
  refine ⟨_, all, fun F H σ st R k => ?_⟩
  have hd' : ∃ t, ∀ F v, Da F v d → ∃ a xs, v = .ref a ∧ Das F xs ds ∧ ∀ F2 H2, Same F F2 → Same F2 H2 → SqX t X.K H2 a xs := by
    rcases hd with rfl | rfl
    · refine ⟨false, fun F v h => ?_⟩
      cases h with
      | @lst a xs _ q r => exact ⟨a, xs, rfl, r, fun F2 H2 s1 s2 => .inl (Rd.same (s1.trans s2) q)⟩
    · refine ⟨true, fun F v h => ?_⟩
      cases h with
      | @tup a xs _ q r => exact ⟨a, xs, rfl, r, fun F2 H2 s1 s2 => .inl (Rd.same (s1.trans s2) q)⟩
  obtain ⟨t, ht⟩ := hd'
  refine ⟨t, (eva_cons h eva_nil hs) F H σ st _ fun vs F1 H1 p w => ?_⟩
  cases w with
  | cons w1 r =>
    cases r
    obtain ⟨a, xs, rfl, r, sq⟩ := ht _ _ w1
    refine ⟨a, xs, rfl, sq _ _ (Same.refl _) p.st.same, k _ F1 H1 p ⟨fun F2 H2 i d s1 s2 e => ?_, fun F2 H2 s1 s2 => ?_⟩⟩
    · rw [List.getElem?_mapIdx, Option.map_eq_some_iff] at e
      obtain ⟨d0, e, rfl⟩ := e
      obtain ⟨v, h1, h2⟩ := r.get e
      refine ⟨⟨xs, v, sq _ _ s1 s2, h1⟩, fun x H' y => ?_⟩
      obtain ⟨T, x0, rfl, hT, rfl, y⟩ := y
      have := y xs (sq _ _ s1 s2)
      rw [h1] at this; cases this
      refine ⟨_, .inr ⟨T, _, hT, rfl, rfl⟩, .tup rd_new ?_⟩
      have hF : F2 T = none := by
        cases eF : F2 T with
        | none => rfl
        | some o => rw [s2 _ _ eF] at hT; cases hT
      exact .cons (.int _) (.cons (Da.mono (s1.trans (same_upd hF)) _ _ h2) .nil)
    · exact ⟨xs, sq _ _ s1 s2, by rw [r.length, List.length_mapIdx]⟩
abbrev zipD (ds es : List PyData) : List PyData := List.zipWith (fun d e => .tuple [d, e]) ds es
theorem it_zip (h : Ev X e S d S1) (h2 : Ev X e2 S1 d2 S2) (hd : d = .list ds ∨ d = .tuple ds) (hd2 : d2 = .list es ∨ d2 = .tuple es) (hm : X.mg "zip" = none) (hg : Gl X "zip" := by rfl)
    (hs : starEach [e, e2] X.env = (false, eval e X.env) :: starEach [e2] X.env := by exact star_plain rfl) (hs2 : starEach [e2] X.env = (false, eval e2 X.env) :: starEach [] X.env := by exact star_plain rfl) (hpl : (backTo pos (starEach [e2] X.env)).any (·.1) = false := by exact back_plain rfl) :
    ItD X (.Tuple elts kk tpos) (.Call (.Name "zip" p) [e, e2] [] pos) S (zipD ds es) S2 := by
  have core : ∀ t t2, PI X (.Tuple elts kk tpos) (.Call (.Name "zip" p) [e, e2] [] pos) (iZipX t t2 X.K (fun σ H Q => WPa X [e, e2] σ H Q)) := fun t t2 => pi_zipX t t2 hg hm (paW X [e, e2]) hs hpl
  have all : PI X (.Tuple elts kk tpos) (.Call (.Name "zip" p) [e, e2] [] pos) (fun σ H R => ∃ t t2, iZipX t t2 X.K (fun σ H Q => WPa X [e, e2] σ H Q) σ H R) := ⟨fun pins s σ H R I ⟨t, t2, h⟩ => (core t t2).run pins s σ H R I h⟩
  refine ⟨_, all, fun F H σ st R k => ?_⟩
  have hd' : ∀ {d : PyData} {ds : List PyData}, (d = .list ds ∨ d = .tuple ds) → ∃ t, ∀ F v, Da F v d → ∃ a xs, v = .ref a ∧ Das F xs ds ∧ ∀ F2 H2, Same F F2 → Same F2 H2 → SqX t X.K H2 a xs := by
    intro d ds hd
    rcases hd with rfl | rfl
    · refine ⟨false, fun F v h => ?_⟩
      cases h with
      | @lst a xs _ q r => exact ⟨a, xs, rfl, r, fun F2 H2 s1 s2 => .inl (Rd.same (s1.trans s2) q)⟩
    · refine ⟨true, fun F v h => ?_⟩
      cases h with
      | @tup a xs _ q r => exact ⟨a, xs, rfl, r, fun F2 H2 s1 s2 => .inl (Rd.same (s1.trans s2) q)⟩
  obtain ⟨t, ht⟩ := hd' hd
  obtain ⟨t2, ht2⟩ := hd' hd2
  refine ⟨t, t2, (eva_cons h (eva_cons h2 eva_nil hs2) hs) F H σ st _ fun vs F1 H1 p w => ?_⟩
  cases w with
  | cons w1 r =>
    cases r with
    | cons w2 r =>
      cases r
      obtain ⟨a, xs, rfl, r, sq⟩ := ht _ _ w1
      obtain ⟨b, ys, rfl, r2, sq2⟩ := ht2 _ _ w2
      refine ⟨a, b, xs, ys, rfl, sq _ _ (Same.refl _) p.st.same, sq2 _ _ (Same.refl _) p.st.same, k _ F1 H1 p ⟨fun F2 H2 i d s1 s2 e => ?_, fun F2 H2 s1 s2 => ?_⟩⟩
      · rw [List.getElem?_zipWith] at e
        have : ∃ d0 e0, ds[i]? = some d0 ∧ es[i]? = some e0 ∧ d = .tuple [d0, e0] := by
          cases h1 : ds[i]? with
          | none => rw [h1] at e; simp at e
          | some d0 =>
            cases h2 : es[i]? with
            | none => rw [h1, h2] at e; simp at e
            | some e0 => rw [h1, h2] at e; exact ⟨d0, e0, rfl, rfl, (Option.some.inj e).symm⟩
        obtain ⟨d0, e0, g1, g2, rfl⟩ := this
        obtain ⟨v, h1, h2⟩ := r.get g1
        obtain ⟨u, h3, h4⟩ := r2.get g2
        refine ⟨⟨xs, ys, v, u, sq _ _ s1 s2, sq2 _ _ s1 s2, h1, h3⟩, fun x H' y => ?_⟩
        obtain ⟨T, x0, y0, rfl, hT, rfl, y, y'⟩ := y
        have := y xs (sq _ _ s1 s2)
        rw [h1] at this; cases this
        have := y' ys (sq2 _ _ s1 s2)
        rw [h3] at this; cases this
        refine ⟨_, .inr ⟨T, _, hT, rfl, rfl⟩, .tup rd_new ?_⟩
        have hF : F2 T = none := by
          cases eF : F2 T with
          | none => rfl
          | some o => rw [s2 _ _ eF] at hT; cases hT
        exact .cons (Da.mono (s1.trans (same_upd hF)) _ _ h2) (.cons (Da.mono (s1.trans (same_upd hF)) _ _ h4) .nil)
      · refine ⟨xs, ys, sq _ _ s1 s2, sq2 _ _ s1 s2, ?_⟩
        have l1 := r.length
        have l2 := r2.length
        rw [List.length_zipWith]
        omega
end
end SH
/-! SHz: how a Book comes about: its joins in a row; contracts. -/
namespace SH
open PySem PySem.Spec PyProof.Rows L2
/-- a join: of the told pair k, or of two wholes -/
structure Ed where
  a : T
  b : T
  k : Option Nat
def Ed.there (e : Ed) : PyData := match e.k with
  | some k => .tuple [.str "told", .int (k : Nat), .int 0]
  | none => .none
def Ed.back (e : Ed) : PyData := match e.k with
  | some k => .tuple [.str "told", .int (k : Nat), .int 1]
  | none => .none
inductive Tr (E : List (T × T)) (ts : List T) : (T → T) → List Ed → Prop
  | nil : Tr E ts id []
  | told {h : T → T} {js : List Ed} {k : Nat} {a b : T} : Tr E ts h js → E[k]? = some (a, b) → a ∈ ts → b ∈ ts → h a ≠ h b → Tr E ts (joinH h a b) (js ++ [⟨a, b, some k⟩])
  | whole {h : T → T} {js : List Ed} {a b : T} : Tr E ts h js → a ∈ ts → b ∈ ts → keyT h a = keyT h b → h a ≠ h b → Tr E ts (joinH h a b) (js ++ [⟨a, b, none⟩])
theorem Tr.sound {E : List (T × T)} {ts : List T} (c : ClosedT ts) : ∀ {h : T → T} {js : List Ed}, Tr E ts h js → Sound E ts h
  | _, _, .nil => .start E ts
  | _, _, .told t e ha hb _ => t.sound c |>.join ha hb (.ax (List.mem_of_getElem? e))
  | _, _, .whole t ha hb e _ => (t.sound c).join ha hb ((t.sound c).key c ha hb e)
theorem roots_id (ts : List T) : roots ts id = ts.length := by
  unfold roots
  rw [List.filter_eq_self.mpr fun t _ => decide_eq_true (show id t = t from rfl)]
theorem Tr.few {E : List (T × T)} {ts : List T} (c : ClosedT ts) : ∀ {h : T → T} {js : List Ed}, Tr E ts h js → js.length + roots ts h ≤ ts.length
  | _, _, .nil => by rw [roots_id]; simp
  | _, _, .told t e ha hb n => by
    have h1 := t.few c
    have h2 := roots_join (t.sound c) ha hb n
    rw [List.length_append, List.length_singleton]; omega
  | _, _, .whole t ha hb e n => by
    have h1 := t.few c
    have h2 := roots_join (t.sound c) ha hb n
    rw [List.length_append, List.length_singleton]; omega
/-- the links of a term -/
def edL (e : Ed) (t : T) : List PyData := (if e.a = t then [.tuple [e.b.enc, e.there]] else []) ++ (if e.b = t then [.tuple [e.a.enc, e.back]] else [])
def linksOf (js : List Ed) (t : T) : List PyData := js.flatMap fun e => edL e t
theorem edL_len (e : Ed) (t : T) : (edL e t).length ≤ 2 := by
  unfold edL
  rw [List.length_append]
  split <;> split <;> simp
theorem linksOf_len (js : List Ed) (t : T) : (linksOf js t).length ≤ 2 * js.length := by
  unfold linksOf
  induction js with
  | nil => simp
  | cons e r ih =>
    rw [List.flatMap_cons, List.length_append, List.length_cons]
    have := edL_len e t
    omega
theorem linksOf_app (js : List Ed) (e : Ed) (t : T) : linksOf (js ++ [e]) t = linksOf js t ++ edL e t := by
  unfold linksOf
  rw [List.flatMap_append, List.flatMap_cons, List.flatMap_nil, List.append_nil]
structure LsAre (ts : List T) (js : List Ed) (ls : List LKv) : Prop where
  keys : ls.map (·.1) = ts.map T.key
  its : ∀ x ∈ ls, ∀ t, x.1 = t.key → x.2.2 = linksOf js t
theorem LsAre.ok {E : List (T × T)} {ts : List T} {h : T → T} {js : List Ed} {ls : List LKv} (l : LsAre ts js ls) (c : ClosedT ts) (o : TsOk ts) (t : Tr E ts h js) : LsOk ts h ls := by
  refine ⟨l.keys, fun x hx => ?_⟩
  have hm : x.1 ∈ ls.map (·.1) := List.mem_map.mpr ⟨x, hx, rfl⟩
  rw [l.keys] at hm
  obtain ⟨u, _, hu⟩ := List.mem_map.mp hm
  rw [l.its x hx u hu.symm]
  have h1 := linksOf_len js u
  have h2 := t.few c
  have h3 := o.len
  omega
theorem lput_mem {ls : List LKv} {k : NestedKey} {d : PyData} {x : LKv} (hx : x ∈ lput ls k d) : ∃ y ∈ ls, x.1 = y.1 ∧ x.2.2 = y.2.2 ++ (if y.1 = k then [d] else []) := by
  unfold lput at hx
  obtain ⟨y, hy, rfl⟩ := List.mem_map.mp hx
  refine ⟨y, hy, ?_⟩
  split
  · exact ⟨rfl, rfl⟩
  · exact ⟨rfl, by simp⟩
theorem LsAre.join {ts : List T} {js : List Ed} {ls : List LKv} (l : LsAre ts js ls) (e : Ed) : LsAre ts (js ++ [e]) (linkJ ls e.a e.b e.there e.back) := by
  refine ⟨by unfold linkJ; rw [lput_keys, lput_keys]; exact l.keys, fun x hx t ht => ?_⟩
  obtain ⟨y, hy, e1, e2⟩ := lput_mem hx
  obtain ⟨z, hz, e3, e4⟩ := lput_mem hy
  have hzt : z.1 = t.key := by rw [← e3, ← e1, ht]
  have hyt : y.1 = t.key := by rw [← e1, ht]
  rw [e2, e4, l.its z hz t hzt, linksOf_app, List.append_assoc, hzt, hyt]
  unfold edL
  have ha : (t.key = e.a.key) = (e.a = t) := propext ⟨fun q => (T.key_inj q).symm, fun q => by rw [q]⟩
  have hb : (t.key = e.b.key) = (e.b = t) := propext ⟨fun q => (T.key_inj q).symm, fun q => by rw [q]⟩
  simp only [ha, hb]
/-- told pairs as data -/
def pairD (p : T × T) : PyData := .tuple [p.1.enc, p.2.enc]
abbrev toldD (E : List (T × T)) : PyData := .tuple (E.map pairD)
def flatE (E : List (T × T)) : List T := E.flatMap fun p => [p.1, p.2]
theorem flatE_mem {E : List (T × T)} {p : T × T} (h : p ∈ E) : p.1 ∈ flatE E ∧ p.2 ∈ flatE E :=
  ⟨List.mem_flatMap.mpr ⟨p, h, by simp⟩, List.mem_flatMap.mpr ⟨p, h, by simp⟩⟩
abbrev tsOf (E : List (T × T)) (us : List T) : List T := parts (us ++ flatE E)
/-- what is asked of told pairs and terms -/
structure Sm (E : List (T × T)) (us : List T) : Prop where
  ok : ∀ u ∈ us ++ flatE E, u.Ok
  dep : ∀ u ∈ us ++ flatE E, u.depth ≤ 7
  sz : ((us ++ flatE E).map T.size).sum ≤ 50000
theorem flatE_len (E : List (T × T)) : (flatE E).length = 2 * E.length := by
  unfold flatE
  induction E with
  | nil => rfl
  | cons p r ih => rw [List.flatMap_cons, List.length_append, ih, List.length_cons]; simp; omega
theorem Sm.few {E : List (T × T)} {us : List T} (s : Sm E us) : us.length + 2 * E.length ≤ 50000 := by
  have h1 := sum_ge_len (us ++ flatE E)
  rw [List.length_append, flatE_len] at h1
  exact Nat.le_trans h1 s.sz
theorem srtT_len (ts : List T) : (srtT ts).length = ts.length := List.length_mergeSort ..
theorem Sm.ts {E : List (T × T)} {us : List T} (s : Sm E us) : TsOk (tsOf E us) := by
  refine ⟨parts_nodup _, fun t ht => ?_, fun t ht => ?_, ?_⟩
  · obtain ⟨u, hu, h⟩ := parts_mem.mp ht
    exact all_ok (s.ok u hu) h
  · obtain ⟨u, hu, h⟩ := parts_mem.mp ht
    exact Nat.le_trans (all_depth h) (s.dep u hu)
  · show (srtT _).length ≤ _
    rw [srtT_len]
    have := gathL_len (us ++ flatE E) []
    have := s.sz
    simp only [List.length_nil] at *
    omega
theorem tsOf_us {E : List (T × T)} {us : List T} {u : T} (h : u ∈ us) : u ∈ tsOf E us := parts_mem.mpr ⟨u, List.mem_append_left _ h, all_self u⟩
theorem tsOf_E {E : List (T × T)} {us : List T} {p : T × T} (h : p ∈ E) : p.1 ∈ tsOf E us ∧ p.2 ∈ tsOf E us :=
  ⟨parts_mem.mpr ⟨p.1, List.mem_append_right _ (flatE_mem h).1, all_self _⟩, parts_mem.mpr ⟨p.2, List.mem_append_right _ (flatE_mem h).2, all_self _⟩⟩
/-- a Book as it should be -/
structure BkIs (E : List (T × T)) (ts : List T) (h : T → T) (js : List Ed) (ls : List LKv) : Prop where
  hs : Homes E ts h
  tr : Tr E ts h js
  ls : LsAre ts js ls
def ct_wholes : Ct := fun args Q => ∃ (q dx C hp lp : Addr) (ts : List T) (E : List (T × T)) (h : T → T) (js : List Ed) (ls : List LKv), args = [bk q dx C hp lp ts h ls] ∧ TsOk ts ∧ ClosedT ts ∧ Tr E ts h js ∧ LsAre ts js ls ∧
  ∀ (h' : T → T) (js' : List Ed) (ls' : List LKv) (new : Bool), Tr E ts h' js' → LsAre ts js' ls' → (∀ t u, h t = h u → h' t = h' u) → (new = false → ClosedH ts h') → (new = true → roots ts h' < roots ts h) → Q (.dat (.bool new)) [bk q dx C hp lp ts h' ls']
theorem mo_wholes : ∀ args Q Q', (∀ r a, Q r a → Q' r a) → ct_wholes args Q → ct_wholes args Q' := fun _ _ _ h ⟨q, dx, C, hp, lp, ts, E, h0, js, ls, e, h1, h2, h3, h4, k⟩ => ⟨q, dx, C, hp, lp, ts, E, h0, js, ls, e, h1, h2, h3, h4, fun h' js' ls' new g1 g2 g3 g4 g5 => h _ _ (k h' js' ls' new g1 g2 g3 g4 g5)⟩
def ct_init : Ct := fun args Q => ∃ (q dx C : Addr) (E : List (T × T)) (us : List T) (d : PyData), args = [.ins q dx C [], .dat (toldD E), .dat d] ∧ (d = .list (us.map T.enc) ∨ d = .tuple (us.map T.enc)) ∧ Sm E us ∧
  ∀ (hp lp : Addr) (h : T → T) (js : List Ed) (ls : List LKv), BkIs E (tsOf E us) h js ls → Q (.dat .none) [bk q dx C hp lp (tsOf E us) h ls, .dat (toldD E), .dat d]
theorem mo_init : ∀ args Q Q', (∀ r a, Q r a → Q' r a) → ct_init args Q → ct_init args Q' := fun _ _ _ h ⟨q, dx, C, E, us, d, e, h1, h2, k⟩ => ⟨q, dx, C, E, us, d, e, h1, h2, fun hp lp h0 js ls b => h _ _ (k hp lp h0 js ls b)⟩
/-! ### the passes' firsts as a dict -/
abbrev fkv (fs : List (T × T)) : List (NestedKey × PyData) := fs.map fun x => (x.1.key, x.2.enc)
theorem nget_fkv (fs : List (T × T)) (k : T) : nget (fkv fs) k.key = (fget fs k).map T.enc := by
  unfold nget fget
  induction fs with
  | nil => rfl
  | cons x r ih =>
    rw [fkv, List.map_cons, List.find?_cons, List.find?_cons]
    by_cases e : x.1 = k
    · have h1 : decide (x.1.key = k.key) = true := decide_eq_true (by rw [e])
      have h2 : decide (x.1 = k) = true := decide_eq_true e
      rw [h1, h2]; rfl
    · have h1 : decide (x.1.key = k.key) = false := decide_eq_false fun z => e (T.key_inj z)
      have h2 : decide (x.1 = k) = false := decide_eq_false e
      rw [h1, h2]; exact ih
theorem nput_fkv {fs : List (T × T)} {k u : T} (h : fget fs k = none) : nput (fkv fs) k.key u.enc = fkv (fs ++ [(k, u)]) := by
  unfold nput
  rw [nget_fkv, h]
  show fkv fs ++ _ = _
  rw [fkv, fkv, List.map_append, List.map_cons, List.map_nil]
theorem keyT_depth {h : T → T} {t : T} {n : Nat} (hh : ∀ p ∈ t.ps, (h p).depth ≤ n) (hn : 1 ≤ n) : (keyT h t).depth ≤ n + 1 := by
  cases t with
  | t0 x => simp [keyT, T.depth]
  | t1 x a =>
    have := hh a (by simp [T.ps])
    simp only [keyT, T.depth]; omega
  | t2 x a b =>
    have := hh a (by simp [T.ps])
    have := hh b (by simp [T.ps])
    simp only [keyT, T.depth]; omega
/-- first's keys, told at an earlier time, and the homes now -/
theorem key_now {E : List (T × T)} {ts : List T} {h h' : T → T} (c : ClosedT ts) (s' : Sound E ts h') (s : Sound E ts h) (kp : ∀ t u, h' t = h' u → h t = h u) {t u : T} (ht : t ∈ ts) (hu : u ∈ ts) (e : keyT h t = keyT h' u) : keyT h u = keyT h t := by
  have hp : ∀ p ∈ t.ps, p ∈ ts := c t ht
  have hq : ∀ p ∈ u.ps, p ∈ ts := c u hu
  have one : ∀ a b, a ∈ ts → b ∈ ts → h a = h' b → h b = h a := fun a b ha hb e => by
    have h1 : h' b = h' (h' b) := (s'.idem b hb).symm
    have h2 := kp _ _ h1
    rw [h2, ← e, s.idem a ha]
  cases t with
  | t0 x =>
    cases u with
    | t0 y => exact e.symm
    | t1 _ _ => cases e
    | t2 _ _ _ => cases e
  | t1 x a =>
    cases u with
    | t0 _ => cases e
    | t1 y b =>
      simp only [keyT, T.t1.injEq] at e ⊢
      exact ⟨e.1.symm, one a b (hp a (by simp [T.ps])) (hq b (by simp [T.ps])) e.2⟩
    | t2 _ _ _ => cases e
  | t2 x a a2 =>
    cases u with
    | t0 _ => cases e
    | t1 _ _ => cases e
    | t2 y b b2 =>
      simp only [keyT, T.t2.injEq] at e ⊢
      exact ⟨e.1.symm, one a b (hp a (by simp [T.ps])) (hq b (by simp [T.ps])) e.2.1, one a2 b2 (hp a2 (by simp [T.ps])) (hq b2 (by simp [T.ps])) e.2.2⟩
/-- the first keys are short -/
structure FsOk (ts : List T) (fs : List (T × T)) : Prop where
  dep : ∀ x ∈ fs, x.1.depth ≤ 8
  len : fs.length ≤ ts.length
/-- a step of a pass, with its joins and links -/
structure PassTr (E : List (T × T)) (ts : List T) (h0 : T → T) (i : Nat) (p : Pass) (js : List Ed) (ls : List LKv) : Prop where
  ok : PassOk E ts h0 (ts.take i) p
  tr : Tr E ts p.h js
  ls : LsAre ts js ls
  len : p.first.length ≤ i
theorem PassTr.start {E : List (T × T)} {ts : List T} {h0 : T → T} {js : List Ed} {ls : List LKv} (c : ClosedT ts) (t : Tr E ts h0 js) (l : LsAre ts js ls) : PassTr E ts h0 0 ⟨[], h0, false⟩ js ls :=
  ⟨by rw [List.take_zero]; exact .start (t.sound c), t, l, Nat.le_refl _⟩
theorem PassTr.step {E : List (T × T)} {ts : List T} {h0 : T → T} {i : Nat} {p : Pass} {js : List Ed} {ls : List LKv} (k : PassTr E ts h0 i p js ls) (c : ClosedT ts) (s0 : Sound E ts h0) {t : T} (e : ts[i]? = some t) :
    (fget p.first (keyT p.h t) = none ∧ PassTr E ts h0 (i + 1) { p with first := p.first ++ [(keyT p.h t, t)] } js ls) ∨
    ∃ u, fget p.first (keyT p.h t) = some u ∧ u ∈ ts ∧ ((p.h u = p.h t ∧ PassTr E ts h0 (i + 1) p js ls) ∨
      (p.h u ≠ p.h t ∧ ∃ js', PassTr E ts h0 (i + 1) { p with h := joinH p.h u t, new := true } js' (linkJ ls u t .none .none))) := by
  have ht : t ∈ ts := List.mem_of_getElem? e
  have st := k.ok.step c s0 ht
  have et : ts.take i ++ [t] = ts.take (i + 1) := by rw [List.take_add_one, e]; rfl
  rw [et] at st
  unfold passStep at st
  cases hf : fget p.first (keyT p.h t) with
  | none =>
    rw [hf] at st
    exact .inl ⟨rfl, st, k.tr, k.ls, by simp only [List.length_append, List.length_singleton]; have := k.len; omega⟩
  | some u =>
    rw [hf] at st
    replace st : PassOk E ts h0 (ts.take (i + 1)) (if p.h u = p.h t then p else { p with h := joinH p.h u t, new := true }) := st
    obtain ⟨hu, h', s', hk, kk⟩ := k.ok.fst _ (fget_mem hf)
    refine .inr ⟨u, rfl, hu, ?_⟩
    by_cases eh : p.h u = p.h t
    · rw [if_pos eh] at st
      exact .inl ⟨eh, st, k.tr, k.ls, Nat.le_succ_of_le k.len⟩
    · rw [if_neg eh] at st
      refine .inr ⟨eh, js ++ [⟨u, t, none⟩], st, .whole k.tr hu ht (key_now c s' k.ok.s kk ht hu hk) eh, k.ls.join ⟨u, t, none⟩, Nat.le_succ_of_le k.len⟩
theorem PassTr.key_dep {E : List (T × T)} {ts : List T} {h0 : T → T} {i : Nat} {p : Pass} {js : List Ed} {ls : List LKv} (k : PassTr E ts h0 i p js ls) (c : ClosedT ts) (o : TsOk ts) {t : T} (ht : t ∈ ts) : (keyT p.h t).depth ≤ 8 :=
  keyT_depth (fun q hq => o.dep7 _ (k.ok.s.mem q (c t ht q hq))) (by decide)
/-! ### methods' calls, the arguments data -/
section
variable {X : Cx} {S S1 : ASt} {e : Expr} {es : List Expr} {d : PyData} {pos apos np : Pos} {x m : Str} {k n : Nat} {ct : Ct} {C : Addr}
theorem ab_of_data {ds : List PyData} (h : EvA X es S ds S1) : EvAB X es S (ds.map .d) S1 := fun F H σ st Q q => by
  refine h F H σ st Q fun vs F' H' p w => q vs F' H' p ?_
  have : ∀ {vs : List V} {ds : List PyData}, Das F' vs ds → ArRel F' σ vs (ds.map .d) := fun {vs ds} w => by
    induction ds generalizing vs with
    | nil => cases w; exact .nil
    | cons d r ih =>
      cases w with
      | cons w1 w2 => exact .cons w1 (ih w2)
  exact this w
theorem arOV_data (S : ASt) (ds : List PyData) : (ds.map Ar.d).map (arOV S) = ds.map .dat := by rw [List.map_map]; rfl
theorem putBack_data (S : ASt) : ∀ ds : List PyData, putBack S (ds.map .d) (ds.map .dat) = S
  | [] => rfl
  | _ :: r => putBack_data S r
theorem slots_data (ds : List PyData) : slotsOf (ds.map .d) = [] := by
  induction ds with
  | nil => rfl
  | cons _ _ ih => exact ih
theorem evq_methD {R : OV → ASt → Prop} {ds : List PyData} (i : Nat) {q dx : Addr} {fs : List (Str × OV)} {pl : Sem Bool} (cl : Cls X.K C) (G : Fm X.prog X.w X.K X.mg X.base C m k n ct) (hr : Room k X.A) (hS0 : S[i]? = some (some (.ins q dx C fs))) (hm : fs.lookup m = none) (ha : EvA X (e :: es) S ds S1) (hS1 : S1[i]? = some (some (.ins q dx C fs)))
    (hc : ct (.ins q dx C fs :: ds.map .dat) fun r args' => ∃ ov', args' = ov' :: ds.map .dat ∧ R r (S1.set i (some ov'))) (hn : ds.length + 1 = n := by rfl) (hN : X.N[i]? = some x := by rfl) (hv : Vis X.env.scope x := by first | exact Or.inl rfl | exact Or.inr (Or.inl rfl) | exact Or.inr (Or.inr rfl))
    (hd : (x == ("__debug__" : Str)) = false := by decide) (hcd : (x == ("__classdict__" : Str)) = false := by decide)
    (he : starEach (e :: es) X.env = (false, eval e X.env) :: starEach es X.env := by exact star_plain rfl) (hpl : (backTo pos (starEach es X.env)).any (·.1) = false := by exact back_plain rfl)
    (ht : eval (.Call (.Attribute (.Name x np) m apos) (e :: es) [] pos) X.env = (do
      let ov ← eval (.Name x np) X.env
      standAt apos.atName
      let (f, first) ← holding [ov] (getMethod ov m pl)
      callWith pos f first (backTo pos (starEach (e :: es) X.env)) (backToKw pos (keywordEach [] X.env))) := by rfl) : EVQ X (.Call (.Attribute (.Name x np) m apos) (e :: es) [] pos) S R := by
  refine evq_meth i cl G hr hS0 hm (ab_of_data ha) hS1 ?_ (by rw [List.length_cons, List.length_map]; exact hn) (by rw [slotsOf, slots_data]; simp) (fun j hj => ?_) hN hv hd hcd he hpl ht
  · rw [List.map_cons, arOV_data, arOV_b hS1]
    refine G.mono _ _ _ (fun r a h => ?_) hc
    obtain ⟨ov', rfl, h⟩ := h
    show R r (putBack (S1.set i (some ov')) (ds.map .d) (ds.map .dat))
    rw [putBack_data]; exact h
  · rw [slotsOf, slots_data, List.mem_singleton] at hj
    subst hj
    exact ⟨_, hS1⟩
/-- .. that comes to a datum -/
theorem ev_meth {ov' : OV} {ds : List PyData} (i : Nat) {q dx : Addr} {fs : List (Str × OV)} {pl : Sem Bool} (cl : Cls X.K C) (G : Fm X.prog X.w X.K X.mg X.base C m k n ct) (hr : Room k X.A) (hS0 : S[i]? = some (some (.ins q dx C fs))) (hm : fs.lookup m = none) (ha : EvA X (e :: es) S ds S1) (hS1 : S1[i]? = some (some (.ins q dx C fs)))
    (hc : ct (.ins q dx C fs :: ds.map .dat) fun r args' => r = .dat d ∧ args' = ov' :: ds.map .dat) (hn : ds.length + 1 = n := by rfl) (hN : X.N[i]? = some x := by rfl) (hv : Vis X.env.scope x := by first | exact Or.inl rfl | exact Or.inr (Or.inl rfl) | exact Or.inr (Or.inr rfl))
    (hd : (x == ("__debug__" : Str)) = false := by decide) (hcd : (x == ("__classdict__" : Str)) = false := by decide)
    (he : starEach (e :: es) X.env = (false, eval e X.env) :: starEach es X.env := by exact star_plain rfl) (hpl : (backTo pos (starEach es X.env)).any (·.1) = false := by exact back_plain rfl)
    (ht : eval (.Call (.Attribute (.Name x np) m apos) (e :: es) [] pos) X.env = (do
      let ov ← eval (.Name x np) X.env
      standAt apos.atName
      let (f, first) ← holding [ov] (getMethod ov m pl)
      callWith pos f first (backTo pos (starEach (e :: es) X.env)) (backToKw pos (keywordEach [] X.env))) := by rfl) : Ev X (.Call (.Attribute (.Name x np) m apos) (e :: es) [] pos) S d (S1.set i (some ov')) :=
  evq_methD i cl G hr hS0 hm ha hS1 (G.mono _ _ _ (fun r a ⟨h1, h2⟩ => ⟨ov', h2, h1, rfl⟩) hc) hn hN hv hd hcd he hpl ht
end
/-! ### the making of a Book -/
theorem pair_at {E : List (T × T)} {i : Nat} {d : PyData} (e : (E.map pairD)[i]? = some d) : ∃ p, E[i]? = some p ∧ p ∈ E ∧ d = pairD p := by
  rw [List.getElem?_map] at e
  cases h : E[i]? with
  | none => rw [h] at e; cases e
  | some p => rw [h] at e; cases e; exact ⟨p, rfl, List.mem_of_getElem? h, rfl⟩
theorem enum_at {E : List (T × T)} {i : Nat} {d : PyData} (e : (enumD (E.map pairD))[i]? = some d) : ∃ p, E[i]? = some p ∧ p ∈ E ∧ d = .tuple [.int (i : Nat), .tuple [p.1.enc, p.2.enc]] := by
  rw [List.getElem?_mapIdx, Option.map_eq_some_iff] at e
  obtain ⟨d0, e, rfl⟩ := e
  obtain ⟨p, h1, h2, rfl⟩ := pair_at e
  exact ⟨p, h1, h2, rfl⟩
theorem flatE_take {E : List (T × T)} {i : Nat} {p : T × T} (e : E[i]? = some p) : flatE (E.take (i + 1)) = flatE (E.take i) ++ [p.1, p.2] := by
  rw [List.take_add_one, e]
  unfold flatE
  rw [List.flatMap_append]; rfl
theorem LsAre.new {ts : List T} {ls : List LKv} (l : LsAre ts [] ls) (t : T) (a : Addr) : LsAre (ts ++ [t]) [] (ls ++ [(t.key, a, [])]) := by
  refine ⟨by rw [List.map_append, List.map_append, l.keys]; rfl, fun x hx u hu => ?_⟩
  rcases List.mem_append.mp hx with hx | hx
  · exact l.its x hx u hu
  · rw [List.mem_singleton.mp hx]; rfl
theorem LsAre.out {ts : List T} {js : List Ed} {ls : List LKv} (l : LsAre ts js ls) {t : T} (h : t ∉ ts) : nget ls t.key = none := by
  unfold nget
  rw [Option.map_eq_none_iff, List.find?_eq_none]
  intro x hx
  simp only [decide_eq_true_eq]
  intro e
  have hm : x.1 ∈ ls.map (·.1) := List.mem_map.mpr ⟨x, hx, rfl⟩
  rw [l.keys] at hm
  obtain ⟨u, hu, eu⟩ := List.mem_map.mp hm
  exact h (T.key_inj (eu.trans e) ▸ hu)
theorem LsAre.length {ts : List T} {js : List Ed} {ls : List LKv} (l : LsAre ts js ls) : ls.length = ts.length := by
  have := congrArg List.length l.keys
  simpa using this
theorem LsAre.cong {ts us : List T} {js : List Ed} {ls : List LKv} (l : LsAre ts js ls) (e : ts = us) : LsAre us js ls := e ▸ l
theorem hkv_app (ts : List T) (t : T) (h : T → T) : hkv (ts ++ [t]) h = hkv ts h ++ [(t.key, (h t).enc)] := by rw [hkv, List.map_append]; rfl
theorem take_some {ts : List T} {i : Nat} {t : T} (e : ts[i]? = some t) : ts.take (i + 1) = ts.take i ++ [t] := by rw [List.take_add_one, e]; rfl
/-- the told ones so far -/
theorem told_step {E : List (T × T)} {h h' : T → T} {i : Nat} {p : T × T} (e : E[i]? = some p) (k : ∀ q ∈ E.take i, h q.1 = h q.2) (keep : ∀ t u, h t = h u → h' t = h' u) (new : h' p.1 = h' p.2) : ∀ q ∈ E.take (i + 1), h' q.1 = h' q.2 := fun q hq => by
  rw [List.take_add_one, e, List.mem_append] at hq
  rcases hq with hq | hq
  · exact keep _ _ (k q hq)
  · simp only [Option.toList, List.mem_singleton] at hq
    rw [hq]; exact new
/-! ### what is the same, as a truth -/
open Classical in
noncomputable def congB (E : List (T × T)) (a b : T) : Bool := decide (Cong E a b)
theorem congB_iff {E : List (T × T)} {a b : T} : congB E a b = true ↔ Cong E a b := by unfold congB; simp
theorem BkIs.dec {E : List (T × T)} {us : List T} {h : T → T} {js : List Ed} {ls : List LKv} (k : BkIs E (tsOf E us) h js ls) {a b : T} (ha : a ∈ tsOf E us) (hb : b ∈ tsOf E us) : decide (h a = h b) = congB E a b := by
  have := k.hs.iff (parts_closed _) ha hb
  rw [Bool.eq_iff_iff, decide_eq_true_iff, congB_iff]
  exact this
def ct_same : Ct := fun args Q => ∃ (E : List (T × T)) (a b : T), args = [.dat (toldD E), .dat a.enc, .dat b.enc] ∧ Sm E [a, b] ∧ Q (.dat (.bool (congB E a b))) args
theorem mo_same : ∀ args Q Q', (∀ r a, Q r a → Q' r a) → ct_same args Q → ct_same args Q' := fun _ _ _ h ⟨E, a, b, e, s, q⟩ => ⟨E, a, b, e, s, h _ _ q⟩
end SH
/-! SIa: the laws' told pairs and terms; moves of congruences. -/
namespace SH
open PySem PySem.Spec PyProof.Rows L2
/-! ### towers, told pairs, terms -/
def ltower (hs : List Str) : Nat → T
  | 0 => .t0 (hat hs 0)
  | n + 1 => .t1 (hat hs 3) (ltower hs n)
theorem ltower_ok {hs : List Str} (h : HsOk hs) : ∀ n, (ltower hs n).Ok
  | 0 => h.get (by decide)
  | n + 1 => ⟨h.get (by decide), ltower_ok h n⟩
theorem ltower_depth {hs : List Str} : ∀ n, (ltower hs n).depth = n + 1
  | 0 => rfl
  | n + 1 => by rw [ltower, T.depth, ltower_depth n]
def lpair (hs : List Str) (c : Int) : T × T :=
  if lmix c 9923 3 = 0 then (ltower hs (lmix c 9901 5).toNat, ltower hs (lmix c 9887 5).toNat) else (lterm hs 2 c, lterm hs 1 (c * 7 + 3))
def ltold (ns : List Int) (hs : List Str) : List (T × T) := (lcut ns 1 (1 + (lmix (lcell ns 0) 9907 5).toNat)).map (lpair hs)
def lfirst (hs : List Str) : List (T × T) → List T
  | [] => []
  | p :: _ => [p.1, .t1 (hat hs 3) p.2, .t2 (hat hs 4) p.1 (.t0 (hat hs 1)), .t2 (hat hs 4) p.2 (.t0 (hat hs 1))]
def lterms (ns : List Int) (hs : List Str) (E : List (T × T)) : List T := (lcut ns 5 7).map (lterm hs 2) ++ lfirst hs E ++ [ltower hs (lcell ns 9 % 5).toNat, .t0 (hat hs 1)]
/-- terms of heads p, so deep at most -/
def Tm (p : Str → Prop) (n : Nat) (t : T) : Prop := t.All p ∧ t.depth ≤ n
/-- heads of hs -/
abbrev inHs (hs : List Str) : Str → Prop := fun x => x ∈ hs
theorem hat_mem {hs : List Str} (h : HsOk hs) {i : Nat} (hi : i < 5) : hat hs i ∈ hs := by
  have hl := h.len
  unfold hat
  rw [List.getD_eq_getElem?_getD, List.getElem?_eq_getElem (by omega)]
  exact List.getElem_mem _
theorem lterm_in {hs : List Str} (h : HsOk hs) : ∀ (n : Nat) (s : Int), (lterm hs n s).All (inHs hs)
  | 0, s => hat_mem h (by have := lmix_lt (c := s) (p := 9967) (m := 3) (by decide); have := lmix_nn (c := s) (p := 9967) (m := 3) (by decide); omega)
  | n + 1, s => by
    unfold lterm
    split
    · exact hat_mem h (by have := lmix_lt (c := s) (p := 9967) (m := 3) (by decide); have := lmix_nn (c := s) (p := 9967) (m := 3) (by decide); omega)
    · split
      · exact ⟨hat_mem h (by decide), lterm_in h n _⟩
      · exact ⟨hat_mem h (by decide), lterm_in h n _, lterm_in h n _⟩
theorem ltower_in {hs : List Str} (h : HsOk hs) : ∀ n, (ltower hs n).All (inHs hs)
  | 0 => hat_mem h (by decide)
  | n + 1 => ⟨hat_mem h (by decide), ltower_in h n⟩
theorem lpair_tm {hs : List Str} (h : HsOk hs) (c : Int) : Tm (inHs hs) 5 (lpair hs c).1 ∧ Tm (inHs hs) 5 (lpair hs c).2 := by
  have a1 := lmix_lt (c := c) (p := 9901) (m := 5) (by decide)
  have a2 := lmix_lt (c := c) (p := 9887) (m := 5) (by decide)
  unfold lpair
  split
  · exact ⟨⟨ltower_in h _, by rw [ltower_depth]; omega⟩, ⟨ltower_in h _, by rw [ltower_depth]; omega⟩⟩
  · exact ⟨⟨lterm_in h _ _, Nat.le_trans (lterm_depth _ _) (by decide)⟩, ⟨lterm_in h _ _, Nat.le_trans (lterm_depth _ _) (by decide)⟩⟩
theorem ltold_len (ns : List Int) (hs : List Str) : (ltold ns hs).length ≤ 4 := by
  unfold ltold
  rw [List.length_map]
  have := lcut_len ns 1 (1 + (lmix (lcell ns 0) 9907 5).toNat)
  have := lmix_lt (c := lcell ns 0) (p := 9907) (m := 5) (by decide)
  omega
theorem ltold_tm (ns : List Int) {hs : List Str} (h : HsOk hs) : ∀ p ∈ ltold ns hs, Tm (inHs hs) 5 p.1 ∧ Tm (inHs hs) 5 p.2 := fun p hp => by
  obtain ⟨c, _, rfl⟩ := List.mem_map.mp hp
  exact lpair_tm h c
theorem lfirst_tm {hs : List Str} (h : HsOk hs) {E : List (T × T)} (he : ∀ p ∈ E, Tm (inHs hs) 5 p.1 ∧ Tm (inHs hs) 5 p.2) : ∀ t ∈ lfirst hs E, Tm (inHs hs) 6 t := by
  cases E with
  | nil => intro t ht; cases ht
  | cons p r =>
    obtain ⟨⟨a1, a2⟩, b1, b2⟩ := he p (List.mem_cons_self ..)
    intro t ht
    simp only [lfirst, List.mem_cons, List.not_mem_nil, or_false] at ht
    rcases ht with rfl | rfl | rfl | rfl
    · exact ⟨a1, by omega⟩
    · exact ⟨⟨hat_mem h (by decide), b1⟩, by simp only [T.depth]; omega⟩
    · exact ⟨⟨hat_mem h (by decide), a1, hat_mem h (by decide)⟩, by simp only [T.depth]; omega⟩
    · exact ⟨⟨hat_mem h (by decide), b1, hat_mem h (by decide)⟩, by simp only [T.depth]; omega⟩
theorem lterms_tm (ns : List Int) {hs : List Str} (h : HsOk hs) {E : List (T × T)} (he : ∀ p ∈ E, Tm (inHs hs) 5 p.1 ∧ Tm (inHs hs) 5 p.2) : ∀ t ∈ lterms ns hs E, Tm (inHs hs) 6 t := fun t ht => by
  unfold lterms at ht
  rcases List.mem_append.mp ht with ht | ht
  · rcases List.mem_append.mp ht with ht | ht
    · obtain ⟨c, _, rfl⟩ := List.mem_map.mp ht
      exact ⟨lterm_in h _ _, Nat.le_trans (lterm_depth _ _) (by decide)⟩
    · exact lfirst_tm h he t ht
  · have := Int.emod_lt_of_pos (lcell ns 9) (by decide : (0 : Int) < 5)
    simp only [List.mem_cons, List.not_mem_nil, or_false] at ht
    rcases ht with rfl | rfl
    · exact ⟨ltower_in h _, by rw [ltower_depth]; omega⟩
    · exact ⟨hat_mem h (by decide), by simp [T.depth]⟩
theorem lfirst_len (hs : List Str) (E : List (T × T)) : (lfirst hs E).length ≤ 4 := by cases E <;> simp [lfirst]
theorem lterms_len (ns : List Int) (hs : List Str) (E : List (T × T)) : (lterms ns hs E).length ≤ 8 := by
  unfold lterms
  rw [List.length_append, List.length_append, List.length_map]
  have := lcut_len ns 5 7
  have := lfirst_len hs E
  simp only [List.length_cons, List.length_nil]
  omega
theorem Tm.ok {hs : List Str} (h : HsOk hs) {n : Nat} {t : T} (k : Tm (inHs hs) n t) : t.Ok := k.1.imp fun x hx => h.ok x hx
theorem Tm.mono {p : Str → Prop} {n m : Nat} {t : T} (k : Tm p n t) (h : n ≤ m) : Tm p m t := ⟨k.1, Nat.le_trans k.2 h⟩
/-- few and short ones -/
theorem Sm.of {E : List (T × T)} {us : List T} (h : ∀ u ∈ us, u.Ok ∧ u.depth ≤ 7) (he : ∀ p ∈ E, (p.1.Ok ∧ p.1.depth ≤ 7) ∧ p.2.Ok ∧ p.2.depth ≤ 7) (hl : us.length + 2 * E.length ≤ 390) : Sm E us := by
  have all : ∀ u ∈ us ++ flatE E, u.Ok ∧ u.depth ≤ 7 := fun u hu => by
    rcases List.mem_append.mp hu with hu | hu
    · exact h u hu
    · obtain ⟨p, hp, hu⟩ := List.mem_flatMap.mp hu
      simp only [List.mem_cons, List.not_mem_nil, or_false] at hu
      rcases hu with rfl | rfl
      · exact (he p hp).1
      · exact (he p hp).2
  refine ⟨fun u hu => (all u hu).1, fun u hu => (all u hu).2, ?_⟩
  have : ∀ l : List T, (∀ u ∈ l, u.depth ≤ 7) → (l.map T.size).sum ≤ 127 * l.length := by
    intro l
    induction l with
    | nil => intro _; simp
    | cons t r ih =>
      intro k
      have h1 := ih fun u hu => k u (List.mem_cons_of_mem _ hu)
      have h2 := size_depth t
      have h3 : 2 ^ t.depth ≤ 2 ^ 7 := Nat.pow_le_pow_right (by decide) (k t (List.mem_cons_self ..))
      rw [List.map_cons, List.sum_cons, List.length_cons]
      omega
  have h1 := this _ fun u hu => (all u hu).2
  rw [List.length_append, flatE_len] at h1
  omega
/-! ### contracts -/
def ct_tower : Ct := fun args Q => ∃ (hs : List Str) (n : Nat), args = [.dat (dStrs hs), .dat (.int (n : Nat))] ∧ HsOk hs ∧ n ≤ 100 ∧ Q (.dat (ltower hs n).enc) args
def ct_told : Ct := fun args Q => ∃ (ns : List Int) (hs : List Str), args = [.dat (dInts ns), .dat (dStrs hs)] ∧ ns.length ≤ 1000 ∧ HsOk hs ∧ Q (.dat (toldD (ltold ns hs))) args
def ct_terms : Ct := fun args Q => ∃ (ns : List Int) (hs : List Str) (E : List (T × T)), args = [.dat (dInts ns), .dat (dStrs hs), .dat (toldD E)] ∧ ns.length ≤ 1000 ∧ HsOk hs ∧ Q (.dat (.list ((lterms ns hs E).map T.enc))) args
theorem mo_tower : ∀ args Q Q', (∀ r a, Q r a → Q' r a) → ct_tower args Q → ct_tower args Q' := fun _ _ _ h ⟨hs, n, e, h1, h2, q⟩ => ⟨hs, n, e, h1, h2, h _ _ q⟩
theorem mo_told : ∀ args Q Q', (∀ r a, Q r a → Q' r a) → ct_told args Q → ct_told args Q' := fun _ _ _ h ⟨ns, hs, e, h1, h2, q⟩ => ⟨ns, hs, e, h1, h2, h _ _ q⟩
theorem mo_terms : ∀ args Q Q', (∀ r a, Q r a → Q' r a) → ct_terms args Q → ct_terms args Q' := fun _ _ _ h ⟨ns, hs, E, e, h1, h2, q⟩ => ⟨ns, hs, E, e, h1, h2, h _ _ q⟩
/-! ### slices of mapped rows -/
theorem cut_to {α : Type} (f : α → PyData) (L : List α) (n : Nat) : cutD (L.map f) none (some (n : Int)) = (L.take n).map f := by
  unfold cutD
  have h0 : HT.sIx (L.map f).length 0 none = 0 := rfl
  have h1 : HT.sIx (L.map f).length (L.map f).length (some (n : Int)) = min n (L.map f).length := by
    unfold HT.sIx
    simp; omega
  rw [h0, h1, List.drop_zero, Nat.sub_zero, ← List.map_take, List.length_map]
  congr 1
  by_cases h : n ≤ L.length
  · rw [Nat.min_eq_left h]
  · rw [Nat.min_eq_right (by omega), List.take_of_length_le (by omega), List.take_of_length_le (by omega)]
theorem cut_from {α : Type} (f : α → PyData) (L : List α) (n : Nat) : cutD (L.map f) (some (n : Int)) none = (L.drop n).map f := by
  unfold cutD
  have h0 : HT.sIx (L.map f).length (L.map f).length none = (L.map f).length := rfl
  have h1 : HT.sIx (L.map f).length 0 (some (n : Int)) = min n (L.map f).length := by
    unfold HT.sIx
    simp; omega
  rw [h0, h1, ← List.map_drop, List.length_map, ← List.map_take]
  congr 1
  by_cases h : n ≤ L.length
  · rw [Nat.min_eq_left h, List.take_of_length_le (by rw [List.length_drop]; omega)]
  · rw [Nat.min_eq_right (by omega), List.drop_of_length_le (by omega), List.drop_of_length_le (by omega)]
    simp
/-! ### congruences -/
theorem Cong.sub {E E' : List (T × T)} (h : ∀ p ∈ E, Cong E' p.1 p.2) {a b : T} (c : Cong E a b) : Cong E' a b := by
  induction c with
  | ax e => exact h _ e
  | refl a => exact .refl a
  | symm _ ih => exact ih.symm
  | trans _ _ i j => exact i.trans j
  | c1 _ i => exact .c1 i
  | c2 _ _ i j => exact .c2 i j
theorem Cong.mono {E E' : List (T × T)} (h : ∀ p ∈ E, p ∈ E') {a b : T} (c : Cong E a b) : Cong E' a b := c.sub fun p hp => .ax (h p hp)
theorem congB_ext {E E' : List (T × T)} (h : ∀ p ∈ E, Cong E' p.1 p.2) (h' : ∀ p ∈ E', Cong E p.1 p.2) (a b : T) : congB E a b = congB E' a b := by
  rw [Bool.eq_iff_iff, congB_iff, congB_iff]
  exact ⟨fun c => c.sub h, fun c => c.sub h'⟩
theorem congB_imp {E E' : List (T × T)} {a b c d : T} (h : Cong E a b → Cong E' c d) : (congB E a b && !congB E' c d) = false := by
  cases e : congB E a b with
  | false => rfl
  | true => rw [congB_iff.mpr (h (congB_iff.mp e))]; rfl
end SH
/-! SIb: a head of which nothing is told; other heads. -/
namespace SH
open PySem PySem.Spec PyProof.Rows L2
/-! ### a head of which nothing is told -/
theorem fresh_cong {E : List (T × T)} {m : Str} (he : ∀ p ∈ E, p.1.hd ≠ m ∧ p.2.hd ≠ m) {s t : T} (c : Cong E s t) : s.hd = m ∨ t.hd = m → s.hd = m ∧ t.hd = m ∧ s.ps.length = t.ps.length ∧ ∀ (i : Nat) a b, s.ps[i]? = some a → t.ps[i]? = some b → Cong E a b := by
  induction c with
  | ax e => exact fun h => (h.elim (he _ e).1 (he _ e).2).elim
  | refl a => exact fun h => ⟨h.elim id id, h.elim id id, rfl, fun i x y h1 h2 => by rw [h1] at h2; cases h2; exact .refl _⟩
  | symm _ ih =>
    intro h
    obtain ⟨h1, h2, h3, h4⟩ := ih h.symm
    exact ⟨h2, h1, h3.symm, fun i a b ea eb => (h4 i b a eb ea).symm⟩
  | @trans a b c _ _ i j =>
    intro h
    have both : a.hd = m ∧ b.hd = m ∧ c.hd = m := by
      rcases h with h | h
      · have h1 := i (.inl h)
        exact ⟨h, h1.2.1, (j (.inl h1.2.1)).2.1⟩
      · have h1 := j (.inr h)
        exact ⟨(i (.inr h1.1)).1, h1.1, h⟩
    obtain ⟨_, _, l1, p1⟩ := i (.inl both.1)
    obtain ⟨_, _, l2, p2⟩ := j (.inl both.2.1)
    refine ⟨both.1, both.2.2, l1.trans l2, fun k x z ex ez => ?_⟩
    have hk := (List.getElem?_eq_some_iff.mp ex).1
    rw [l1] at hk
    have ey : b.ps[k]? = some b.ps[k] := List.getElem?_eq_getElem hk
    exact (p1 k x _ ex ey).trans (p2 k _ z ey ez)
  | @c1 x a b c _ =>
    intro h
    have h : x = m := h.elim id id
    refine ⟨h, h, rfl, fun i u v hu hv => ?_⟩
    match i with
    | 0 => cases hu; cases hv; exact c
    | i + 1 => cases hu
  | @c2 x a b a2 b2 c c2 _ _ =>
    intro h
    have h : x = m := h.elim id id
    refine ⟨h, h, rfl, fun i u v hu hv => ?_⟩
    match i with
    | 0 => cases hu; cases hv; exact c
    | 1 => cases hu; cases hv; exact c2
    | i + 2 => cases hu
theorem fresh1 {E : List (T × T)} {m : Str} (he : ∀ p ∈ E, p.1.hd ≠ m ∧ p.2.hd ≠ m) (a b : T) : congB E (.t1 m a) (.t1 m b) = congB E a b := by
  rw [Bool.eq_iff_iff, congB_iff, congB_iff]
  exact ⟨fun c => (fresh_cong he c (.inl rfl)).2.2.2 0 a b rfl rfl, .c1⟩
theorem fresh2 {E : List (T × T)} {m : Str} (he : ∀ p ∈ E, p.1.hd ≠ m ∧ p.2.hd ≠ m) (x a b : T) : congB E (.t2 m x a) (.t2 m x b) = congB E a b := by
  rw [Bool.eq_iff_iff, congB_iff, congB_iff]
  exact ⟨fun c => (fresh_cong he c (.inl rfl)).2.2.2 1 a b rfl rfl, .c2 (.refl x)⟩
theorem fresh0 {E : List (T × T)} {m : Str} (he : ∀ p ∈ E, p.1.hd ≠ m ∧ p.2.hd ≠ m) (a b : T) (hb : b.hd ≠ m) : congB E (.t1 m a) b = false := by
  cases e : congB E (.t1 m a) b with
  | false => rfl
  | true => exact absurd (fresh_cong he (congB_iff.mp e) (.inl rfl)).2.1 hb
/-! ### the laws' head more -/
theorem lsign_ne (ns : List Int) (k : Nat) (hk : k < 5) : letr (lsign ns k) ≠ letr (lsign ns 7) := by
  have h1 := lsign_nn ns k
  have h2 := lsign_nn ns 7
  unfold letr
  have : lsign ns k ≠ lsign ns 7 := by
    unfold lsign
    have : k = 0 ∨ k = 1 ∨ k = 2 ∨ k = 3 ∨ k = 4 := by omega
    rcases this with rfl | rfl | rfl | rfl | rfl <;> omega
  omega
theorem lhead7_ne (ns : List Int) (k : Nat) (hk : k < 5) : lheadL ns k ≠ lheadL ns 7 := fun e => by
  unfold lheadL at e
  have e1 := List.append_cancel_right e
  have e2 := List.append_cancel_left e1
  exact lsign_ne ns k hk (by simpa using e2)
theorem lhs0_mem {ns : List Int} {l : List Nat} (h : l ∈ lhs0 ns) : ∃ k, k < 5 ∧ l = lheadL ns k := by
  unfold lhs0 at h
  obtain ⟨k, hk, rfl⟩ := List.mem_map.mp h
  exact ⟨k, List.mem_range.mp hk, rfl⟩
theorem getD_mem {L : List (List Nat)} {i : Nat} (h : i < L.length) : L.getD i [] ∈ L := by
  rw [List.getD_eq_getElem?_getD, List.getElem?_eq_getElem h]
  exact List.getElem_mem h
theorem lhs2_mem {ns : List Int} {l : List Nat} (h : l ∈ lhs2 ns) : l ∈ lhs0 ns := by
  have one : ∀ {l : List Nat}, l ∈ lhs1 ns → l ∈ lhs0 ns := fun {l} h => by
    unfold lhs1 at h
    split at h
    · rcases List.mem_or_eq_of_mem_set h with h | rfl
      · exact h
      · exact getD_mem (by rw [lhs0_len]; decide)
    · exact h
  unfold lhs2 at h
  split at h
  · rcases List.mem_or_eq_of_mem_set h with h | rfl
    · exact one h
    · exact one (getD_mem (by rw [lhs1_len]; decide))
  · exact one h
theorem lhead7_out (ns : List Int) : lhead ns 7 ∉ lheads ns := fun hm => by
  unfold lheads at hm
  obtain ⟨l, hl, e⟩ := List.mem_map.mp hm
  have e : l = lheadL ns 7 := sOf_inj e
  subst e
  have no : lheadL ns 7 ∉ lhs2 ns := fun h => by
    obtain ⟨k, hk, e⟩ := lhs0_mem (lhs2_mem h)
    exact lhead7_ne ns k hk e.symm
  unfold lhs3 at hl
  split at hl
  · rcases List.mem_or_eq_of_mem_set hl with h | h
    · exact no h
    · obtain ⟨k0, _, e0⟩ := lhs0_mem (lhs2_mem (getD_mem (L := lhs2 ns) (i := 0) (by rw [lhs2_len]; decide)))
      obtain ⟨k1, _, e1⟩ := lhs0_mem (lhs2_mem (getD_mem (L := lhs2 ns) (i := 1) (by rw [lhs2_len]; decide)))
      have h1 := congrArg List.length h
      rw [e0, e1] at h1
      unfold lother at h1
      rw [List.length_take, List.length_append, List.length_take, lheadL_len, lheadL_len, lheadL_len] at h1
      have := ltail_len ns
      simp only [List.length_cons, List.length_nil] at h1
      omega
  · exact no hl
/-! ### other heads -/
def T.ren (r : Str → Str) : T → T
  | .t0 h => .t0 (r h)
  | .t1 h a => .t1 (r h) (a.ren r)
  | .t2 h a b => .t2 (r h) (a.ren r) (b.ren r)
theorem ren_depth (r : Str → Str) : ∀ t : T, (t.ren r).depth = t.depth
  | .t0 _ => rfl
  | .t1 _ a => by simp only [T.ren, T.depth, ren_depth r a]
  | .t2 _ a b => by simp only [T.ren, T.depth, ren_depth r a, ren_depth r b]
theorem ren_all {r : Str → Str} {p q : Str → Prop} (h : ∀ x, p x → q (r x)) : ∀ {t : T}, t.All p → (t.ren r).All q
  | .t0 _, k => h _ k
  | .t1 _ _, k => ⟨h _ k.1, ren_all h k.2⟩
  | .t2 _ _ _, k => ⟨h _ k.1, ren_all h k.2.1, ren_all h k.2.2⟩
theorem ren_ren {r s : Str → Str} {p : Str → Prop} (h : ∀ x, p x → s (r x) = x) : ∀ {t : T}, t.All p → (t.ren r).ren s = t
  | .t0 _, k => by simp only [T.ren, h _ k]
  | .t1 _ _, k => by simp only [T.ren, h _ k.1, ren_ren h k.2]
  | .t2 _ _ _, k => by simp only [T.ren, h _ k.1, ren_ren h k.2.1, ren_ren h k.2.2]
def renE (r : Str → Str) (E : List (T × T)) : List (T × T) := E.map fun p => (p.1.ren r, p.2.ren r)
theorem Cong.ren {E : List (T × T)} (r : Str → Str) {a b : T} (c : Cong E a b) : Cong (renE r E) (a.ren r) (b.ren r) := by
  induction c with
  | ax e => exact .ax (List.mem_map.mpr ⟨_, e, rfl⟩)
  | refl a => exact .refl _
  | symm _ ih => exact ih.symm
  | trans _ _ i j => exact i.trans j
  | c1 _ i => exact .c1 i
  | c2 _ _ i j => exact .c2 i j
theorem congB_ren {E : List (T × T)} {r s : Str → Str} {p : Str → Prop} (h : ∀ x, p x → s (r x) = x) (he : ∀ q ∈ E, q.1.All p ∧ q.2.All p) {a b : T} (ha : a.All p) (hb : b.All p) : congB E a b = congB (renE r E) (a.ren r) (b.ren r) := by
  rw [Bool.eq_iff_iff, congB_iff, congB_iff]
  refine ⟨fun c => c.ren r, fun c => ?_⟩
  have c2 := c.ren s
  rw [ren_ren h ha, ren_ren h hb] at c2
  refine c2.mono fun q hq => ?_
  obtain ⟨q1, h1, rfl⟩ := List.mem_map.mp hq
  obtain ⟨q0, h0, rfl⟩ := List.mem_map.mp h1
  show ((q0.1.ren r).ren s, (q0.2.ren r).ren s) ∈ E
  rw [ren_ren h (he q0 h0).1, ren_ren h (he q0 h0).2]
  exact h0
/-- the inverse of a renaming of a few -/
def unren (hs : List Str) (r : Str → Str) (y : Str) : Str := (hs.find? fun x => decide (r x = y)).getD y
theorem unren_ren {hs : List Str} {r : Str → Str} (inj : ∀ x ∈ hs, ∀ y ∈ hs, r x = r y → x = y) : ∀ x, inHs hs x → unren hs r (r x) = x := fun x hx => by
  unfold unren
  cases e : hs.find? (fun z => decide (r z = r x)) with
  | none =>
    rw [List.find?_eq_none] at e
    exact absurd (decide_eq_true rfl) (e x hx)
  | some z =>
    have h1 := List.mem_of_find?_eq_some e
    have h2 : decide (r z = r x) = true := by simpa using List.find?_some e
    exact inj z h1 x hx (of_decide_eq_true h2)
/-! == of truths -/
section
variable {X : Cx}
theorem o_eqB {a b : Bool} (hu : X.A.units + 64 < cLine) : OpD X (compareOp .Eq) (.bool a) (.bool b) (.bool (decide (a = b))) := by
  have e : PyData.eqv (.bool a) (.bool b) = decide (a = b) := by cases a <;> cases b <;> rfl
  rw [← e]
  exact o_eq hu rfl rfl
theorem o_neB {a b : Bool} (hu : X.A.units + 64 < cLine) : OpD X (compareOp .NotEq) (.bool a) (.bool b) (.bool (!decide (a = b))) := by
  have e : PyData.eqv (.bool a) (.bool b) = decide (a = b) := by cases a <;> cases b <;> rfl
  rw [← e]
  exact o_ne hu rfl rfl
end
theorem atI_nat {α : Type} {xs : List α} {i : Nat} {x : α} (h : xs[i]? = some x) : atI xs (i : Int) = some x := by
  have hl := (List.getElem?_eq_some_iff.mp h).1
  unfold atI ixN
  rw [if_pos (by omega), if_pos (by omega)]
  simpa using h
theorem atI_last {α : Type} {xs : List α} {x : α} (h : xs[xs.length - 1]? = some x) : atI xs (-1) = some x := by
  have hl := (List.getElem?_eq_some_iff.mp h).1
  unfold atI ixN
  rw [if_neg (by omega), if_pos (by omega)]
  have e : ((-1 : Int) + (xs.length : Nat)).toNat = xs.length - 1 := by omega
  show xs[((-1 : Int) + (xs.length : Nat)).toNat]? = some x
  rw [e, h]
theorem ends_at {us : List T} (h : us ≠ []) : (∃ u ∈ us, atI (us.map T.enc) 0 = some u.enc) ∧ ∃ u ∈ us, atI (us.map T.enc) (-1) = some u.enc := by
  have hl : 0 < us.length := List.length_pos_iff.mpr h
  have get : ∀ i, i < us.length → ∃ u ∈ us, (us.map T.enc)[i]? = some u.enc := fun i hi => ⟨us[i], List.getElem_mem hi, by rw [List.getElem?_map, List.getElem?_eq_getElem hi]; rfl⟩
  obtain ⟨u, h1, h2⟩ := get 0 hl
  obtain ⟨v, h3, h4⟩ := get (us.length - 1) (by omega)
  exact ⟨⟨u, h1, atI_nat (i := 0) h2⟩, v, h3, atI_last (by rw [List.length_map]; exact h4)⟩
theorem lterms_ne (ns : List Int) (hs : List Str) (E : List (T × T)) : lterms ns hs E ≠ [] := by
  unfold lterms
  exact List.append_ne_nil_of_right_ne_nil _ (by simp)
theorem hd_of_all {p : Str → Prop} {t : T} (h : t.All p) : p t.hd := by
  cases t with
  | t0 => exact h
  | t1 => exact h.1
  | t2 => exact h.1
/-- two terms and told pairs, small -/
theorem sm2 {hs : List Str} (ho : HsOk hs) {E : List (T × T)} {a b : T} (k : ∀ p ∈ E, Tm (inHs hs) 5 p.1 ∧ Tm (inHs hs) 5 p.2) (l : E.length ≤ 20) (ka : a.Ok ∧ a.depth ≤ 7) (kb : b.Ok ∧ b.depth ≤ 7) : Sm E [a, b] := by
  refine Sm.of (fun u hu => ?_) (fun p hp => ⟨⟨(k p hp).1.ok ho, Nat.le_trans (k p hp).1.2 (by decide)⟩, (k p hp).2.ok ho, Nat.le_trans (k p hp).2.2 (by decide)⟩) (by simp only [List.length_cons, List.length_nil]; omega)
  simp only [List.mem_cons, List.not_mem_nil, or_false] at hu
  rcases hu with rfl | rfl
  · exact ka
  · exact kb
end SH
/-! SIc: list.index; the law's other heads. -/
namespace SH
open PySem PySem.Spec PyProof.Rows L2
section
variable {X : Cx} {S S1 S2 : ASt} {o e : Expr} {ds : List PyData} {d z : PyData} {apos cpos : Pos} {j : Nat}
/-- xs.index(e), an equal one is there -/
theorem ev_index (hu : X.A.units + 65 < cLine) (ho : Ev X o S (.list ds) S1) (he : Ev X e S1 d S2) (sl : SeqAt.shaped (.list ds) = true) (sd : SeqAt.shaped d = true) (hj : ds[j]? = some z) (hz : PyData.eqv z d = true) (hno : ∀ (m : Nat) z', m < j → ds[m]? = some z' → PyData.eqv z' d = false)
    (hbase : attributeBase o "index" X.env (eval o X.env) = eval o X.env := by rfl)
    (hfew : ((backTo cpos (starEach [e] X.env)).all (fun x => !x.1) && (backToKw cpos (keywordEach [] X.env)).all (fun x => x.1.isSome)
      && decide (([e] : List Expr).length + ([] : List Keyword).length + (if ([] : List Keyword).isEmpty then 0 else 1) < 30)) = true := by rfl)
    (hline : (apos.endLine == cpos.line) = true := by rfl) (hs : starEach [e] X.env = (false, eval e X.env) :: starEach [] X.env := by exact star_plain rfl) (hplain : (backTo cpos (starEach [] X.env)).any (·.1) = false := by exact back_plain rfl) :
    Ev X (.Call (.Attribute o "index" apos) [e] [] cpos) S (.int (j : Nat)) S2 := by
  refine .ofPE (pe_bm PySem.F.plainAttrs_list PySem.F.slot_list_index PySem.F.type_list_index (mt_indexD hu) (peW X o) (paW X [e]) hbase hfew hline hs hplain) fun F H σ st Q k => ?_
  refine ho.use st fun v F1 H1 p1 w1 => ?_
  cases w1 with
  | @lst a xs _ q r =>
    refine ⟨.inl ⟨rfl, xs, .inl (Rd.same p1.st.same q)⟩, ?_⟩
    refine eva_cons he eva_nil hs F1 H1 σ p1.st _ fun vs F2 H2 p2 w2 => ?_
    obtain ⟨y, rfl, wy⟩ := das1 w2
    have w1 : Da F2 (.ref a) (.list ds) := Da.mono p2.aft.ff _ _ (.lst q r)
    refine ⟨a, y, d, ds, j, z, rfl, rfl, Da.dp _ _ (Da.mono p2.st.same _ _ w1), Da.dp _ _ (Da.mono p2.st.same _ _ wy), sl, sd, hj, hz, hno, ?_⟩
    exact k _ F2 H2 (p1.trans p2) (.int _)
end
/-! ### other heads -/
theorem muls (c n : Nat) (h : n ≤ 2) : Txt.mul (sOf [c]) (n : Int) = sOf (List.replicate n c) := by
  have : n = 0 ∨ n = 1 ∨ n = 2 := by omega
  rcases this with rfl | rfl | rfl
  · simp [Txt.mul, sOf, Str.empty]
  · simp [Txt.mul, sOf, Str.length, List.replicate]
  · simp [Txt.mul, sOf, Str.length, List.replicate]
theorem muls_ok (c n : Nat) (h : n ≤ 2) : PySem.MulOk (sOf [c]) (n : Int) := by
  have : n = 0 ∨ n = 1 ∨ n = 2 := by omega
  rcases this with rfl | rfl | rfl
  · exact ⟨by decide, fun h => absurd (by decide) h, fun h => absurd (by decide) h⟩
  · exact ⟨by decide, fun _ h => absurd h (by simp), fun _ h => absurd h (by simp)⟩
  · refine ⟨by decide, fun _ _ => ?_, fun _ _ => ?_⟩
    · show ¬ (((1 : Nat) : Int) > (2 ^ 63 - 1) / 2)
      decide
    · show Builtin.Str.tooLong (1 * 2) = false
      decide +kernel
def rho (hs : List Str) (sd : Int) (x : Str) : Str := sOf (letr (((hs.idxOf x : Nat) + sd) % 26) :: List.replicate (sd % 3).toNat (letr (sd / 26 % 26)))
theorem rho_ok (hs : List Str) (sd : Int) (x : Str) : isHd (rho hs sd x) = true := by
  unfold rho
  have h3 := Int.emod_lt_of_pos sd (by decide : (0 : Int) < 3)
  refine isHd_of (by simp) (by rw [List.length_cons, List.length_replicate]; omega) fun c hc => ?_
  rcases List.mem_cons.mp hc with rfl | hc
  · exact letr_ok (Int.emod_lt_of_pos _ (by decide))
  · rw [(List.mem_replicate.mp hc).2]
    exact letr_ok (Int.emod_lt_of_pos _ (by decide))
theorem rho_inj {hs : List Str} (ho : HsOk hs) {sd : Int} : ∀ x ∈ hs, ∀ y ∈ hs, rho hs sd x = rho hs sd y → x = y := fun x hx y hy e => by
  have e1 : letr (((hs.idxOf x : Nat) + sd) % 26) = letr (((hs.idxOf y : Nat) + sd) % 26) := by
    have := sOf_inj e
    exact (List.cons.inj this).1
  have l1 := List.idxOf_lt_length_of_mem hx
  have l2 := List.idxOf_lt_length_of_mem hy
  have hl := ho.len
  have m1 := Int.emod_nonneg ((hs.idxOf x : Nat) + sd) (by decide : (26 : Int) ≠ 0)
  have m2 := Int.emod_nonneg ((hs.idxOf y : Nat) + sd) (by decide : (26 : Int) ≠ 0)
  unfold letr at e1
  have e2 : hs.idxOf x = hs.idxOf y := by omega
  have g1 : hs[hs.idxOf x]? = some x := by rw [List.getElem?_eq_getElem l1, List.getElem_idxOf l1]
  have g2 : hs[hs.idxOf y]? = some y := by rw [List.getElem?_eq_getElem l2, List.getElem_idxOf l2]
  rw [e2, g2] at g1
  exact (Option.some.inj g1).symm
theorem before_idx {x : Str} : ∀ {l : List Str} {m : Nat}, m < l.idxOf x → l[m]? ≠ some x
  | [], _, h => by simp at h
  | a :: r, m, h => by
    rw [List.idxOf_cons] at h
    by_cases e : a = x
    · subst e; simp at h
    · have e' : (a == x) = false := by simpa using e
      rw [e'] at h
      cases m with
      | zero => simpa using e
      | succ m =>
        rw [List.getElem?_cons_succ]
        exact before_idx (by simpa using h)
theorem idx_first {hs : List Str} {x : Str} (hx : x ∈ hs) : (hs.map PyData.str)[hs.idxOf x]? = some (.str x) ∧ ∀ (m : Nat) z', m < hs.idxOf x → (hs.map PyData.str)[m]? = some z' → PyData.eqv z' (.str x) = false := by
  have l1 := List.idxOf_lt_length_of_mem hx
  refine ⟨by rw [List.getElem?_map, List.getElem?_eq_getElem l1, List.getElem_idxOf l1]; rfl, fun m z' hm hz => ?_⟩
  rw [List.getElem?_map] at hz
  obtain ⟨y, hy, rfl⟩ := Option.map_eq_some_iff.mp hz
  have hl := (List.getElem?_eq_some_iff.mp hy).1
  cases e : PyData.eqv (.str y) (.str x) with
  | false => rfl
  | true =>
    have e2 := (eqv_iff (.str y) (.str x) rfl rfl).mp e
    cases e2
    exact absurd hy (before_idx hm)
theorem shaped_strs {hs : List Str} (ho : HsOk hs) : SeqAt.shaped (dStrs hs) = true := by
  refine shaped_mk ?_ ?_
  · show PyData.canLayAll0 (hs.map .str) = true
    have : ∀ l : List Str, (∀ x ∈ l, isHd x = true) → PyData.canLayAll0 (l.map .str) = true := by
      intro l
      induction l with
      | nil => intro _; rfl
      | cons a r ih =>
        intro k
        show (PyData.strOk a && PyData.canLayAll0 (r.map .str)) = true
        rw [isHd_ok (k a (List.mem_cons_self ..)), ih fun x hx => k x (List.mem_cons_of_mem _ hx)]; rfl
    exact this hs ho.ok
  · show PyData.depthAll (hs.map .str) + 1 ≤ 64
    have : ∀ l : List Str, PyData.depthAll (l.map .str) = 0 := by
      intro l
      induction l with
      | nil => rfl
      | cons a r ih => show max 0 (PyData.depthAll (r.map .str)) = 0; rw [ih]; rfl
    rw [this]; decide
def ct_ren (n : Nat) : Ct := fun args Q => ∃ (hs : List Str) (sd : Int) (t : T), args = [.dat (dStrs hs), .dat (.int sd), .dat t.enc] ∧ HsOk hs ∧ 0 ≤ sd ∧ sd < 2000 ∧ t.All (inHs hs) ∧ t.depth ≤ n ∧ Q (.dat (t.ren (rho hs sd)).enc) args
theorem mo_ren (n : Nat) : ∀ args Q Q', (∀ r a, Q r a → Q' r a) → ct_ren n args Q → ct_ren n args Q' := fun _ _ _ h ⟨hs, sd, t, e, h1, h2, h3, h4, h5, q⟩ => ⟨hs, sd, t, e, h1, h2, h3, h4, h5, h _ _ q⟩
theorem ren_enc (r : Str → Str) (t : T) : (t.ren r).enc = .tuple ([.str (r t.hd)] ++ t.ps.map fun u => (u.ren r).enc) := by cases t <;> rfl
end SH
/-! SId: what the laws do themselves: lots joined round by round, over any marks; in plain Lean. -/
namespace SH
open PySem PySem.Spec PyProof.Rows L2
section
variable {α : Type} [DecidableEq α] {E : List (T × T)} {ts : List T} {h : T → α}
def joinA (h : T → α) (a b : T) : T → α := fun t => if h t = h a then h b else h t
theorem joinA_eq {a b : T} : joinA h a b a = joinA h a b b := by
  unfold joinA
  rw [if_pos rfl]
  split <;> rfl
theorem joinA_keep {a b t u : T} (e : h t = h u) : joinA h a b t = joinA h a b u := by unfold joinA; rw [e]
/-- the same mark: the same -/
def LSound (E : List (T × T)) (ts : List T) (h : T → α) : Prop := ∀ t ∈ ts, ∀ u ∈ ts, h t = h u → Cong E t u
theorem LSound.join (s : LSound E ts h) {a b : T} (ha : a ∈ ts) (hb : b ∈ ts) (e : Cong E a b) : LSound E ts (joinA h a b) := fun t ht u hu q => by
  unfold joinA at q
  by_cases h1 : h t = h a
  · rw [if_pos h1] at q
    have c1 := (s t ht a ha h1).trans e
    by_cases h2 : h u = h a
    · exact (s t ht a ha h1).trans (s u hu a ha h2).symm
    · rw [if_neg h2] at q
      exact c1.trans (s b hb u hu q)
  · rw [if_neg h1] at q
    by_cases h2 : h u = h a
    · rw [if_pos h2] at q
      exact (s t ht b hb q).trans ((s u hu a ha h2).trans e).symm
    · rw [if_neg h2] at q
      exact s t ht u hu q
abbrev KA (α : Type) := Str × List α
def keyA (h : T → α) (t : T) : KA α := (t.hd, t.ps.map h)
theorem LSound.key (s : LSound E ts h) (c : ClosedT ts) {t u : T} (ht : t ∈ ts) (hu : u ∈ ts) (e : keyA h t = keyA h u) : Cong E t u := by
  have hp : ∀ p ∈ t.ps, p ∈ ts := c t ht
  have hq : ∀ p ∈ u.ps, p ∈ ts := c u hu
  cases t with
  | t0 x =>
    cases u with
    | t0 y => simp [keyA, T.hd, T.ps] at e; subst e; exact .refl _
    | t1 _ _ => simp [keyA, T.ps] at e
    | t2 _ _ _ => simp [keyA, T.ps] at e
  | t1 x a =>
    cases u with
    | t0 _ => simp [keyA, T.ps] at e
    | t1 y b =>
      simp [keyA, T.hd, T.ps] at e
      obtain ⟨rfl, e⟩ := e
      exact .c1 (s a (hp a (by simp [T.ps])) b (hq b (by simp [T.ps])) e)
    | t2 _ _ _ => simp [keyA, T.ps] at e
  | t2 x a a2 =>
    cases u with
    | t0 _ => simp [keyA, T.ps] at e
    | t1 _ _ => simp [keyA, T.ps] at e
    | t2 y b b2 =>
      simp [keyA, T.hd, T.ps] at e
      obtain ⟨rfl, e, e2⟩ := e
      exact .c2 (s a (hp a (by simp [T.ps])) b (hq b (by simp [T.ps])) e) (s a2 (hp a2 (by simp [T.ps])) b2 (hq b2 (by simp [T.ps])) e2)
/-! ### wholes that are not the same yet, but should -/
def aget (fs : List (KA α × T)) (k : KA α) : Option T := (fs.find? fun x => decide (x.1 = k)).map (·.2)
theorem aget_app {fs : List (KA α × T)} {k k' : KA α} {u : T} : aget (fs ++ [(k', u)]) k = match aget fs k with | some v => some v | none => if k' = k then some u else none := by
  unfold aget
  rw [List.find?_append]
  cases h : fs.find? (fun x => decide (x.1 = k)) with
  | some v => rfl
  | none =>
    by_cases e : k' = k
    · simp [e]
    · simp [e]
theorem aget_mem {fs : List (KA α × T)} {k : KA α} {u : T} (h : aget fs k = some u) : (k, u) ∈ fs := by
  unfold aget at h
  obtain ⟨y, hy, rfl⟩ := Option.map_eq_some_iff.mp h
  have h1 := List.mem_of_find?_eq_some hy
  have h2 : decide (y.1 = k) = true := by simpa using List.find?_some hy
  rw [← of_decide_eq_true h2]; exact h1
structure Unl (α : Type) where
  first : List (KA α × T)
  found : List (T × T)
def unlStep (h : T → α) (p : Unl α) (t : T) : Unl α :=
  match aget p.first (keyA h t) with
  | none => { p with first := p.first ++ [(keyA h t, t)] }
  | some u => if h u = h t then p else { p with found := p.found ++ [(u, t)] }
/-- pairs that a round joins -/
def UnlPairs (ts : List T) (h : T → α) (ps : List (T × T)) : Prop := ∀ p ∈ ps, p.1 ∈ ts ∧ p.2 ∈ ts ∧ keyA h p.1 = keyA h p.2 ∧ h p.1 ≠ h p.2
structure UnlOk (ts : List T) (h : T → α) (l : List T) (p : Unl α) : Prop where
  fst : ∀ x ∈ p.first, x.2 ∈ ts ∧ x.1 = keyA h x.2
  fnd : UnlPairs ts h p.found
  all : p.found = [] → ∀ t ∈ l, ∃ u, aget p.first (keyA h t) = some u ∧ h u = h t
  flen : p.first.length ≤ l.length
  len : p.found.length ≤ l.length
  nd : (p.first.map (·.1)).Nodup
theorem UnlOk.start (ts : List T) (h : T → α) : UnlOk ts h [] ⟨[], []⟩ := ⟨fun _ h => (by cases h), fun _ h => (by cases h), fun _ _ h => (by cases h), Nat.le_refl _, Nat.le_refl _, .nil⟩
theorem aget_none {fs : List (KA α × T)} {k : KA α} (h : aget fs k = none) : k ∉ fs.map (·.1) := fun hm => by
  obtain ⟨x, hx, e⟩ := List.mem_map.mp hm
  unfold aget at h
  rw [Option.map_eq_none_iff, List.find?_eq_none] at h
  exact h x hx (decide_eq_true e)
theorem UnlOk.step {l : List T} {p : Unl α} {t : T} (k : UnlOk ts h l p) (ht : t ∈ ts) : UnlOk ts h (l ++ [t]) (unlStep h p t) := by
  unfold unlStep
  cases hf : aget p.first (keyA h t) with
  | none =>
    refine ⟨fun x hx => ?_, k.fnd, fun hn u hu => ?_, ?_, ?_, ?_⟩
    · rcases List.mem_append.mp hx with hx | hx
      · exact k.fst x hx
      · rw [List.mem_singleton.mp hx]; exact ⟨ht, rfl⟩
    · rcases List.mem_append.mp hu with hu | hu
      · obtain ⟨w, h3, h4⟩ := k.all hn u hu
        exact ⟨w, by rw [aget_app, h3], h4⟩
      · rw [List.mem_singleton.mp hu]
        refine ⟨t, ?_, rfl⟩
        rw [aget_app, hf]; simp
    · rw [List.length_append, List.length_append]; have := k.flen; simp only [List.length_singleton]; omega
    · have := k.len; show p.found.length ≤ _; rw [List.length_append]; omega
    · rw [List.map_append, List.nodup_append]
      refine ⟨k.nd, by simp, fun a ha b hb e => ?_⟩
      rw [List.map_cons, List.map_nil, List.mem_singleton] at hb
      subst hb; subst e
      exact aget_none hf ha
  | some u =>
    obtain ⟨hu, hk⟩ := k.fst _ (aget_mem hf)
    show UnlOk ts h (l ++ [t]) (if h u = h t then p else { p with found := p.found ++ [(u, t)] })
    by_cases e : h u = h t
    · rw [if_pos e]
      refine ⟨k.fst, k.fnd, fun hn v hv => ?_, ?_, ?_, k.nd⟩
      · rcases List.mem_append.mp hv with hv | hv
        · exact k.all hn v hv
        · rw [List.mem_singleton.mp hv]; exact ⟨u, hf, e⟩
      · rw [List.length_append]; have := k.flen; omega
      · rw [List.length_append]; have := k.len; omega
    · rw [if_neg e]
      refine ⟨k.fst, fun q hq => ?_, fun hn => absurd hn (by simp), ?_, ?_, k.nd⟩
      · rcases List.mem_append.mp hq with hq | hq
        · exact k.fnd q hq
        · rw [List.mem_singleton.mp hq]; exact ⟨hu, ht, hk.symm, e⟩
      · have := k.flen; show p.first.length ≤ _; rw [List.length_append]; omega
      · rw [List.length_append, List.length_append]; have := k.len; simp only [List.length_singleton]; omega
def ClosedA (ts : List T) (h : T → α) : Prop := ∀ t ∈ ts, ∀ u ∈ ts, keyA h t = keyA h u → h t = h u
theorem ClosedA.inj (hc : ClosedT ts) (hi : ∀ t ∈ ts, ∀ u ∈ ts, h t = h u → t = u) : ClosedA ts h := fun t ht u hu e => by
  have hp : ∀ p ∈ t.ps, p ∈ ts := hc t ht
  have hq : ∀ p ∈ u.ps, p ∈ ts := hc u hu
  cases t with
  | t0 x =>
    cases u with
    | t0 y => simp [keyA, T.hd, T.ps] at e; rw [e]
    | t1 _ _ => simp [keyA, T.ps] at e
    | t2 _ _ _ => simp [keyA, T.ps] at e
  | t1 x a =>
    cases u with
    | t0 _ => simp [keyA, T.ps] at e
    | t1 y b =>
      simp [keyA, T.hd, T.ps] at e
      rw [e.1, hi a (hp a (by simp [T.ps])) b (hq b (by simp [T.ps])) e.2]
    | t2 _ _ _ => simp [keyA, T.ps] at e
  | t2 x a a2 =>
    cases u with
    | t0 _ => simp [keyA, T.ps] at e
    | t1 _ _ => simp [keyA, T.ps] at e
    | t2 y b b2 =>
      simp [keyA, T.hd, T.ps] at e
      rw [e.1, hi a (hp a (by simp [T.ps])) b (hq b (by simp [T.ps])) e.2.1, hi a2 (hp a2 (by simp [T.ps])) b2 (hq b2 (by simp [T.ps])) e.2.2]
theorem UnlOk.closed {p : Unl α} (k : UnlOk ts h ts p) (e : p.found = []) : ClosedA ts h := fun t ht u hu q => by
  obtain ⟨a, a1, a2⟩ := k.all e t ht
  obtain ⟨b, b1, b2⟩ := k.all e u hu
  rw [q, b1] at a1
  cases a1
  rw [← a2, ← b2]
/-! ### a round of joins -/
def jall (h : T → α) (ps : List (T × T)) : T → α := ps.foldl (fun h p => joinA h p.1 p.2) h
theorem jall_keep : ∀ (ps : List (T × T)) {h : T → α} {t u : T}, h t = h u → jall h ps t = jall h ps u
  | [], _, _, _, e => e
  | p :: r, h, t, u, e => jall_keep r (h := joinA h p.1 p.2) (joinA_keep e)
theorem jall_joins : ∀ (ps : List (T × T)) {h : T → α}, ∀ p ∈ ps, jall h ps p.1 = jall h ps p.2
  | [], _, _, h => by cases h
  | q :: r, h, p, hp => by
    rcases List.mem_cons.mp hp with rfl | hp
    · exact jall_keep r joinA_eq
    · exact jall_joins r p hp
theorem LSound.jall : ∀ {ps : List (T × T)} {h : T → α}, LSound E ts h → (∀ p ∈ ps, p.1 ∈ ts ∧ p.2 ∈ ts ∧ Cong E p.1 p.2) → LSound E ts (jall h ps)
  | [], _, s, _ => s
  | p :: r, _, s, k => by
    obtain ⟨k1, k2, k3⟩ := k p (List.mem_cons_self ..)
    exact LSound.jall (ps := r) (s.join k1 k2 k3) fun q hq => k q (List.mem_cons_of_mem _ hq)
theorem jall_take {ps : List (T × T)} {i : Nat} {p : T × T} (e : ps[i]? = some p) : jall h (ps.take (i + 1)) = joinA (jall h (ps.take i)) p.1 p.2 := by
  unfold SH.jall
  rw [List.take_add_one, e, List.foldl_append]; rfl
/-- how many marks are in use -/
def cntA (vs : List α) (ts : List T) (h : T → α) : Nat := (vs.filter fun v => ts.any fun t => decide (h t = v)).length
def ValA (vs : List α) (ts : List T) (h : T → α) : Prop := ∀ t ∈ ts, h t ∈ vs
theorem ValA.join {vs : List α} (k : ValA vs ts h) {a b : T} (hb : b ∈ ts) : ValA vs ts (joinA h a b) := fun t ht => by
  unfold joinA
  split
  · exact k b hb
  · exact k t ht
theorem filter_le {β : Type} {p q : β → Bool} : ∀ {l : List β}, (∀ x ∈ l, q x = true → p x = true) → (l.filter q).length ≤ (l.filter p).length
  | [], _ => Nat.le_refl _
  | b :: r, h => by
    have h1 := filter_le (l := r) fun x hx => h x (List.mem_cons_of_mem _ hx)
    rw [List.filter_cons, List.filter_cons]
    cases hb : q b with
    | true =>
      rw [h b (List.mem_cons_self ..) hb]
      simp only [if_true, List.length_cons]
      omega
    | false => cases p b <;> simp only [if_true, Bool.false_eq_true, if_false, List.length_cons] <;> omega
theorem cnt_sub {a b : T} (hb : b ∈ ts) (v : α) (q : (ts.any fun t => decide (joinA h a b t = v)) = true) : (ts.any fun t => decide (h t = v)) = true := by
  rw [List.any_eq_true] at q ⊢
  obtain ⟨t, ht, e⟩ := q
  have e := of_decide_eq_true e
  unfold joinA at e
  split at e
  · exact ⟨b, hb, decide_eq_true e⟩
  · exact ⟨t, ht, decide_eq_true e⟩
theorem cnt_join_le {vs : List α} {a b : T} (hb : b ∈ ts) : cntA vs ts (joinA h a b) ≤ cntA vs ts h := filter_le fun v _ q => cnt_sub hb v q
theorem cnt_join_lt {vs : List α} (k : ValA vs ts h) {a b : T} (ha : a ∈ ts) (hb : b ∈ ts) (e : h a ≠ h b) : cntA vs ts (joinA h a b) < cntA vs ts h := by
  refine filter_lt (fun v _ q => cnt_sub hb v q) ⟨h a, k a ha, List.any_eq_true.mpr ⟨a, ha, decide_eq_true rfl⟩, ?_⟩
  rw [Bool.eq_false_iff]
  intro q
  rw [List.any_eq_true] at q
  obtain ⟨t, _, q⟩ := q
  have q := of_decide_eq_true q
  unfold joinA at q
  split at q
  · exact e q.symm
  · rename_i n; exact n q
theorem jall_val {vs : List α} : ∀ {ps : List (T × T)} {h : T → α}, ValA vs ts h → (∀ p ∈ ps, p.1 ∈ ts ∧ p.2 ∈ ts) → ValA vs ts (jall h ps) ∧ cntA vs ts (jall h ps) ≤ cntA vs ts h
  | [], _, k, _ => ⟨k, Nat.le_refl _⟩
  | p :: r, h, k, m => by
    have hb := (m p (List.mem_cons_self ..)).2
    obtain ⟨k1, k2⟩ := jall_val (ps := r) (k.join (a := p.1) hb) fun q hq => m q (List.mem_cons_of_mem _ hq)
    exact ⟨k1, Nat.le_trans k2 (cnt_join_le hb)⟩
theorem jall_less {vs : List α} {ps : List (T × T)} (k : ValA vs ts h) (u : UnlPairs ts h ps) (ne : ps ≠ []) : cntA vs ts (jall h ps) < cntA vs ts h := by
  cases ps with
  | nil => exact absurd rfl ne
  | cons p r =>
    obtain ⟨ha, hb, _, e⟩ := u p (List.mem_cons_self ..)
    have h1 := cnt_join_lt k ha hb e
    have h2 := (jall_val (ps := r) (k.join (a := p.1) hb) fun q hq => ⟨(u q (List.mem_cons_of_mem _ hq)).1, (u q (List.mem_cons_of_mem _ hq)).2.1⟩).2
    exact Nat.lt_of_le_of_lt h2 h1
theorem cntA_le (vs : List α) (ts : List T) (h : T → α) : cntA vs ts h ≤ vs.length := List.length_filter_le ..
/-! ### at the end -/
structure LDone (E : List (T × T)) (ts : List T) (h : T → α) : Prop where
  s : LSound E ts h
  cl : ClosedA ts h
  told : ∀ p ∈ E, p.1 ∈ ts ∧ p.2 ∈ ts ∧ h p.1 = h p.2
def repA (ts : List T) (h : T → α) (t : T) : T := (ts.find? fun u => decide (h u = h t)).getD t
theorem repA_in {t : T} (ht : t ∈ ts) : repA ts h t ∈ ts ∧ h (repA ts h t) = h t := by
  unfold repA
  cases e : ts.find? (fun u => decide (h u = h t)) with
  | none =>
    rw [List.find?_eq_none] at e
    exact absurd (decide_eq_true rfl) (e t ht)
  | some u =>
    have h2 : decide (h u = h t) = true := by simpa using List.find?_some e
    exact ⟨List.mem_of_find?_eq_some e, of_decide_eq_true h2⟩
theorem repA_eq {t u : T} (ht : t ∈ ts) (hu : u ∈ ts) : repA ts h t = repA ts h u ↔ h t = h u := by
  constructor
  · intro e
    exact (repA_in (h := h) ht).2.symm.trans ((congrArg h e).trans (repA_in hu).2)
  · intro e
    have : ts.find? (fun x => decide (h x = h t)) = ts.find? (fun x => decide (h x = h u)) := by rw [e]
    unfold repA
    rw [this]
    cases e2 : ts.find? (fun x => decide (h x = h u)) with
    | none =>
      rw [List.find?_eq_none] at e2
      exact absurd (decide_eq_true rfl) (e2 u hu)
    | some x => rfl
theorem LDone.homes (k : LDone E ts h) (c : ClosedT ts) : Homes E ts (repA ts h) := by
  refine ⟨⟨fun t ht => k.s t ht _ (repA_in ht).1 (repA_in ht).2.symm, fun t ht => (repA_in ht).1, fun t ht => (repA_eq (repA_in ht).1 ht).mpr (repA_in ht).2⟩, fun t ht u hu e => ?_, fun p hp => ⟨(k.told p hp).1, (k.told p hp).2.1, (repA_eq (k.told p hp).1 (k.told p hp).2.1).mpr (k.told p hp).2.2⟩⟩
  refine (repA_eq ht hu).mpr (k.cl t ht u hu ?_)
  have hp : ∀ p ∈ t.ps, p ∈ ts := c t ht
  have hq : ∀ p ∈ u.ps, p ∈ ts := c u hu
  cases t with
  | t0 x =>
    cases u with
    | t0 y => cases e; rfl
    | t1 _ _ => cases e
    | t2 _ _ _ => cases e
  | t1 x a =>
    cases u with
    | t0 _ => cases e
    | t1 y b =>
      simp only [keyT, T.t1.injEq] at e
      obtain ⟨rfl, e⟩ := e
      have := (repA_eq (hp a (by simp [T.ps])) (hq b (by simp [T.ps]))).mp e
      simp [keyA, T.hd, T.ps, this]
    | t2 _ _ _ => cases e
  | t2 x a a2 =>
    cases u with
    | t0 _ => cases e
    | t1 _ _ => cases e
    | t2 y b b2 =>
      simp only [keyT, T.t2.injEq] at e
      obtain ⟨rfl, e, e2⟩ := e
      have := (repA_eq (hp a (by simp [T.ps])) (hq b (by simp [T.ps]))).mp e
      have := (repA_eq (hp a2 (by simp [T.ps])) (hq b2 (by simp [T.ps]))).mp e2
      simp [keyA, T.hd, T.ps, *]
theorem LDone.iff (k : LDone E ts h) (c : ClosedT ts) {t u : T} (ht : t ∈ ts) (hu : u ∈ ts) : h t = h u ↔ Cong E t u :=
  (repA_eq ht hu).symm.trans ((k.homes c).iff c ht hu)
theorem LDone.dec (k : LDone E ts h) (c : ClosedT ts) {t u : T} (ht : t ∈ ts) (hu : u ∈ ts) : decide (h t = h u) = congB E t u := by
  rw [Bool.eq_iff_iff, decide_eq_true_iff, congB_iff]
  exact k.iff c ht hu
/-! ### keys as dict keys -/
def kN (en : α → NestedKey) (k : KA α) : NestedKey := .tup (.text k.1 :: k.2.map en)
theorem kN_inj {en : α → NestedKey} (hi : ∀ a b, en a = en b → a = b) {k k' : KA α} (e : kN en k = kN en k') : k = k' := by
  unfold kN at e
  have e1 := NestedKey.tup.inj e
  obtain ⟨e2, e3⟩ := List.cons.inj e1
  have h1 : k.1 = k'.1 := NestedKey.text.inj e2
  have h2 : k.2 = k'.2 := by
    have : ∀ l l' : List α, l.map en = l'.map en → l = l' := by
      intro l
      induction l with
      | nil => intro l' q; cases l' with
        | nil => rfl
        | cons _ _ => cases q
      | cons x r ih => intro l' q; cases l' with
        | nil => cases q
        | cons y r' =>
          obtain ⟨q1, q2⟩ := List.cons.inj q
          rw [hi _ _ q1, ih _ q2]
    exact this _ _ e3
  exact Prod.ext h1 h2
abbrev akv (en : α → NestedKey) (fs : List (KA α × T)) : List (NestedKey × PyData) := fs.map fun x => (kN en x.1, x.2.enc)
theorem nget_akv {en : α → NestedKey} (hi : ∀ a b, en a = en b → a = b) (fs : List (KA α × T)) (k : KA α) : nget (akv en fs) (kN en k) = (aget fs k).map T.enc := by
  unfold nget aget
  induction fs with
  | nil => rfl
  | cons x r ih =>
    rw [akv, List.map_cons, List.find?_cons, List.find?_cons]
    by_cases e : x.1 = k
    · have h1 : decide (kN en x.1 = kN en k) = true := decide_eq_true (by rw [e])
      have h2 : decide (x.1 = k) = true := decide_eq_true e
      rw [h1, h2]; rfl
    · have h1 : decide (kN en x.1 = kN en k) = false := decide_eq_false fun z => e (kN_inj hi z)
      have h2 : decide (x.1 = k) = false := decide_eq_false e
      rw [h1, h2]; exact ih
theorem nput_akv {en : α → NestedKey} (hi : ∀ a b, en a = en b → a = b) {fs : List (KA α × T)} {k : KA α} {u : T} (h : aget fs k = none) : nput (akv en fs) (kN en k) u.enc = akv en (fs ++ [(k, u)]) := by
  unfold nput
  rw [nget_akv hi, h]
  show akv en fs ++ _ = _
  rw [akv, akv, List.map_append, List.map_cons, List.map_nil]
theorem key_unique {β γ : Type} : ∀ {l : List (β × γ)} {x y : β × γ}, (l.map (·.1)).Nodup → x ∈ l → y ∈ l → x.1 = y.1 → x = y
  | [], _, _, _, h, _, _ => by cases h
  | a :: r, x, y, nd, hx, hy, e => by
    have nd' := List.nodup_cons.mp (by simpa using nd : (a.1 :: r.map (·.1)).Nodup)
    rcases List.mem_cons.mp hx with ex | hx'
    · rcases List.mem_cons.mp hy with ey | hy'
      · rw [ex, ey]
      · exact (nd'.1 (List.mem_map.mpr ⟨y, hy', by rw [← e, ex]⟩)).elim
    · rcases List.mem_cons.mp hy with ey | hy'
      · exact (nd'.1 (List.mem_map.mpr ⟨x, hx', by rw [e, ey]⟩)).elim
      · exact key_unique nd'.2 hx' hy' e
theorem nget_mem {β : Type} {kvs : List (NestedKey × β)} {k : NestedKey} {r : β} (h : nget kvs k = some r) : (k, r) ∈ kvs := by
  unfold nget at h
  obtain ⟨y, hy, rfl⟩ := Option.map_eq_some_iff.mp h
  have h1 := List.mem_of_find?_eq_some hy
  have h2 : decide (y.1 = k) = true := by simpa using List.find?_some hy
  rw [← of_decide_eq_true h2]; exact h1
theorem nput_same {β : Type} {kvs : List (NestedKey × β)} {k : NestedKey} {r : β} (nd : (kvs.map (·.1)).Nodup) (h : nget kvs k = some r) : nput kvs k r = kvs := by
  unfold nput
  rw [h]
  show List.map _ kvs = kvs
  conv => rhs; rw [← List.map_id kvs]
  refine List.map_congr_left fun x hx => ?_
  show (if x.1 = k then (x.1, r) else x) = x
  split
  · rename_i e
    have q := key_unique nd hx (nget_mem h) e
    rw [q]
  · rfl
theorem akv_nd {en : α → NestedKey} (hi : ∀ a b, en a = en b → a = b) {fs : List (KA α × T)} (nd : (fs.map (·.1)).Nodup) : ((akv en fs).map (·.1)).Nodup := by
  rw [List.map_map]
  have : ((fun x : NestedKey × PyData => x.1) ∘ fun x : KA α × T => (kN en x.1, x.2.enc)) = fun x => kN en x.1 := rfl
  rw [this]
  have e : fs.map (fun x => kN en x.1) = (fs.map (·.1)).map (kN en) := by rw [List.map_map]; rfl
  rw [e]
  exact List.pairwise_map.mpr (List.Pairwise.imp (fun h e => h (kN_inj hi e)) nd)
end
end SH
/-! SIe: owned lists read, two objects stored at once, an owned thing handed on, dict(pairs). -/
namespace SH
open PySem PySem.Spec PyProof.Rows L2
section
variable {P : Program} {w : World} {F F1 F2 H H1 H2 : Hp} {σ : L2.St} {S S1 S2 : ASt} {v : V} {ov : OV}
/-- what was got stays got -/
theorem Got.past (g : Got P w F H S F1 H1 σ S1 v ov) (p : Stp P w F1 H1 S1 F2 H2 σ S2) : Got P w F H S F2 H2 σ S2 v ov where
  st := p.st
  own := g.own.keep p.aft.ff fun b hb o e => p.aft.kp b o e (g.new b hb).2
  nd := g.nd
  new := fun b hb => by
    obtain ⟨o, e⟩ := g.own.tracked b hb
    refine ⟨by rw [p.aft.nf b o e (g.new b hb).2]; exact (g.new b hb).1, fun h => ?_⟩
    rcases p.gr b h with q | q
    · exact (g.new b hb).2 q
    · rw [e] at q; cases q
  aft := g.aft.trans g.gr p.aft
  gr := g.gr.trans g.aft p.gr
  grv := g.grv
end
section
variable {X : Cx} {F H : Hp} {σ : L2.St} {S S1 S2 Sa Sb : ASt} {a b e : Expr} {es : List Expr} {d d1 d2 : PyData} {pos p : Pos} {D : AE}
/-- x, y = two new objects -/
theorem s_parO (i j : Nat) {x y : Str} {px py pt pt2 : Pos} {kt k2 : Nat} {R1 R2 : OV → ASt → Prop} (ha : EVQ X a S R1) (hb : ∀ ov S1, R1 ov S1 → EVQ X b S1 R2) (hN : X.N.Nodup) (q : ∀ o1 S1 o2 S2, R1 o1 S1 → R2 o2 S2 → D.nx ((S2.set i (some o1)).set j (some o2))) (hw : swappedStores [.Tuple [.Name x px, .Name y py] kt pt] (.Tuple [a, b] k2 pt2) X.env = pure (some [x, y]) := by rfl)
    (hij : i ≠ j := by decide) (hi : X.N[i]? = some x := by rfl) (hj : X.N[j]? = some y := by rfl) (hx : X.env.scope.names.lookup x = some .local := by rfl) (hy : X.env.scope.names.lookup y = some .local := by rfl) (hc : X.calm = true := by rfl)
    (hsa : starEach [a, b] X.env = (false, eval a X.env) :: starEach [b] X.env := by exact star_plain rfl) (hsb : starEach [b] X.env = (false, eval b X.env) :: starEach [] X.env := by exact star_plain rfl)
    (hs : swapsWithSole [.Tuple [.Name x px, .Name y py] kt pt] (.Tuple [a, b] k2 pt2) pos.line X.env = pure false := by rfl) : SH.S1 X (.Assign [.Tuple [.Name x px, .Name y py] kt pt] (.Tuple [a, b] k2 pt2) pos) S D := fun F H σ st D' k => by
  refine (ps_par hc hN hi hj hij hx hy (paW X [a, b]) hw hs).wp ?_
  refine (pa_cons (peW X a) (paW X [b]) hsa).wp ?_
  refine ha F H σ st _ fun v ov F1 H1 S1 g1 r1 => ?_
  refine (pa_cons (peW X b) (paW X []) hsb).wp ?_
  refine hb ov S1 r1 F1 H1 σ g1.st _ fun u o2 F2 H2 S2 g2 r2 => ?_
  refine pa_nil.wp ⟨v, u, rfl, ?_⟩
  have gp := g1.past g2.stp
  have s1 : Stp X.prog X.w F H S F2 H2 (σ.set i (some v)) (S2.set i (some ov)) := Got.stored gp
  refine k.nx _ F2 H2 _ (Got.stored (v := u) (ov := o2) ?_) (q ov S1 o2 S2 r1 r2)
  refine ⟨s1.st, g2.own, g2.nd, fun b hb => ⟨(g2.new b hb).1, fun h => ?_⟩, s1.aft, s1.gr, fun b hb => ?_⟩
  · rcases feet_set h with h | h
    · exact (g2.new b hb).2 h
    · obtain ⟨o, e⟩ := g1.own.tracked b h
      rcases g2.grv b hb with z | z
      · exact (g1.new b h).2 z
      · rw [e] at z; cases z
  · rcases g2.grv b hb with z | z
    · exact g1.gr b z
    · right
      cases e : H b with
      | none => rfl
      | some o =>
        obtain ⟨o', e'⟩ := g1.aft.tr b o e
        rw [z] at e'; cases e'
/-- a name's own thing handed on: the slot is given up -/
theorem evq_take (j : Nat) {x : Str} {o : OV} (hS : S[j]? = some (some o)) (hN : X.N[j]? = some x := by rfl) (hv : Vis X.env.scope x := by first | exact Or.inl rfl | exact Or.inr (Or.inl rfl) | exact Or.inr (Or.inr rfl))
    (hd : (x == ("__debug__" : Str)) = false := by decide) (hcd : (x == ("__classdict__" : Str)) = false := by decide) : EVQ X (.Name x pos) S fun ov S' => ov = o ∧ S' = S.set j none := fun F H σ st Q k => by
  refine (pe_var hN hv hd hcd).wp ?_
  obtain ⟨v, e, q⟩ := st.slot j _ hS
  have fj : footAt S j = foot o := footAt_some hS
  refine ⟨v, e, k v o F H (S.set j none) ⟨st.drop, q, by rw [← fj]; exact st.nd j, fun b hb => ⟨st.free b ⟨j, by rw [fj]; exact hb⟩, ?_⟩, .refl, fun b h => .inl (feet_drop h), fun b hb => .inl ⟨j, by rw [fj]; exact hb⟩⟩ ⟨rfl, rfl⟩⟩
  rintro ⟨i, hi⟩
  by_cases hij : j = i
  · subst hij; rw [footAt_none] at hi; cases hi
  · rw [footAt_ne hij] at hi
    exact st.apart j i b hij (by rw [fj]; exact hb) hi
theorem own_dp {K : PySem.W.Frag} {p' : Addr} {ds : List PyData} {v : V} (sm : Same F H) (o : XOwn X F H v (.lst p' ds)) : Dp K H v (.list ds) := by
  cases o with
  | lst q r => exact .lst (.inl (.inl q)) (Das.dp _ _ (Das.mono sm _ _ r))
section
variable {j : Nat} {p' : Addr} {ds : List PyData} {x : Str} {px : Pos}
/-- len(an owned list) -/
theorem ev_lenO (j : Nat) (hS : S[j]? = some (some (.lst p' ds))) (hm : X.mg "len" = none) (hg : Gl X "len" := by rfl) (hN : X.N[j]? = some x := by rfl) (hv : Vis X.env.scope x := by first | exact Or.inl rfl | exact Or.inr (Or.inl rfl) | exact Or.inr (Or.inr rfl))
    (hd : (x == ("__debug__" : Str)) = false := by decide) (hcd : (x == ("__classdict__" : Str)) = false := by decide)
    (he : starEach [.Name x px] X.env = (false, eval (.Name x px) X.env) :: starEach [] X.env := by exact star_plain rfl) (hpl : (backTo pos (starEach [] X.env)).any (·.1) = false := by exact back_plain rfl) : Ev X (.Call (.Name "len" p) [.Name x px] [] pos) S (.int (ds.length : Nat)) S := by
  refine .ofPE (pe_callB call_len_seq hg hm PySem.boot_len (pa_cons (pe_var hN hv hd hcd) pa_nil he) (by decide) (by decide) he hpl) fun F H σ st Q k => ?_
  obtain ⟨e1, us, q1, w1⟩ := own_at st hS
  refine ⟨_, e1, p', us, rfl, .inl (SqL.of q1), ?_⟩
  rw [w1.length]
  exact k _ F H (.refl st) (.int _)
/-- an owned list != data -/
theorem evt_neO (j : Nat) (hu : X.A.units + 64 < cLine) (hS : S[j]? = some (some (.lst p' ds))) (hb : Ev X b S d S) (s1 : SeqAt.shaped (.list ds) = true) (s2 : SeqAt.shaped d = true) (hN : X.N[j]? = some x := by rfl) (hv : Vis X.env.scope x := by first | exact Or.inl rfl | exact Or.inr (Or.inl rfl) | exact Or.inr (Or.inr rfl))
    (hd : (x == ("__debug__" : Str)) = false := by decide) (hcd : (x == ("__classdict__" : Str)) = false := by decide) (hm : behindInMarks .NotEq b = false := by first | exact nobehind _ (by decide) (by decide) | rfl) : EvT X (.Compare (.Name x px) [.NotEq] [b] pos) S (!PyData.eqv (.list ds) d) S := fun F H σ st Q k => by
  refine (pt_cmpR (op_neD hu) (pe_var hN hv hd hcd) (peW X b) hm).wp ?_
  obtain ⟨v, e1, o1⟩ := st.slot j _ hS
  have hv0 : v = .ref p' := o1.root rfl
  refine ⟨v, e1, hb.use st fun u F1 H1 p1 w1 => ?_⟩
  obtain ⟨v2, e2, o2⟩ := p1.st.slot j _ hS
  have hv2 : v2 = .ref p' := o2.root rfl
  rw [hv0, ← hv2]
  exact ⟨.list ds, d, own_dp p1.st.same o2, Da.dp _ _ (Da.mono p1.st.same _ _ w1), s1, s2, _, rfl, k F1 H1 p1⟩
/-- a datum not in an owned list -/
theorem evt_notInO (j : Nat) (hu : X.A.units + 65 < cLine) (ha : Ev X a S d S) (hS : S[j]? = some (some (.lst p' ds))) (s1 : SeqAt.shaped d = true) (s2 : SeqAt.shaped (.list ds) = true) (hN : X.N[j]? = some x := by rfl) (hv : Vis X.env.scope x := by first | exact Or.inl rfl | exact Or.inr (Or.inl rfl) | exact Or.inr (Or.inr rfl))
    (hd : (x == ("__debug__" : Str)) = false := by decide) (hcd : (x == ("__classdict__" : Str)) = false := by decide) (hm : behindInMarks .NotIn (.Name x px) = false := by rfl) : EvT X (.Compare a [.NotIn] [.Name x px] pos) S (!ds.any fun z => PyData.eqv z d) S := fun F H σ st Q k => by
  refine (pt_cmpR (op_notInD hu) (peW X a) (pe_var hN hv hd hcd) hm).wp ?_
  refine ha.use st fun u F1 H1 p1 w1 => ?_
  obtain ⟨v, e1, o1⟩ := p1.st.slot j _ hS
  refine ⟨v, e1, d, ds, Da.dp _ _ (Da.mono p1.st.same _ _ w1), own_dp p1.st.same o1, s1, s2, _, rfl, k F1 H1 p1⟩
end
/-! ### calls with a lent thing that come to a datum -/
theorem ev_callB {x : Str} {k n : Nat} {ct : Ct} {ars : List Ar} {as' : List OV} (G : Fc X.prog X.w X.K X.mg X.base x k n ct) (hr : Room k X.A) (ha : EvAB X (e :: es) S ars S1) (hc : ct (ars.map (arOV S1)) fun r args' => r = .dat d ∧ args' = as') (hn : ars.length = n := by rfl) (nd : (slotsOf ars).Nodup := by simp [slotsOf])
    (hb : ∀ i ∈ slotsOf ars, ∃ ov, S1[i]? = some (some ov) := by (intro i hi; simp [slotsOf] at hi; subst hi; exact ⟨_, rfl⟩)) (hg : Gl X x := by rfl) (hdb : (x == ("__debug__" : Str)) = false := by decide)
    (he : starEach (e :: es) X.env = (false, eval e X.env) :: starEach es X.env := by exact star_plain rfl) (hpl : (backTo pos (starEach es X.env)).any (·.1) = false := by exact back_plain rfl) : Ev X (.Call (.Name x p) (e :: es) [] pos) S d (putBack S1 ars as') :=
  evq_call G hr ha (G.mono _ _ _ (fun r a ⟨h1, h2⟩ => ⟨h1, by rw [h2]⟩) hc) hn nd hb hg hdb he hpl
end
/-! ### dict(a list of pairs) -/
abbrev kvD (x : NestedKey × PyData) : PyData := .tuple [x.1.data, x.2]
def nputs (kvs : List (NestedKey × PyData)) : List (NestedKey × PyData) := kvs.foldl (fun acc x => nput acc x.1 x.2) []
section
variable {X : Cx} {F H : Hp} {σ : L2.St}
/-- the pairs in the heap: the tuple's address with the entry -/
theorem pairs_of {pins : List (Addr × Obj)} {s : Shared} (I : L2.Inv X pins σ H s) (sm : Same F H) : ∀ {kvs : List (NestedKey × PyData)} {us : List V} {vals : List Value}, Das F us (kvs.map kvD) → Vals us vals → (∀ x ∈ kvs, isTup x.1 = true ∧ x.1.depth ≤ 8) →
    ∃ E : List (Addr × Ent), vals = E.map (fun x => .ref x.1) ∧ Paired (EntOk F) kvs (E.map (·.2)) ∧ ∀ x ∈ E, PairAt s.heap x.1 (.ref x.2.2.1) x.2.2.2
  | [], _, _, .nil, .nil, _ => ⟨[], rfl, .nil, fun _ h => by cases h⟩
  | kv :: r, _, _, .cons w1 w2, .cons r1 r2, hk => by
    obtain ⟨E, e1, e2, e3⟩ := pairs_of I sm w2 r2 fun x hx => hk x (List.mem_cons_of_mem _ hx)
    cases w1 with
    | @tup T vs _ q w =>
      cases w with
      | @cons vk _ _ _ wk w =>
        cases w with
        | @cons vv _ _ _ wv w =>
          cases w
          obtain ⟨ht, hdp⟩ := hk kv (List.mem_cons_self ..)
          obtain ⟨a, rfl⟩ := da_ref wk ht
          cases r1
          have sq : SqT X.K H T [.ref a, vv] := .inl (Rd.same sm q)
          obtain ⟨its, rv, p, hz⟩ := I.tuple sq
          cases rv with
          | cons ra rv =>
            cases rv with
            | cons rb rv =>
              cases rv
              rename_i x1 x2
              cases (show x1 = Value.ref a from ra)
              refine ⟨(T, kv.1, a, x2) :: E, by rw [e1]; rfl, .cons ⟨rfl, hdp, wk, _, rb, wv⟩ e2, fun x hx => ?_⟩
              rcases List.mem_cons.mp hx with rfl | hx
              · exact .inl p
              · exact e3 x hx
theorem paired_nputs : ∀ {kvs acc : List (NestedKey × PyData)} {xs axs : List Ent}, Paired (EntOk F) kvs xs → Paired (EntOk F) acc axs → Paired (EntOk F) (kvs.foldl (fun acc x => nput acc x.1 x.2) acc) (storedAllH axs xs)
  | [], _, _, _, .nil, h => h
  | kv :: r, acc, _, axs, .cons q t, h => by
    obtain ⟨e1, dp, wk, v, rv, wv⟩ := q
    rename_i x xs
    have st : Paired (EntOk F) (nput acc kv.1 kv.2) (storedH axs x.1 x.2.1 x.2.2) := by
      rw [e1]
      exact paired_put ent_eq ⟨rfl, dp, wk, v, rv, wv⟩ (fun d0 q h => ⟨rfl, h.2.1, h.2.2.1, v, rv, wv⟩) h
    exact paired_nputs (kvs := r) (xs := xs) t st
theorem nputs_len : ∀ (kvs acc : List (NestedKey × PyData)), (kvs.foldl (fun acc x => nput acc x.1 x.2) acc).length ≤ acc.length + kvs.length
  | [], acc => Nat.le_refl _
  | kv :: r, acc => by
    have h1 := nputs_len r (nput acc kv.1 kv.2)
    have h2 : (nput acc kv.1 kv.2).length ≤ acc.length + 1 := by
      unfold nput
      split
      · rw [List.length_map]; omega
      · rw [List.length_append, List.length_singleton]; omega
    rw [List.foldl_cons, List.length_cons]
    omega
theorem call_dictP (hu : X.A.units + 64 < cLine) (hh : X.A.handled = none) : CallR X (.type "dict") (fun vs H Q => ∃ (F : Hp) (q : Addr) (us : List V) (kvs : List (NestedKey × PyData)), Same F H ∧ vs = [.ref q] ∧ Rd H q (.lst us) ∧ Das F us (kvs.map kvD) ∧ (∀ x ∈ kvs, isTup x.1 = true ∧ x.1.depth ≤ 8) ∧ kvs.length ≤ sizeLine ∧
    ∀ (D : Addr) (xs : List Ent), H D = none → (D == sysModules) = false → Paired (EntOk F) (nputs kvs) xs → (xs.map (·.1)).Nodup → Q (.ref D) (upd H D (.ext (tabOf D (xs.map (entryOfKey (nestedKind X.prog X.w))))))) := by
  intro pins s σ H vs us Q I r h
  obtain ⟨F, q, ws, kvs, sm, rfl, hq, w, hk, hz, k⟩ := h
  obtain ⟨u, rfl, ru⟩ := vals1 r
  cases (show u = Value.ref q from ru)
  obtain ⟨z, its, n, rv, e1⟩ := hq.ok I.hok
  obtain ⟨E, ee, pe, hE⟩ := pairs_of I sm w rv hk
  have hlen : E.length = kvs.length := by
    have := Paired.length pe
    rw [List.length_map] at this; exact this.symm
  have PA := PairArg.list (prog := X.prog) (w := X.w) q its.toArray (fun j => ((E[j]?).map (·.1)).getD 0) (E.map fun x => (.ref x.2.2.1, x.2.2.2))
  have hb := I.big
  refine call_dict_pairsH (knd := nestedKind X.prog X.w) (ps := E.map (fun x : Addr × Ent => x.2)) PA hh (show X.A.in1.in1.units + 8 < cLine from by show X.A.units + 1 + 1 + 8 < cLine; omega) ⟨⟨_, n, e1, rfl, rfl, rfl⟩, by simp [ee], fun j kk vv hj => ?_⟩ ⟨by simp, fun i key v hR => ?_⟩ (fun h' hk' x hx => ?_) (by rw [List.length_map]; omega) fun h' tk hd hkeep => ?_
  · rw [List.getElem?_map] at hj
    obtain ⟨x, hx, ex⟩ := Option.map_eq_some_iff.mp hj
    cases ex
    refine ⟨by simp [ee, hx], ?_⟩
    show PairAt s.heap (((E[j]?).map (·.1)).getD 0) _ _
    rw [hx]
    exact hE x (List.mem_of_getElem? hx)
  · have hR : (E.map fun x => ((.ref x.2.2.1 : Value), x.2.2.2))[i]? = some (key, v) := hR
    rw [List.getElem?_map] at hR
    obtain ⟨x, hx, ex⟩ := Option.map_eq_some_iff.mp hR
    cases ex
    exact ⟨x.2.1, x.2.2.1, by rw [List.getElem?_map, hx]; rfl, rfl⟩
  · obtain ⟨y, hy, rfl⟩ := List.mem_map.mp hx
    have ko := keys_of pe y.2 (List.mem_map.mpr ⟨y, hy, rfl⟩)
    have ni := da_nested I sm y.2.1 (.ref y.2.2.1) (.ref y.2.2.1) ko.2 rfl
    refine ⟨NestedIs.at (fun a o vs n ha hd => hk' a o (fun z => ?_) (by simp) ha) _ _ ni, ko.1⟩
    rw [z] at ha
    exact absurd (Heap.lt_size ha) (Nat.lt_irrefl _)
  · obtain ⟨ob, es, ep, g1, g2, g3, g4, g5, g6⟩ := hd
    have hpair := paired_nputs (acc := []) (axs := []) pe .nil
    refine ⟨.ref s.heap.objs.size, _, I.laid (a := s.heap.objs.size) (o := .ext (tabOf s.heap.objs.size ((storedAllH [] (E.map (fun x : Addr × Ent => x.2))).map (entryOfKey (nestedKind X.prog X.w))))) (t' := tk) (fun b o e => hkeep b o (by simp) e) (Nat.le_refl _) ?_, rfl, k _ _ (I.hok.fresh (Nat.le_refl _)) (beq_eq_false_iff_ne.mpr (Ne.symm (Nat.ne_of_lt hb))) hpair g6⟩
    refine ⟨⟨ob, es, ep, g1, g2, g3, g4⟩, ⟨_, g1⟩, fun h1 h2 => ?_⟩
    rintro ⟨o', es', ep', e', r'⟩ kk
    exact ⟨o', es', ep', kk _ e', r'⟩
variable {S S1 : ASt} {e : Expr} {np pos : Pos}
theorem evo_dictP {kvs : List (NestedKey × PyData)} (hu : X.A.units + 64 < cLine) (hh : X.A.handled = none) (he' : Ev X e S (.list (kvs.map kvD)) S1) (hk : ∀ x ∈ kvs, isTup x.1 = true ∧ x.1.depth ≤ 8) (hz : kvs.length ≤ sizeLine) (hm : X.mg "dict" = none) (hv : bootBuiltins "dict" = some (.type "dict") := by decide +kernel) (hg : Gl X "dict" := by rfl) (he : starEach [e] X.env = (false, eval e X.env) :: starEach [] X.env := by exact star_plain rfl) (hpl : (backTo pos (starEach [] X.env)).any (·.1) = false := by exact back_plain rfl) :
    EvO X (.Call (.Name "dict" np) [e] [] pos) S (fun p => .dN p (nputs kvs)) S1 := fun F H σ st Q q => by
  refine (pe_callTy (call_dictP hu hh) hg hm hv (pa_cons (peW X e) pa_nil he) (by decide) (by decide) he hpl).wp ?_
  refine he'.use st fun v F1 H1 p1 w1 => ?_
  cases w1 with
  | @lst l us _ ql wl =>
    refine ⟨F1, l, us, kvs, p1.st.same, rfl, Rd.same p1.st.same ql, wl, hk, hz, fun D xs hD hs pr nd => ?_⟩
    refine q _ _ _ _ S1 (Got.made p1 hD rfl (.dN (xs := xs) ⟨upd_same, hs, ?_, nd⟩ pr)) ⟨⟨D, rfl⟩, rfl⟩
    have h1 := Paired.length pr
    have h2 := nputs_len kvs []
    have h3 : (nputs kvs).length ≤ kvs.length := by
      unfold nputs
      simpa using h2
    omega
end
theorem nputs_nd : ∀ {kvs acc : List (NestedKey × PyData)}, (kvs.map (·.1)).Nodup → (∀ x ∈ kvs, ∀ y ∈ acc, x.1 ≠ y.1) → kvs.foldl (fun acc x => nput acc x.1 x.2) acc = acc ++ kvs
  | [], acc, _, _ => by simp
  | kv :: r, acc, nd, h => by
    have hn : nget acc kv.1 = none := by
      unfold nget
      rw [Option.map_eq_none_iff, List.find?_eq_none]
      intro y hy
      simp only [decide_eq_true_eq]
      exact fun z => h kv (List.mem_cons_self ..) y hy z.symm
    have nd' := List.nodup_cons.mp (by simpa using nd : (kv.1 :: r.map (·.1)).Nodup)
    rw [List.foldl_cons]
    have e1 : nput acc kv.1 kv.2 = acc ++ [kv] := by
      unfold nput
      rw [hn]; rfl
    rw [e1, nputs_nd nd'.2 fun x hx y hy => ?_]
    · simp
    · rcases List.mem_append.mp hy with hy | hy
      · exact h x (List.mem_cons_of_mem _ hx) y hy
      · rw [List.mem_singleton.mp hy]
        exact fun z => nd'.1 (z ▸ List.mem_map.mpr ⟨x, hx, rfl⟩)
theorem nputs_id {kvs : List (NestedKey × PyData)} (nd : (kvs.map (·.1)).Nodup) : nputs kvs = kvs := by
  unfold nputs
  rw [nputs_nd nd (fun _ _ _ h => by cases h)]; rfl
theorem evo_dictPN {X : Cx} {S S1 : ASt} {e : Expr} {np pos : Pos} {kvs : List (NestedKey × PyData)} (hu : X.A.units + 64 < cLine) (hh : X.A.handled = none) (he' : Ev X e S (.list (kvs.map kvD)) S1) (hk : ∀ x ∈ kvs, isTup x.1 = true ∧ x.1.depth ≤ 8) (nd : (kvs.map (·.1)).Nodup) (hz : kvs.length ≤ sizeLine) (hm : X.mg "dict" = none) (hv : bootBuiltins "dict" = some (.type "dict") := by decide +kernel) (hg : Gl X "dict" := by rfl) (he : starEach [e] X.env = (false, eval e X.env) :: starEach [] X.env := by exact star_plain rfl) (hpl : (backTo pos (starEach [] X.env)).any (·.1) = false := by exact back_plain rfl) :
    EvO X (.Call (.Name "dict" np) [e] [] pos) S (fun p => .dN p kvs) S1 := by
  have h := evo_dictP (np := np) (pos := pos) hu hh he' hk hz hm hv hg he hpl
  rw [nputs_id nd] at h
  exact h
end SH
/-! SIf: the later laws' draws, as plain functions; contracts. -/
namespace SH
open PySem PySem.Spec PyProof.Rows L2
abbrev zeros (n : Nat) : List PyData := List.replicate n (.int 0)
theorem zeros_succ (n : Nat) : zeros n ++ [.int 0] = zeros (n + 1) := by rw [zeros, zeros, List.replicate_succ']
def dnum (ns : List Int) (n : Nat) : Int := if ns.isEmpty then 0 else ns.getD (n % ns.length) 0
def ddraw (ns : List Int) (n : Nat) (m : Int) : Int :=
  (((dnum ns n + 104729 * (n : Int)) % 4294967291) ^ 5 % 4294967279 / 64 * 69621 + ((dnum ns n + 104729 * (n : Int)) % 4294967291) ^ 5 % 4294967279) % 4294967231 / 8 % m
theorem ddraw_nn (ns : List Int) (n : Nat) {m : Int} (h : 0 < m) : 0 ≤ ddraw ns n m := Int.emod_nonneg _ (by omega)
theorem ddraw_lt (ns : List Int) (n : Nat) {m : Int} (h : 0 < m) : ddraw ns n m < m := Int.emod_lt_of_pos _ h
def dname (i : Int) : Str := sOf [97 + i.toNat]
def dfg (i : Int) : Str := sOf [102 + (i % 2).toNat]
def dhh : Str := sOf [104]
theorem abcd_at {i : Int} (h0 : 0 ≤ i) (h : i < 4) : atI (Str.ofString "abcd").cps.toList i = some (97 + i.toNat) := by
  have : i = 0 ∨ i = 1 ∨ i = 2 ∨ i = 3 := by omega
  rcases this with rfl | rfl | rfl | rfl <;> decide +kernel
theorem fg_at {i : Int} (h0 : 0 ≤ i) (h : i < 2) : atI (Str.ofString "fg").cps.toList i = some (102 + i.toNat) := by
  have : i = 0 ∨ i = 1 := by omega
  rcases this with rfl | rfl <;> decide +kernel
/-- a drawn term, and the draws behind it -/
def ddrawn (ns : List Int) : Nat → Nat → T × Nat
  | 0, n => (.t0 (dname (ddraw ns (n + 2) 4)), n + 2)
  | d + 1, n => if ddraw ns (n + 1) 7 < 3 then (.t0 (dname (ddraw ns (n + 2) 4)), n + 2) else
    if ddraw ns (n + 1) 7 < 6 then (.t1 (dfg (ddraw ns (n + 1) 7)) (ddrawn ns d (n + 1)).1, (ddrawn ns d (n + 1)).2) else
    (.t2 dhh (ddrawn ns d (n + 1)).1 (ddrawn ns d (ddrawn ns d (n + 1)).2).1, (ddrawn ns d (ddrawn ns d (n + 1)).2).2)
/-- the heads that are drawn -/
def dHd (x : Str) : Prop := ∃ c, (97 ≤ c ∧ c ≤ 104) ∧ x = sOf [c]
theorem dHd_ok {x : Str} (h : dHd x) : isHd x = true := by
  obtain ⟨c, hc, rfl⟩ := h
  refine isHd_of (by simp) (by simp) fun z hz => ?_
  rw [List.mem_singleton.mp hz]
  simp [isLetter]; omega
theorem dname_hd {i : Int} (h : i < 4) : dHd (dname i) := ⟨_, by omega, rfl⟩
theorem dfg_hd (i : Int) : dHd (dfg i) := ⟨_, by have := Int.emod_lt_of_pos i (by decide : (0 : Int) < 2); have := Int.emod_nonneg i (by decide : (2 : Int) ≠ 0); omega, rfl⟩
theorem dhh_hd : dHd dhh := ⟨104, by omega, rfl⟩
theorem ddrawn_tm (ns : List Int) : ∀ (d n : Nat), Tm dHd (d + 1) (ddrawn ns d n).1
  | 0, n => ⟨dname_hd (ddraw_lt ns _ (by decide)), by simp [ddrawn, T.depth]⟩
  | d + 1, n => by
    have h1 := ddrawn_tm ns d (n + 1)
    have h2 := ddrawn_tm ns d (ddrawn ns d (n + 1)).2
    unfold ddrawn
    split
    · exact ⟨dname_hd (ddraw_lt ns _ (by decide)), by simp [T.depth]⟩
    · split
      · exact ⟨⟨dfg_hd _, h1.1⟩, by have := h1.2; simp only [T.depth]; omega⟩
      · exact ⟨⟨dhh_hd, h1.1, h2.1⟩, by have := h1.2; have := h2.2; simp only [T.depth]; omega⟩
theorem ddrawn_few (ns : List Int) : ∀ (d n : Nat), n ≤ (ddrawn ns d n).2 ∧ (ddrawn ns d n).2 + 1 ≤ n + 3 * 2 ^ d
  | 0, n => by simp [ddrawn]
  | d + 1, n => by
    have h1 := ddrawn_few ns d (n + 1)
    have h2 := ddrawn_few ns d (ddrawn ns d (n + 1)).2
    have h3 : 2 ^ (d + 1) = 2 * 2 ^ d := by rw [Nat.pow_succ]; omega
    have h4 : 1 ≤ 2 ^ d := Nat.one_le_two_pow
    unfold ddrawn
    split
    · exact ⟨by simp, by show n + 2 + 1 ≤ _; omega⟩
    · split
      · exact ⟨by show n ≤ (ddrawn ns d (n + 1)).2; omega, by show (ddrawn ns d (n + 1)).2 + 1 ≤ _; omega⟩
      · exact ⟨by show n ≤ (ddrawn ns d (ddrawn ns d (n + 1)).2).2; omega, by show (ddrawn ns d (ddrawn ns d (n + 1)).2).2 + 1 ≤ _; omega⟩
def dpairs (ns : List Int) : Nat → Nat → List (T × T) × Nat
  | 0, n => ([], n)
  | k + 1, n => ((dpairs ns k n).1 ++ [((ddrawn ns 2 (dpairs ns k n).2).1, (ddrawn ns 2 (ddrawn ns 2 (dpairs ns k n).2).2).1)], (ddrawn ns 2 (ddrawn ns 2 (dpairs ns k n).2).2).2)
theorem dpairs_len (ns : List Int) : ∀ k n, (dpairs ns k n).1.length = k
  | 0, _ => rfl
  | k + 1, n => by rw [dpairs, List.length_append, dpairs_len ns k n]; rfl
theorem dpairs_few (ns : List Int) : ∀ k n, n ≤ (dpairs ns k n).2 ∧ (dpairs ns k n).2 ≤ n + 24 * k
  | 0, n => ⟨Nat.le_refl _, Nat.le_refl _⟩
  | k + 1, n => by
    have h1 := dpairs_few ns k n
    have h2 := ddrawn_few ns 2 (dpairs ns k n).2
    have h3 := ddrawn_few ns 2 (ddrawn ns 2 (dpairs ns k n).2).2
    rw [dpairs]
    constructor
    · show n ≤ (ddrawn ns 2 (ddrawn ns 2 (dpairs ns k n).2).2).2; omega
    · show (ddrawn ns 2 (ddrawn ns 2 (dpairs ns k n).2).2).2 ≤ _; omega
/-- told pairs of drawn terms -/
abbrev DTold (E : List (T × T)) : Prop := ∀ p ∈ E, Tm dHd 3 p.1 ∧ Tm dHd 3 p.2
theorem dpairs_tm (ns : List Int) : ∀ k n, DTold (dpairs ns k n).1
  | 0, _ => fun p hp => by cases hp
  | k + 1, n => fun p hp => by
    rw [dpairs] at hp
    rcases List.mem_append.mp hp with hp | hp
    · exact dpairs_tm ns k n p hp
    · rw [List.mem_singleton.mp hp]; exact ⟨ddrawn_tm ns 2 _, ddrawn_tm ns 2 _⟩
def dtold (ns : List Int) (most : Nat) (n : Nat) : List (T × T) × Nat := dpairs ns (ddraw ns (n + 1) (most + 1)).toNat (n + 1)
theorem dtold_facts (ns : List Int) (most n : Nat) : DTold (dtold ns most n).1 ∧ (dtold ns most n).1.length ≤ most ∧ n ≤ (dtold ns most n).2 ∧ (dtold ns most n).2 ≤ n + 1 + 24 * most := by
  have h1 := ddraw_lt ns (n + 1) (m := most + 1) (by omega)
  have h0 := ddraw_nn ns (n + 1) (m := most + 1) (by omega)
  have h2 := dpairs_few ns (ddraw ns (n + 1) (most + 1)).toNat (n + 1)
  refine ⟨dpairs_tm ns _ _, by unfold dtold; rw [dpairs_len]; omega, by unfold dtold; omega, by unfold dtold; omega⟩
theorem Tm.dok {n : Nat} {t : T} (k : Tm dHd n t) : t.Ok := k.1.imp fun _ => dHd_ok
/-! ### contracts -/
def ct_draw : Ct := fun args Q => ∃ (ns : List Int) (p : Addr) (n : Nat) (m : Int), args = [.dat (dInts ns), .lst p (zeros n), .dat (.int m)] ∧ ns.length ≤ 1000 ∧ n ≤ 1000000 ∧ 0 < m ∧ Q (.dat (.int (ddraw ns (n + 1) m))) [.dat (dInts ns), .lst p (zeros (n + 1)), .dat (.int m)]
def ct_drawn (top : Nat) : Ct := fun args Q => ∃ (ns : List Int) (p : Addr) (n d : Nat), args = [.dat (dInts ns), .lst p (zeros n), .dat (.int (d : Nat))] ∧ ns.length ≤ 1000 ∧ n + 3 * 2 ^ d ≤ 200000 ∧ d ≤ top ∧ Q (.dat (ddrawn ns d n).1.enc) [.dat (dInts ns), .lst p (zeros (ddrawn ns d n).2), .dat (.int (d : Nat))]
def ct_dtold : Ct := fun args Q => ∃ (ns : List Int) (p : Addr) (n most : Nat), args = [.dat (dInts ns), .lst p (zeros n), .dat (.int (most : Nat))] ∧ ns.length ≤ 1000 ∧ n ≤ 100000 ∧ most ≤ 20 ∧ Q (.dat (toldD (dtold ns most n).1)) [.dat (dInts ns), .lst p (zeros (dtold ns most n).2), .dat (.int (most : Nat))]
theorem mo_draw : ∀ args Q Q', (∀ r a, Q r a → Q' r a) → ct_draw args Q → ct_draw args Q' := fun _ _ _ h ⟨ns, p, n, m, e, h1, h2, h3, q⟩ => ⟨ns, p, n, m, e, h1, h2, h3, h _ _ q⟩
theorem mo_drawn (top : Nat) : ∀ args Q Q', (∀ r a, Q r a → Q' r a) → ct_drawn top args Q → ct_drawn top args Q' := fun _ _ _ h ⟨ns, p, n, d, e, h1, h2, h3, q⟩ => ⟨ns, p, n, d, e, h1, h2, h3, h _ _ q⟩
theorem mo_dtold : ∀ args Q Q', (∀ r a, Q r a → Q' r a) → ct_dtold args Q → ct_dtold args Q' := fun _ _ _ h ⟨ns, p, n, m, e, h1, h2, h3, q⟩ => ⟨ns, p, n, m, e, h1, h2, h3, h _ _ q⟩
/-! ### all terms within, by a stack -/
structure DW (us ls ts : List T) : Prop where
  nd : ts.Nodup
  sub : ∀ t ∈ ts, ∃ u ∈ us, t ∈ u.all
  lsub : ∀ t ∈ ls, ∃ u ∈ us, t ∈ u.all
  cov : ∀ t ∈ ts, ∀ p ∈ t.ps, p ∈ ts ∨ p ∈ ls
  top : ∀ u ∈ us, u ∈ ts ∨ u ∈ ls
  len : ts.length + (ls.map T.size).sum ≤ (us.map T.size).sum
theorem DW.start (us : List T) : DW us us [] := ⟨.nil, fun _ h => (by cases h), fun t ht => ⟨t, ht, all_self t⟩, fun _ h => (by cases h), fun u hu => .inr hu, by simp⟩
theorem DW.old {us ls ts : List T} {t : T} (k : DW us (ls ++ [t]) ts) (h : t ∈ ts) : DW us ls ts := by
  refine ⟨k.nd, k.sub, fun x hx => k.lsub x (List.mem_append_left _ hx), fun x hx p hp => ?_, fun u hu => ?_, ?_⟩
  · rcases k.cov x hx p hp with q | q
    · exact .inl q
    · rcases List.mem_append.mp q with q | q
      · exact .inr q
      · rw [List.mem_singleton.mp q]; exact .inl h
  · rcases k.top u hu with q | q
    · exact .inl q
    · rcases List.mem_append.mp q with q | q
      · exact .inr q
      · rw [List.mem_singleton.mp q]; exact .inl h
  · have := k.len
    rw [List.map_append, List.sum_append] at this
    omega
theorem DW.new {us ls ts : List T} {t : T} (k : DW us (ls ++ [t]) ts) (h : t ∉ ts) : DW us (ls ++ t.ps) (ts ++ [t]) := by
  refine ⟨?_, fun x hx => ?_, fun x hx => ?_, fun x hx p hp => ?_, fun u hu => ?_, ?_⟩
  · rw [List.nodup_append]
    exact ⟨k.nd, by simp, fun a ha b hb e => by rw [List.mem_singleton.mp hb] at e; exact h (e ▸ ha)⟩
  · rcases List.mem_append.mp hx with hx | hx
    · exact k.sub x hx
    · rw [List.mem_singleton.mp hx]; exact k.lsub t (by simp)
  · rcases List.mem_append.mp hx with hx | hx
    · exact k.lsub x (List.mem_append_left _ hx)
    · obtain ⟨u, hu, e⟩ := k.lsub t (by simp)
      exact ⟨u, hu, all_trans (ps_all hx) e⟩
  · rcases List.mem_append.mp hx with hx | hx
    · rcases k.cov x hx p hp with q | q
      · exact .inl (List.mem_append_left _ q)
      · rcases List.mem_append.mp q with q | q
        · exact .inr (List.mem_append_left _ q)
        · rw [List.mem_singleton.mp q]; exact .inl (by simp)
    · rw [List.mem_singleton.mp hx] at hp
      exact .inr (List.mem_append_right _ hp)
  · rcases k.top u hu with q | q
    · exact .inl (List.mem_append_left _ q)
    · rcases List.mem_append.mp q with q | q
      · exact .inr (List.mem_append_left _ q)
      · rw [List.mem_singleton.mp q]; exact .inl (by simp)
  · have h1 := k.len
    have h2 := ps_sum t
    rw [List.map_append, List.sum_append] at h1
    simp only [List.map_cons, List.map_nil, List.sum_cons, List.sum_nil] at h1
    rw [List.map_append, List.sum_append, List.length_append, List.length_singleton]
    omega
/-- all terms within us, each once -/
structure DP (us ts : List T) : Prop where
  nd : ts.Nodup
  mem : ∀ t, t ∈ ts ↔ ∃ u ∈ us, t ∈ u.all
  len : ts.length ≤ (us.map T.size).sum
theorem DW.done {us ts : List T} (k : DW us [] ts) : DP us ts := by
  refine ⟨k.nd, fun t => ⟨k.sub t, fun ⟨u, hu, e⟩ => ?_⟩, by have := k.len; simpa using this⟩
  have hu' : u ∈ ts := by
    rcases k.top u hu with q | q
    · exact q
    · cases q
  exact all_closed (fun t ht p hp => by
    rcases k.cov t ht p hp with q | q
    · exact q
    · cases q) hu' t e
theorem DP.closed {us ts : List T} (k : DP us ts) : ClosedT ts := fun t ht p hp => by
  obtain ⟨u, hu, e⟩ := (k.mem t).mp ht
  exact (k.mem p).mpr ⟨u, hu, all_trans (ps_all hp) e⟩
theorem DP.top {us ts : List T} (k : DP us ts) {u : T} (h : u ∈ us) : u ∈ ts := (k.mem u).mpr ⟨u, h, all_self u⟩
/-- short terms -/
def Short (us : List T) : Prop := (∀ u ∈ us, u.Ok ∧ u.depth ≤ 7) ∧ (us.map T.size).sum ≤ 50000
theorem DP.short {us ts : List T} (k : DP us ts) (s : Short us) : (∀ t ∈ ts, t.Ok ∧ t.depth ≤ 7) ∧ ts.length ≤ 50000 :=
  ⟨fun t ht => by
    obtain ⟨u, hu, e⟩ := (k.mem t).mp ht
    exact ⟨all_ok (s.1 u hu).1 e, Nat.le_trans (all_depth e) (s.1 u hu).2⟩, Nat.le_trans k.len s.2⟩
def ct_dparts : Ct := fun args Q => ∃ (us : List T), args = [.dat (.list (us.map T.enc))] ∧ Short us ∧ ∀ ts, DP us ts → Q (.dat (.list (ts.map T.enc))) args
theorem mo_dparts : ∀ args Q Q', (∀ r a, Q r a → Q' r a) → ct_dparts args Q → ct_dparts args Q' := fun _ _ _ h ⟨us, e, s, q⟩ => ⟨us, e, s, fun ts k => h _ _ (q ts k)⟩
def ct_flat : Ct := fun args Q => ∃ (E : List (T × T)), args = [.dat (toldD E)] ∧ E.length ≤ 25000 ∧ Q (.dat (.list ((flatE E).map T.enc))) args
theorem mo_flat : ∀ args Q Q', (∀ r a, Q r a → Q' r a) → ct_flat args Q → ct_flat args Q' := fun _ _ _ h ⟨E, e, s, q⟩ => ⟨E, e, s, h _ _ q⟩
/-! ### dicts over terms -/
abbrev gkv (ts : List T) (g : T → PyData) : List (NestedKey × PyData) := ts.map fun t => (t.key, g t)
theorem nget_gkv {ts : List T} {g : T → PyData} {t : T} (ht : t ∈ ts) : nget (gkv ts g) t.key = some (g t) := by
  unfold nget
  induction ts with
  | nil => cases ht
  | cons u r ih =>
    rw [gkv, List.map_cons, List.find?_cons]
    by_cases e : u = t
    · subst e; simp
    · have : decide (u.key = t.key) = false := decide_eq_false fun z => e (T.key_inj z)
      rw [this]
      exact ih ((List.mem_cons.mp ht).resolve_left fun z => e z.symm)
theorem nget_gkv_none {ts : List T} {g : T → PyData} {t : T} (ht : t ∉ ts) : nget (gkv ts g) t.key = none := by
  unfold nget
  rw [Option.map_eq_none_iff, List.find?_eq_none]
  intro x hx
  obtain ⟨u, hu, rfl⟩ := List.mem_map.mp hx
  simp only [decide_eq_true_eq]
  exact fun z => ht (T.key_inj z ▸ hu)
theorem nput_gkv {ts : List T} {g : T → PyData} {t : T} (ht : t ∈ ts) (o : PyData) : nput (gkv ts g) t.key o = gkv ts (fun u => if u = t then o else g u) := by
  unfold nput
  rw [nget_gkv ht]
  show List.map _ (gkv ts g) = _
  unfold gkv
  rw [List.map_map]
  refine List.map_congr_left fun u _ => ?_
  show (if u.key = t.key then (u.key, o) else (u.key, g u)) = (u.key, (if u = t then o else g u))
  by_cases e : u = t
  · subst e; rw [if_pos rfl, if_pos rfl]
  · rw [if_neg (fun z => e (T.key_inj z)), if_neg e]
theorem nput_gkv_new {ts : List T} {g : T → PyData} {t : T} (ht : t ∉ ts) : nput (gkv ts g) t.key (g t) = gkv (ts ++ [t]) g := by
  unfold nput
  rw [nget_gkv_none ht]
  show gkv ts g ++ _ = _
  rw [gkv, gkv, List.map_append, List.map_cons, List.map_nil]
theorem gkv_keys (ts : List T) (g : T → PyData) : (gkv ts g).map (·.1) = ts.map T.key := by rw [List.map_map]; rfl
theorem gkv_nd {ts : List T} {g : T → PyData} (nd : ts.Nodup) : ((gkv ts g).map (·.1)).Nodup := by
  rw [gkv_keys]
  exact List.pairwise_map.mpr (List.Pairwise.imp (fun h e => h (T.key_inj e)) nd)
section
variable {α : Type} [DecidableEq α]
/-- the marks while a join goes through the terms -/
def aI (ts : List T) (h : T → α) (a b : T) (i : Nat) : T → α := fun t => if t ∈ ts.take i then joinA h a b t else h t
variable {ts : List T} {h : T → α} {a b : T} {en : α → PyData}
theorem aI_start : gkv ts (fun t => en (aI ts h a b 0 t)) = gkv ts (fun t => en (h t)) := List.map_congr_left fun t _ => by simp [aI]
theorem aI_end : gkv ts (fun t => en (aI ts h a b ts.length t)) = gkv ts (fun t => en (joinA h a b t)) := List.map_congr_left fun t ht => by simp [aI, ht]
theorem aI_at (nd : ts.Nodup) {i : Nat} {t : T} (e : ts[i]? = some t) : aI ts h a b i t = h t := by
  unfold aI
  rw [if_neg (take_out nd e)]
theorem aI_put {i : Nat} {t : T} (e : ts[i]? = some t) : gkv ts (fun u => if u = t then en (joinA h a b t) else en (aI ts h a b i u)) = gkv ts (fun u => en (aI ts h a b (i + 1) u)) := List.map_congr_left fun u _ => by
  show (u.key, (if u = t then en (joinA h a b t) else en (aI ts h a b i u))) = (u.key, en (aI ts h a b (i + 1) u))
  by_cases hu : u = t
  · subst hu
    rw [if_pos rfl]
    unfold aI
    rw [if_pos ((mem_take_succ e).mpr (.inr rfl))]
  · rw [if_neg hu]
    unfold aI
    by_cases hm : u ∈ ts.take i
    · rw [if_pos hm, if_pos ((mem_take_succ e).mpr (.inl hm))]
    · rw [if_neg hm, if_neg (fun z => ((mem_take_succ e).mp z).elim hm hu)]
end
theorem shaped_pairs {ps : List (T × T)} (h : ∀ p ∈ ps, (p.1.Ok ∧ p.1.depth ≤ 7) ∧ p.2.Ok ∧ p.2.depth ≤ 7) : SeqAt.shaped (.list (ps.map pairD)) = true := by
  refine shaped_mk ?_ ?_
  · show PyData.canLayAll0 (ps.map pairD) = true
    induction ps with
    | nil => rfl
    | cons p r ih =>
      have hp := h p (List.mem_cons_self ..)
      show ((pairD p).canLay0 && PyData.canLayAll0 (r.map pairD)) = true
      rw [ih fun q hq => h q (List.mem_cons_of_mem _ hq), Bool.and_true]
      show PyData.canLayAll0 [p.1.enc, p.2.enc] = true
      exact canLay_list (ts := [p.1, p.2]) fun t ht => by
        simp only [List.mem_cons, List.not_mem_nil, or_false] at ht
        rcases ht with rfl | rfl
        · exact hp.1.1
        · exact hp.2.1
  · show PyData.depthAll (ps.map pairD) + 1 ≤ 64
    have : PyData.depthAll (ps.map pairD) ≤ 8 := by
      induction ps with
      | nil => exact Nat.zero_le _
      | cons p r ih =>
        have hp := h p (List.mem_cons_self ..)
        show max ((pairD p).depth) (PyData.depthAll (r.map pairD)) ≤ 8
        have h1 := ih fun q hq => h q (List.mem_cons_of_mem _ hq)
        have h2 : (pairD p).depth ≤ 8 := by
          show PyData.depthAll [p.1.enc, p.2.enc] + 1 ≤ 8
          have := depth_list (ts := [p.1, p.2]) (n := 7) fun t ht => by
            simp only [List.mem_cons, List.not_mem_nil, or_false] at ht
            rcases ht with rfl | rfl
            · exact hp.1.2
            · exact hp.2.2
          simpa using this
        omega
    omega
theorem pairs_ne (ps : List (T × T)) : (!PyData.eqv (.list (ps.map pairD)) (.list [])) = !ps.isEmpty := by cases ps <;> rfl
/-- the lots -/
def ct_lots : Ct := fun args Q => ∃ (E : List (T × T)) (us : List T) (d : PyData), args = [.dat (toldD E), .dat d] ∧ (d = .list (us.map T.enc) ∨ d = .tuple (us.map T.enc)) ∧ Sm E us ∧
  ∀ (p : Addr) (ts : List T) (h : T → Int), DP (flatE E ++ us) ts → LDone E ts h → Q (.dN p (gkv ts fun t => .int (h t))) args
theorem mo_lots : ∀ args Q Q', (∀ r a, Q r a → Q' r a) → ct_lots args Q → ct_lots args Q' := fun _ _ _ h ⟨E, us, d, e, h1, s, q⟩ => ⟨E, us, d, e, h1, s, fun p ts hh k1 k2 => h _ _ (q p ts hh k1 k2)⟩
theorem Sm.short {E : List (T × T)} {us : List T} (s : Sm E us) : Short (flatE E ++ us) := by
  refine ⟨fun u hu => ?_, ?_⟩
  · have hu' : u ∈ us ++ flatE E := by rw [List.mem_append] at hu ⊢; exact hu.symm
    exact ⟨s.ok u hu', s.dep u hu'⟩
  · have := s.sz
    rw [List.map_append, List.sum_append] at this ⊢
    omega
end SH
/-! SIg: clashes, numbers by a test; contracts of what rests on same. -/
namespace SH
open PySem PySem.Spec PyProof.Rows L2
/-- small told pairs -/
abbrev STold (E : List (T × T)) : Prop := ∀ p ∈ E, (p.1.Ok ∧ p.1.depth ≤ 7) ∧ p.2.Ok ∧ p.2.depth ≤ 7
theorem STold.sm {E : List (T × T)} (hE : STold E) (hl : E.length ≤ 100) {a b : T} (ha : a.Ok ∧ a.depth ≤ 7) (hb : b.Ok ∧ b.depth ≤ 7) : Sm E [a, b] := by
  refine Sm.of (fun u hu => ?_) hE (by simp only [List.length_cons, List.length_nil]; omega)
  simp only [List.mem_cons, List.not_mem_nil, or_false] at hu
  rcases hu with rfl | rfl
  · exact ha
  · exact hb
theorem Tm.d7 {n : Nat} {t : T} (k : Tm dHd n t) (h : n ≤ 7) : t.Ok ∧ t.depth ≤ 7 := ⟨k.dok, Nat.le_trans k.2 h⟩
theorem DTold.s {E : List (T × T)} (h : DTold E) : STold E := fun p hp => ⟨(h p hp).1.d7 (by decide), (h p hp).2.d7 (by decide)⟩
theorem STold.app {E E' : List (T × T)} (h : STold E) (h' : STold E') : STold (E ++ E') := fun p hp => by
  rcases List.mem_append.mp hp with hp | hp
  · exact h p hp
  · exact h' p hp
theorem STold.one {a b : T} (ha : a.Ok ∧ a.depth ≤ 7) (hb : b.Ok ∧ b.depth ≤ 7) : STold [(a, b)] := fun p hp => by rw [List.mem_singleton.mp hp]; exact ⟨ha, hb⟩
theorem STold.sub {E E' : List (T × T)} (h : STold E) (s : ∀ p ∈ E', p ∈ E) : STold E' := fun p hp => h p (s p hp)
/-! ### a test by number -/
theorem idx_filter (ds : List PyData) (cc : Nat → Bool) (g : Nat → PyData) : ((ds.zipIdx.filter fun x => cc x.2).map fun x => g x.2) = ((List.range ds.length).filter cc).map g := by
  have h1 : ds.zipIdx.map (·.2) = List.range ds.length := by
    rw [List.zipIdx_map_snd, List.range_eq_range']
  rw [← h1, List.filter_map, List.map_map]; rfl
/-- pair i is the same by E -/
noncomputable def cAt (E : List (T × T)) (A : List (T × T)) (i : Nat) : Bool := match A[i]? with
  | some p => congB E p.1 p.2
  | none => false
theorem cAt_some {E A : List (T × T)} {i : Nat} {p : T × T} (h : A[i]? = some p) : cAt E A i = congB E p.1 p.2 := by unfold cAt; rw [h]
noncomputable def fcl (E A : List (T × T)) : Option Nat := (List.range A.length).find? (cAt E A)
def optD : Option Nat → PyData
  | none => .none
  | some k => .int (k : Nat)
theorem fcl_some {E A : List (T × T)} {i : Nat} {p : T × T} (h : A[i]? = some p) (hc : congB E p.1 p.2 = true) (hb : ∀ j, j < i → cAt E A j = false) : fcl E A = some i := by
  unfold fcl
  rw [List.find?_range_eq_some]
  refine ⟨by rw [cAt_some h]; exact hc, List.mem_range.mpr (List.getElem?_eq_some_iff.mp h).1, fun j hj => by rw [hb j hj]; rfl⟩
theorem fcl_none {E A : List (T × T)} (hb : ∀ j, j < A.length → cAt E A j = false) : fcl E A = none := by
  unfold fcl
  rw [List.find?_range_eq_none]
  exact fun j hj => by rw [hb j hj]; rfl
theorem fcl_isSome {E A : List (T × T)} : (fcl E A).isSome = A.any fun p => congB E p.1 p.2 := by
  rw [Bool.eq_iff_iff, List.any_eq_true]
  constructor
  · intro h
    obtain ⟨i, hi⟩ := Option.isSome_iff_exists.mp h
    unfold fcl at hi
    rw [List.find?_range_eq_some] at hi
    obtain ⟨h1, h2, _⟩ := hi
    unfold cAt at h1
    cases e : A[i]? with
    | none => rw [e] at h1; cases h1
    | some p => rw [e] at h1; exact ⟨p, List.mem_of_getElem? e, h1⟩
  · rintro ⟨p, hp, hc⟩
    obtain ⟨i, hi⟩ := List.mem_iff_getElem?.mp hp
    cases e : fcl E A with
    | some _ => rfl
    | none =>
      unfold fcl at e
      rw [List.find?_range_eq_none] at e
      have := e i (List.getElem?_eq_some_iff.mp hi).1
      rw [cAt_some hi, hc] at this
      cases this
theorem optD_none (o : Option Nat) : isNone (optD o) = !o.isSome := by cases o <;> rfl
theorem optD_eqv (o : Option Nat) : PyData.eqv (optD o) (optD o) = true := by
  cases o with
  | none => rfl
  | some k => exact (eqv_iff _ _ rfl rfl).mpr rfl
def ct_clash : Ct := fun args Q => ∃ (E A : List (T × T)), args = [.dat (toldD E), .dat (toldD A)] ∧ STold E ∧ E.length ≤ 100 ∧ STold A ∧ Q (.dat (optD (fcl E A))) args
theorem mo_clash : ∀ args Q Q', (∀ r a, Q r a → Q' r a) → ct_clash args Q → ct_clash args Q' := fun _ _ _ h ⟨E, A, e, h1, h2, h3, q⟩ => ⟨E, A, e, h1, h2, h3, h _ _ q⟩
def ct_mustpart : Ct := fun args Q => ∃ (E A : List (T × T)) (a b : T), args = [.dat (toldD E), .dat (toldD A), .dat a.enc, .dat b.enc] ∧ STold E ∧ E.length ≤ 99 ∧ STold A ∧ (a.Ok ∧ a.depth ≤ 7) ∧ (b.Ok ∧ b.depth ≤ 7) ∧ Q (.dat (.bool (A.any fun p => congB (E ++ [(a, b)]) p.1 p.2))) args
theorem mo_mustpart : ∀ args Q Q', (∀ r a, Q r a → Q' r a) → ct_mustpart args Q → ct_mustpart args Q' := fun _ _ _ h ⟨E, A, a, b, e, h1, h2, h3, h4, h5, q⟩ => ⟨E, A, a, b, e, h1, h2, h3, h4, h5, h _ _ q⟩
def ct_is : Ct := fun args Q => ∃ a b : Bool, args = [.dat (.bool a), .dat (.bool b)] ∧ Q (.dat (.bool (decide (a = b)))) args
theorem mo_is : ∀ args Q Q', (∀ r a, Q r a → Q' r a) → ct_is args Q → ct_is args Q' := fun _ _ _ h ⟨a, b, e, q⟩ => ⟨a, b, e, h _ _ q⟩
theorem any_imp {α : Type} {l : List α} {p q : α → Bool} (h : ∀ x ∈ l, p x = true → q x = true) (hp : l.any p = true) : l.any q = true := by
  rw [List.any_eq_true] at hp ⊢
  obtain ⟨x, hx, e⟩ := hp
  exact ⟨x, hx, h x hx e⟩
theorem congB_swap (E : List (T × T)) (a b c d : T) : congB (E ++ [(a, b)]) c d = congB (E ++ [(b, a)]) c d := by
  refine congB_ext (fun p hp => ?_) (fun p hp => ?_) c d
  · rcases List.mem_append.mp hp with hp | hp
    · exact .ax (List.mem_append_left _ hp)
    · rw [List.mem_singleton.mp hp]; exact .symm (.ax (by simp))
  · rcases List.mem_append.mp hp with hp | hp
    · exact .ax (List.mem_append_left _ hp)
    · rw [List.mem_singleton.mp hp]; exact .symm (.ax (by simp))
theorem toldD_app (E E' : List (T × T)) : PyData.tuple (E.map pairD ++ E'.map pairD) = toldD (E ++ E') := by rw [toldD, List.map_append]
theorem told_ne (A : List (T × T)) : (!PyData.eqv (toldD A) (.tuple [])) = !A.isEmpty := by cases A <;> rfl
theorem shaped_told {ps : List (T × T)} (h : STold ps) : SeqAt.shaped (toldD ps) = true := by
  have h1 := shaped_pairs h
  unfold SeqAt.shaped at h1 ⊢
  exact h1
theorem good_eq (M A : List (T × T)) (ds : List PyData) (hl : ds.length = A.length) : (!PyData.eqv (.list ((ds.zipIdx.filter fun x => cAt M A x.2).map fun _ => PyData.int 1)) (.list [])) = A.any fun p => congB M p.1 p.2 := by
  rw [idx_filter ds (cAt M A) fun _ => PyData.int 1, hl, ← fcl_isSome]
  have h : ((List.range A.length).filter (cAt M A)).head? = fcl M A := List.head?_filter
  rw [← h]
  generalize (List.range A.length).filter (cAt M A) = L
  cases L <;> rfl
theorem shaped_ones (l : List PyData) (h : ∀ d ∈ l, d = .int 1) : SeqAt.shaped (.list l) = true := by
  refine shaped_mk ?_ ?_
  · show PyData.canLayAll0 l = true
    induction l with
    | nil => rfl
    | cons a r ih =>
      rw [h a (List.mem_cons_self ..)]
      exact ih fun d hd => h d (List.mem_cons_of_mem _ hd)
  · show PyData.depthAll l + 1 ≤ 64
    have : PyData.depthAll l = 0 := by
      induction l with
      | nil => rfl
      | cons a r ih =>
        rw [h a (List.mem_cons_self ..)]
        show max 0 (PyData.depthAll r) = 0
        rw [ih fun d hd => h d (List.mem_cons_of_mem _ hd)]; rfl
    rw [this]; decide
end SH
/-! SIh: what is needed. -/
namespace SH
open PySem PySem.Spec PyProof.Rows L2
/-- a slot's thing is let go -/
theorem sx_drop {X : Cx} {S : ASt} {st : List Stmt} {D : AE} (i : Nat) (h : SX X st (S.set i none) D) : SX X st S D := fun F H σ ok D' k =>
  h F H σ ok.drop D' (k.go ⟨ok.drop, .refl, fun b hb => .inl (feet_drop hb)⟩)
/-! ### needless ones -/
noncomputable def dueN (E : List (T × T)) : List Nat := (List.range E.length).filter fun k => cAt (E.eraseIdx k) E k
def numsL (l : List Nat) : List PyData := l.map fun i => .int (i : Nat)
inductive LeanTo : List (T × T) → List (T × T) → Prop
  | done {E : List (T × T)} : dueN E = [] → LeanTo E E
  | step {E E' : List (T × T)} {l : List Nat} {k : Nat} : dueN E = l ++ [k] → LeanTo (E.eraseIdx k) E' → LeanTo E E'
theorem LeanTo.fn {E E1 E2 : List (T × T)} (h1 : LeanTo E E1) : LeanTo E E2 → E1 = E2 := by
  induction h1 with
  | done e =>
    intro h2
    cases h2 with
    | done _ => rfl
    | step e2 _ => rw [e] at e2; simp at e2
  | step e _ ih =>
    intro h2
    cases h2 with
    | done e2 => rw [e] at e2; simp at e2
    | @step _ _ l2 k2 e2 h =>
      rw [e] at e2
      have := List.append_inj' e2 rfl
      obtain ⟨_, q⟩ := this
      cases q
      exact ih h
theorem dueN_mem {E : List (T × T)} {k : Nat} (h : k ∈ dueN E) : k < E.length ∧ cAt (E.eraseIdx k) E k = true := by
  unfold dueN at h
  rw [List.mem_filter] at h
  exact ⟨List.mem_range.mp h.1, h.2⟩
theorem erase_cong {E : List (T × T)} {k : Nat} (h : k ∈ dueN E) (a b : T) : congB E a b = congB (E.eraseIdx k) a b := by
  obtain ⟨h1, h2⟩ := dueN_mem h
  refine congB_ext (fun p hp => ?_) (fun p hp => .ax (List.mem_of_mem_eraseIdx hp)) a b
  obtain ⟨i, hi⟩ := List.mem_iff_getElem?.mp hp
  by_cases e : i = k
  · subst e
    rw [cAt_some hi] at h2
    exact congB_iff.mp h2
  · refine .ax ?_
    rw [List.mem_iff_getElem?]
    by_cases hlt : i < k
    · exact ⟨i, by rw [List.getElem?_eraseIdx_of_lt hlt]; exact hi⟩
    · refine ⟨i - 1, ?_⟩
      rw [List.getElem?_eraseIdx_of_ge (by omega), show i - 1 + 1 = i by omega]
      exact hi
theorem LeanTo.facts {E E' : List (T × T)} (h : LeanTo E E') : dueN E' = [] ∧ (∀ a b, congB E a b = congB E' a b) ∧ (∀ p ∈ E', p ∈ E) ∧ E'.length ≤ E.length := by
  induction h with
  | done e => exact ⟨e, fun _ _ => rfl, fun _ h => h, Nat.le_refl _⟩
  | @step E E' l k e h ih =>
    have hk : k ∈ dueN E := by rw [e]; simp
    refine ⟨ih.1, fun a b => (erase_cong hk a b).trans (ih.2.1 a b), fun p hp => List.mem_of_mem_eraseIdx (ih.2.2.1 p hp), Nat.le_trans ih.2.2.2 (List.length_eraseIdx_le ..)⟩
theorem erase_cut (E : List (T × T)) (k : Nat) : E.take k ++ E.drop (k + 1) = E.eraseIdx k := by rw [List.eraseIdx_eq_take_drop_succ]
theorem STold.erase {E : List (T × T)} (h : STold E) (k : Nat) : STold (E.eraseIdx k) := h.sub fun p hp => List.mem_of_mem_eraseIdx hp
theorem plain_told (E : List (T × T)) : plainD (toldD E) = true := by
  show plainDs (E.map pairD) = true
  induction E with
  | nil => rfl
  | cons p r ih =>
    show (plainD (pairD p) && plainDs (r.map pairD)) = true
    rw [ih, Bool.and_true]
    show (plainD p.1.enc && (plainD p.2.enc && true)) = true
    rw [plain_enc, plain_enc]; rfl
theorem eqv_told (E : List (T × T)) : PyData.eqv (toldD E) (toldD E) = true := (eqv_iff _ _ (plain_told E) (plain_told E)).mpr rfl
theorem plain_nums (l : List Nat) : plainDs (numsL l) = true := by
  induction l with
  | nil => rfl
  | cons a r ih => exact ih
theorem eqv_nums (l : List Nat) : PyData.eqv (.tuple (numsL l)) (.tuple (numsL l)) = true := (eqv_iff (.tuple (numsL l)) (.tuple (numsL l)) (plain_nums l) (plain_nums l)).mpr rfl
theorem canLay_nums (l : List Nat) : PyData.canLayAll0 (numsL l) = true := by
  induction l with
  | nil => rfl
  | cons a r ih => exact ih
theorem depth_nums (l : List Nat) : PyData.depthAll (numsL l) = 0 := by
  induction l with
  | nil => rfl
  | cons a r ih => show max 0 (PyData.depthAll (numsL r)) = 0; rw [ih]; rfl
theorem shaped_numsL (l : List Nat) : SeqAt.shaped (.list (numsL l)) = true := shaped_mk (canLay_nums l) (by show PyData.depthAll (numsL l) + 1 ≤ 64; rw [depth_nums]; decide)
theorem shaped_numsT (l : List Nat) : SeqAt.shaped (.tuple (numsL l)) = true := shaped_mk (canLay_nums l) (by show PyData.depthAll (numsL l) + 1 ≤ 64; rw [depth_nums]; decide)
theorem nums_neL (l : List Nat) : (!PyData.eqv (.list (numsL l)) (.list [])) = !l.isEmpty := by cases l <;> rfl
theorem nums_neT (l : List Nat) : (!PyData.eqv (.tuple (numsL l)) (.tuple [])) = !l.isEmpty := by cases l <;> rfl
theorem nums_last {l l' : List Nat} {k : Nat} (e : l = l' ++ [k]) : atI (numsL l) (-1) = some (.int (k : Nat)) := by
  subst e
  refine atI_last ?_
  unfold numsL
  rw [List.length_map, List.length_append, List.length_singleton, List.getElem?_map]
  simp
theorem filter_all {n : Nat} {cc : Nat → Bool} : ((List.range n).filter fun i => !cc i).isEmpty = true ↔ ∀ i, i < n → cc i = true := by
  rw [List.isEmpty_iff, List.filter_eq_nil_iff]
  constructor
  · intro h i hi
    have := h i (List.mem_range.mpr hi)
    simpa using this
  · intro h i hi
    rw [h i (List.mem_range.mp hi)]; simp
theorem all_eq (M A : List (T × T)) (ds : List PyData) (hl : ds.length = A.length) : PyData.eqv (.list ((ds.zipIdx.filter fun x => !cAt M A x.2).map fun _ => PyData.int 1)) (.list []) = A.all fun p => congB M p.1 p.2 := by
  rw [idx_filter ds (fun i => !cAt M A i) fun _ => PyData.int 1, hl]
  have h1 : PyData.eqv (.list (((List.range A.length).filter fun i => !cAt M A i).map fun _ => PyData.int 1)) (.list []) = ((List.range A.length).filter fun i => !cAt M A i).isEmpty := by
    generalize (List.range A.length).filter (fun i => !cAt M A i) = L
    cases L <;> rfl
  rw [h1, Bool.eq_iff_iff, filter_all, List.all_eq_true]
  constructor
  · intro h p hp
    obtain ⟨i, hi⟩ := List.mem_iff_getElem?.mp hp
    have := h i (List.getElem?_eq_some_iff.mp hi).1
    rwa [cAt_some hi] at this
  · intro h i hi
    have e : A[i]? = some A[i] := List.getElem?_eq_getElem hi
    rw [cAt_some e]
    exact h _ (List.getElem_mem hi)
/-! ### contracts -/
def ct_but : Ct := fun args Q => ∃ (E : List (T × T)) (k : Nat), args = [.dat (toldD E), .dat (.int (k : Nat))] ∧ E.length ≤ 1000 ∧ Q (.dat (toldD (E.eraseIdx k))) args
def ct_follows : Ct := fun args Q => ∃ (E : List (T × T)) (k : Nat), args = [.dat (toldD E), .dat (.int (k : Nat))] ∧ STold E ∧ E.length ≤ 100 ∧ k < E.length ∧ Q (.dat (.bool (cAt (E.eraseIdx k) E k))) args
def ct_needless : Ct := fun args Q => ∃ E : List (T × T), args = [.dat (toldD E)] ∧ STold E ∧ E.length ≤ 100 ∧ Q (.dat (.tuple (numsL (dueN E)))) args
def ct_lean : Ct := fun args Q => ∃ E : List (T × T), args = [.dat (toldD E)] ∧ STold E ∧ E.length ≤ 100 ∧ ∀ E', LeanTo E E' → Q (.dat (toldD E')) args
def ct_hasall : Ct := fun args Q => ∃ E A : List (T × T), args = [.dat (toldD E), .dat (toldD A)] ∧ STold E ∧ E.length ≤ 100 ∧ STold A ∧ A.length ≤ 1000 ∧ Q (.dat (.bool (A.all fun p => congB E p.1 p.2))) args
def ct_aliketold : Ct := fun args Q => ∃ E A : List (T × T), args = [.dat (toldD E), .dat (toldD A)] ∧ STold E ∧ E.length ≤ 100 ∧ STold A ∧ A.length ≤ 100 ∧ Q (.dat (.bool ((A.all fun p => congB E p.1 p.2) && E.all fun p => congB A p.1 p.2))) args
theorem mo_but : ∀ args Q Q', (∀ r a, Q r a → Q' r a) → ct_but args Q → ct_but args Q' := fun _ _ _ h ⟨E, k, e, h1, q⟩ => ⟨E, k, e, h1, h _ _ q⟩
theorem mo_follows : ∀ args Q Q', (∀ r a, Q r a → Q' r a) → ct_follows args Q → ct_follows args Q' := fun _ _ _ h ⟨E, k, e, h1, h2, h3, q⟩ => ⟨E, k, e, h1, h2, h3, h _ _ q⟩
theorem mo_needless : ∀ args Q Q', (∀ r a, Q r a → Q' r a) → ct_needless args Q → ct_needless args Q' := fun _ _ _ h ⟨E, e, h1, h2, q⟩ => ⟨E, e, h1, h2, h _ _ q⟩
theorem mo_lean : ∀ args Q Q', (∀ r a, Q r a → Q' r a) → ct_lean args Q → ct_lean args Q' := fun _ _ _ h ⟨E, e, h1, h2, q⟩ => ⟨E, e, h1, h2, fun E' l => h _ _ (q E' l)⟩
theorem mo_hasall : ∀ args Q Q', (∀ r a, Q r a → Q' r a) → ct_hasall args Q → ct_hasall args Q' := fun _ _ _ h ⟨E, A, e, h1, h2, h3, h4, q⟩ => ⟨E, A, e, h1, h2, h3, h4, h _ _ q⟩
theorem mo_aliketold : ∀ args Q Q', (∀ r a, Q r a → Q' r a) → ct_aliketold args Q → ct_aliketold args Q' := fun _ _ _ h ⟨E, A, e, h1, h2, h3, h4, q⟩ => ⟨E, A, e, h1, h2, h3, h4, h _ _ q⟩
end SH
/-! SIi: the plainest terms, in plain Lean. -/
namespace SH
open PySem PySem.Spec PyProof.Rows L2 PySem.W
/-! ### plainer -/
def tl (a b : T) : Bool := if a.size < b.size then true else if b.size < a.size then false else dataLt a.enc b.enc
theorem dlt_cons {x y : PyData} {xs ys : List PyData} (al : alike x y = true) (e : PyData.eqv x y = false) : dataLt (.tuple (x :: xs)) (.tuple (y :: ys)) = dataLt x y := by
  rw [dataLt_tuple]; exact dataLt_all_no al e
theorem dlt_same {x y : PyData} {xs ys : List PyData} (al : alike x y = true) (e : PyData.eqv x y = true) : dataLt (.tuple (x :: xs)) (.tuple (y :: ys)) = dataLt (.tuple xs) (.tuple ys) := by
  rw [dataLt_tuple, dataLt_tuple]; exact dataLt_all_yes al e
theorem dlt_nil : dataLt (.tuple []) (.tuple []) = false := by
  cases e : dataLt (.tuple []) (.tuple []) with
  | false => rfl
  | true => exact absurd e (dlt_irrefl _)
/-- the program's own test -/
theorem pair_lt (a b : T) : dataLt (.tuple [.int (a.size : Nat), a.enc]) (.tuple [.int (b.size : Nat), b.enc]) = tl a b := by
  unfold tl
  by_cases h : a.size = b.size
  · rw [if_neg (by omega), if_neg (by omega), h]
    rw [dlt_same (x := .int (b.size : Nat)) rfl ((eqv_iff _ _ rfl rfl).mpr rfl)]
    by_cases e : a = b
    · subst e
      rw [dlt_same (alike_enc a a) (by rw [eqv_enc, decide_eq_true rfl]), dlt_nil]
      cases e : dataLt a.enc a.enc with
      | false => rfl
      | true => exact absurd e (dlt_irrefl _)
    · rw [dlt_cons (alike_enc a b) (by rw [eqv_enc, decide_eq_false e])]
  · have ne : PyData.eqv (.int (a.size : Nat)) (.int (b.size : Nat)) = false := by
      cases e : PyData.eqv (.int (a.size : Nat)) (.int (b.size : Nat)) with
      | false => rfl
      | true =>
        have := PyData.int.inj ((eqv_iff _ _ rfl rfl).mp e)
        omega
    rw [dlt_cons rfl ne, dataLt_int]
    by_cases h2 : a.size < b.size
    · rw [if_pos h2]; exact decide_eq_true (by omega)
    · rw [if_neg h2, if_pos (by omega)]; exact decide_eq_false (by omega)
theorem tl_irrefl (a : T) : tl a a = false := by
  unfold tl
  rw [if_neg (Nat.lt_irrefl _), if_neg (Nat.lt_irrefl _)]
  cases e : dataLt a.enc a.enc with
  | false => rfl
  | true => exact absurd e (dlt_irrefl _)
theorem tl_size {a b : T} (h : tl a b = true) : a.size ≤ b.size := by
  unfold tl at h
  split at h
  · omega
  · split at h
    · cases h
    · omega
theorem tl_trans {a b c : T} (h1 : tl a b = true) (h2 : tl b c = true) : tl a c = true := by
  have s1 := tl_size h1
  have s2 := tl_size h2
  unfold tl at h1 h2 ⊢
  by_cases h : a.size < c.size
  · rw [if_pos h]
  · rw [if_neg h, if_neg (by omega)]
    rw [if_neg (by omega), if_neg (by omega)] at h1 h2
    exact dlt_trans h1 h2
theorem tl_total {a b : T} (h1 : tl a b = false) (h2 : tl b a = false) : a = b := by
  unfold tl at h1 h2
  by_cases h : a.size < b.size
  · rw [if_pos h] at h1; cases h1
  · by_cases h' : b.size < a.size
    · rw [if_pos h'] at h2; cases h2
    · rw [if_neg h, if_neg h'] at h1
      rw [if_neg h', if_neg h] at h2
      refine toks_inj (dlt_total (fun z => ?_) (fun z => ?_))
      · rw [show dataLt a.enc b.enc = true from z] at h1; cases h1
      · rw [show dataLt b.enc a.enc = true from z] at h2; cases h2
theorem tl_asym {a b : T} (h : tl a b = true) : tl b a = false := by
  cases e : tl b a with
  | false => rfl
  | true => have := tl_trans h e; rw [tl_irrefl] at this; cases this
/-- not plainer: at least as great -/
abbrev tge (a b : T) : Prop := tl a b = false
theorem tge_size {a b : T} (h : tge a b) : b.size ≤ a.size := by
  unfold tge tl at h
  split at h
  · cases h
  · omega
theorem tge_refl (a : T) : tge a a := tl_irrefl a
theorem tge_trans {a b c : T} (h1 : tge a b) (h2 : tge b c) : tge a c := by
  cases e : tl a c with
  | false => exact e
  | true =>
    by_cases hb : tl c b = true
    · have z : true = false := (tl_trans e hb).symm.trans h1
      cases z
    · have hcb : c = b := tl_total (by simpa using hb) h2
      subst hcb
      have z : true = false := e.symm.trans h1
      cases z
theorem tge_of_tl {a b : T} (h : tl b a = true) : tge a b := tl_asym h
theorem all_size {t u : T} (h : u ∈ t.all) : u = t ∨ u.size < t.size := by
  induction t with
  | t0 x => simp only [T.all, List.mem_singleton] at h; exact .inl h
  | t1 x a ih =>
    simp only [T.all, List.mem_cons] at h
    rcases h with h | h
    · exact .inl h
    · right
      have := ih h
      simp only [T.size]
      rcases this with rfl | this <;> omega
  | t2 x a b ih ih2 =>
    simp only [T.all, List.mem_cons, List.mem_append] at h
    rcases h with h | h | h
    · exact .inl h
    · right
      have := ih h
      simp only [T.size]
      rcases this with rfl | this <;> omega
    · right
      have := ih2 h
      simp only [T.size]
      rcases this with rfl | this <;> omega
theorem dlt_or {a b : T} (h : tge a b) : dataLt b.enc a.enc = true ∨ b.size < a.size ∨ a = b := by
  unfold tge tl at h
  by_cases h1 : a.size < b.size
  · rw [if_pos h1] at h; cases h
  · rw [if_neg h1] at h
    by_cases h2 : b.size < a.size
    · exact .inr (.inl h2)
    · rw [if_neg h2] at h
      cases e : dataLt b.enc a.enc with
      | true => exact .inl rfl
      | false => exact .inr (.inr (toks_inj (dlt_total (fun z => by rw [show dataLt a.enc b.enc = true from z] at h; cases h) (fun z => by rw [show dataLt b.enc a.enc = true from z] at e; cases e))))
theorem dlt_asym {a b : T} (h : dataLt a.enc b.enc = true) : dataLt b.enc a.enc = false := by
  cases e : dataLt b.enc a.enc with
  | false => rfl
  | true => exact absurd (dlt_trans h e) (dlt_irrefl _)
/-- wholes of greater parts are greater -/
theorem tge_1 {x : Str} {a b : T} (h : tge a b) : tge (.t1 x a) (.t1 x b) := by
  have hs := tge_size h
  unfold tge tl
  rw [if_neg (by simp only [T.size]; omega)]
  by_cases h2 : (T.t1 x b).size < (T.t1 x a).size
  · rw [if_pos h2]
  · rw [if_neg h2]
    simp only [T.size] at h2
    rcases dlt_or h with d | d | rfl
    · show dataLt (.tuple [.str x, a.enc]) (.tuple [.str x, b.enc]) = false
      rw [dlt_same rfl ((eqv_iff _ _ rfl rfl).mpr rfl)]
      have ne : a ≠ b := fun e => by subst e; exact dlt_irrefl _ d
      rw [dlt_cons (alike_enc a b) (by rw [eqv_enc, decide_eq_false ne])]
      exact dlt_asym d
    · omega
    · exact by
        cases e : dataLt (T.t1 x a).enc (T.t1 x a).enc with
        | false => rfl
        | true => exact absurd e (dlt_irrefl _)
theorem tge_2 {x : Str} {a b c d : T} (h : tge a b) (h' : tge c d) : tge (.t2 x a c) (.t2 x b d) := by
  have hs := tge_size h
  have hs' := tge_size h'
  unfold tge tl
  rw [if_neg (by simp only [T.size]; omega)]
  by_cases h2 : (T.t2 x b d).size < (T.t2 x a c).size
  · rw [if_pos h2]
  · rw [if_neg h2]
    simp only [T.size] at h2
    show dataLt (.tuple [.str x, a.enc, c.enc]) (.tuple [.str x, b.enc, d.enc]) = false
    rw [dlt_same rfl ((eqv_iff _ _ rfl rfl).mpr rfl)]
    rcases dlt_or h with q | q | rfl
    · have ne : a ≠ b := fun e => by subst e; exact dlt_irrefl _ q
      rw [dlt_cons (alike_enc a b) (by rw [eqv_enc, decide_eq_false ne])]
      exact dlt_asym q
    · omega
    · rw [dlt_same (alike_enc a a) (by rw [eqv_enc, decide_eq_true rfl])]
      rcases dlt_or h' with q | q | rfl
      · have ne : c ≠ d := fun e => by subst e; exact dlt_irrefl _ q
        rw [dlt_cons (alike_enc c d) (by rw [eqv_enc, decide_eq_false ne])]
        exact dlt_asym q
      · omega
      · rw [dlt_same (alike_enc c c) (by rw [eqv_enc, decide_eq_true rfl]), dlt_nil]
/-! ### the best so far -/
def fput (fs : List (T × T)) (k v : T) : List (T × T) := if (fget fs k).isSome then fs.map (fun x => if x.1 = k then (x.1, v) else x) else fs ++ [(k, v)]
theorem fget_put {fs : List (T × T)} {k v k' : T} : fget (fput fs k v) k' = if k = k' then some v else fget fs k' := by
  unfold fput
  cases e : fget fs k with
  | none =>
    show fget (fs ++ [(k, v)]) k' = _
    rw [fget_app]
    by_cases h : k = k'
    · subst h; simp [e]
    · rw [if_neg h]
      cases fget fs k' <;> simp [h]
  | some w =>
    show fget (fs.map _) k' = _
    unfold fget at e ⊢
    induction fs with
    | nil => simp at e
    | cons x r ih =>
      rw [List.map_cons, List.find?_cons]
      rw [List.find?_cons] at e
      by_cases hx : x.1 = k
      · rw [if_pos hx]
        by_cases h : k = k'
        · subst h
          simp [hx]
        · rw [if_neg h]
          have h1 : decide (x.1 = k') = false := decide_eq_false fun z => h (hx ▸ z)
          rw [List.find?_cons, h1]
          show Option.map (fun x : T × T => x.2) ((r.map _).find? _) = Option.map (fun x : T × T => x.2) (r.find? _)
          have : ∀ l : List (T × T), Option.map (fun x : T × T => x.2) ((l.map fun x => if x.1 = k then (x.1, v) else x).find? fun x => decide (x.1 = k')) = Option.map (fun x => x.2) (l.find? fun x => decide (x.1 = k')) := by
            intro l
            induction l with
            | nil => rfl
            | cons y l ih2 =>
              rw [List.map_cons, List.find?_cons, List.find?_cons]
              by_cases hy : y.1 = k
              · have h2 : decide (y.1 = k') = false := decide_eq_false fun z => h (hy ▸ z)
                rw [if_pos hy, h2]; exact ih2
              · rw [if_neg hy]
                cases decide (y.1 = k') with
                | true => rfl
                | false => exact ih2
          exact this r
      · rw [if_neg hx]
        have h0 : decide (x.1 = k) = false := decide_eq_false hx
        rw [h0] at e
        have ih := ih e
        by_cases h1 : x.1 = k'
        · have h2 : decide (x.1 = k') = true := decide_eq_true h1
          have h3 : k ≠ k' := fun z => hx (h1.trans z.symm)
          rw [h2, if_neg h3, List.find?_cons, h2]
        · have h2 : decide (x.1 = k') = false := decide_eq_false h1
          rw [h2, List.find?_cons, h2]
          exact ih
theorem fput_len (fs : List (T × T)) (k v : T) : (fput fs k v).length ≤ fs.length + 1 := by
  unfold fput
  split
  · rw [List.length_map]; omega
  · rw [List.length_append]; simp
theorem fput_keys {fs : List (T × T)} {k v : T} {x : T × T} (h : x ∈ fput fs k v) : x.1 = k ∨ x ∈ fs := by
  unfold fput at h
  split at h
  · obtain ⟨y, hy, rfl⟩ := List.mem_map.mp h
    split
    · rename_i e; exact .inl e
    · exact .inr hy
  · rcases List.mem_append.mp h with h | h
    · exact .inr h
    · rw [List.mem_singleton.mp h]; exact .inl rfl
theorem fput_nd {fs : List (T × T)} {k v : T} (nd : (fs.map (·.1)).Nodup) : ((fput fs k v).map (·.1)).Nodup := by
  unfold fput
  cases e : fget fs k with
  | some w =>
    show ((fs.map fun x => if x.1 = k then (x.1, v) else x).map (·.1)).Nodup
    rw [List.map_map]
    have : ((fun x : T × T => x.1) ∘ fun x : T × T => if x.1 = k then (x.1, v) else x) = fun x => x.1 := by
      funext x
      show (if x.1 = k then (x.1, v) else x).1 = x.1
      split <;> rfl
    rw [this]; exact nd
  | none =>
    show ((fs ++ [(k, v)]).map (·.1)).Nodup
    rw [List.map_append, List.nodup_append]
    refine ⟨nd, by simp, fun a ha b hb q => ?_⟩
    rw [List.map_cons, List.map_nil, List.mem_singleton] at hb
    subst hb; subst q
    obtain ⟨x, hx, ex⟩ := List.mem_map.mp ha
    unfold fget at e
    rw [Option.map_eq_none_iff, List.find?_eq_none] at e
    exact e x hx (decide_eq_true ex)
def valB (bs : List (T × T)) (h : T → T) (p : T) : T := (fget bs (h p)).getD p
def newB (bs : List (T × T)) (h : T → T) : T → T
  | .t0 x => .t0 x
  | .t1 x a => .t1 x (valB bs h a)
  | .t2 x a b => .t2 x (valB bs h a) (valB bs h b)
def hasB (bs : List (T × T)) (h : T → T) (t : T) : Bool := t.ps.all fun p => (fget bs (h p)).isSome
abbrev BS := List (T × T) × Bool
/-- a term is looked at; ok: its head may be used -/
def bstep (ok : Str → Bool) (h : T → T) (st : BS) (t : T) : BS :=
  if ok t.hd && hasB st.1 h t then
    match fget st.1 (h t) with
    | none => (fput st.1 (h t) (newB st.1 h t), true)
    | some old => if tl (newB st.1 h t) old then (fput st.1 (h t) (newB st.1 h t), true) else st
  else st
def bpass (ok : Str → Bool) (h : T → T) (bs : List (T × T)) (ts : List T) : BS := ts.foldl (bstep ok h) (bs, false)
/-- what stands of the values -/
structure BInv (ok : Str → Bool) (E : List (T × T)) (ts : List T) (h : T → T) (bs : List (T × T)) : Prop where
  nd : (bs.map (·.1)).Nodup
  key : ∀ x ∈ bs, x.1 ∈ ts ∧ h x.1 = x.1
  cg : ∀ c v, fget bs c = some v → Cong E c v
  hd : ∀ c v, fget bs c = some v → v.All fun x => ok x = true
  sub : ∀ c v, fget bs c = some v → ∀ w ∈ v.all, ∃ w', fget bs (norm ts h w) = some w' ∧ tge w w'
  path : ∀ c v, fget bs c = some v → ∀ w ∈ v.all, ∀ u ∈ w.all, u ≠ w → norm ts h u ≠ norm ts h w
  frm : ∀ c v, fget bs c = some v → ∀ w ∈ v.all, ∃ y ∈ ts, y.hd = w.hd ∧ y.ps.length = w.ps.length ∧ ∀ (i : Nat) a b, y.ps[i]? = some a → w.ps[i]? = some b → Cong E a b
theorem BInv.start (ok : Str → Bool) (E : List (T × T)) (ts : List T) (h : T → T) : BInv ok E ts h [] :=
  ⟨.nil, fun _ hx => (by cases hx), fun _ _ e => (by cases e), fun _ _ e => (by cases e), fun _ _ e => (by cases e), fun _ _ e => (by cases e), fun _ _ e => (by cases e)⟩
theorem newB_ps {bs : List (T × T)} {h : T → T} {t : T} : (newB bs h t).ps = t.ps.map (valB bs h) := by cases t <;> rfl
theorem newB_hd {bs : List (T × T)} {h : T → T} {t : T} : (newB bs h t).hd = t.hd := by cases t <;> rfl
theorem hasB_val {bs : List (T × T)} {h : T → T} {t : T} (k : hasB bs h t = true) {p : T} (hp : p ∈ t.ps) : fget bs (h p) = some (valB bs h p) := by
  unfold hasB at k
  have := List.all_eq_true.mp k p hp
  unfold valB
  obtain ⟨v, e⟩ := Option.isSome_iff_exists.mp this
  rw [e]; rfl
theorem cong_ps {E : List (T × T)} {t u : T} (hh : t.hd = u.hd) (hl : t.ps.length = u.ps.length) (hc : ∀ (i : Nat) a b, t.ps[i]? = some a → u.ps[i]? = some b → Cong E a b) : Cong E t u := by
  cases t with
  | t0 x =>
    cases u with
    | t0 y => simp [T.hd] at hh; subst hh; exact .refl _
    | t1 _ _ => simp [T.ps] at hl
    | t2 _ _ _ => simp [T.ps] at hl
  | t1 x a =>
    cases u with
    | t0 _ => simp [T.ps] at hl
    | t1 y b => simp [T.hd] at hh; subst hh; exact .c1 (hc 0 a b rfl rfl)
    | t2 _ _ _ => simp [T.ps] at hl
  | t2 x a a2 =>
    cases u with
    | t0 _ => simp [T.ps] at hl
    | t1 _ _ => simp [T.ps] at hl
    | t2 y b b2 => simp [T.hd] at hh; subst hh; exact .c2 (hc 0 a b rfl rfl) (hc 1 a2 b2 rfl rfl)
section
variable {ok : Str → Bool} {E : List (T × T)} {ts : List T} {h : T → T} {bs : List (T × T)}
theorem Homes.nm (k : Homes E ts h) (c : ClosedT ts) {a b : T} (e : Cong E a b) : norm ts h a = norm ts h b := cong_norm c k.cl k.told e
theorem Homes.nh (k : Homes E ts h) (c : ClosedT ts) {t v : T} (ht : t ∈ ts) (e : Cong E (h t) v) : norm ts h v = h t := by
  rw [← k.nm c e, norm_in c k.cl (k.s.mem t ht), k.s.idem t ht]
theorem newB_cong (k : Homes E ts h) (c : ClosedT ts) (i : BInv ok E ts h bs) {t : T} (ht : t ∈ ts) (hb : hasB bs h t = true) : ∀ (j : Nat) a b, t.ps[j]? = some a → (newB bs h t).ps[j]? = some b → Cong E a b := fun j a b ea eb => by
  rw [newB_ps, List.getElem?_map, ea] at eb
  cases eb
  have hp := List.mem_of_getElem? ea
  exact (k.s.cg a (c t ht a hp)).trans (i.cg _ _ (hasB_val hb hp))
theorem newB_c (k : Homes E ts h) (c : ClosedT ts) (i : BInv ok E ts h bs) {t : T} (ht : t ∈ ts) (hb : hasB bs h t = true) : Cong E t (newB bs h t) :=
  cong_ps newB_hd.symm (by rw [newB_ps, List.length_map]) (newB_cong k c i ht hb)
theorem all_of_ps {p : Str → Prop} {t : T} (h1 : p t.hd) (h2 : ∀ u ∈ t.ps, u.All p) : t.All p := by
  cases t with
  | t0 => exact h1
  | t1 x a => exact ⟨h1, h2 a (by simp [T.ps])⟩
  | t2 x a b => exact ⟨h1, h2 a (by simp [T.ps]), h2 b (by simp [T.ps])⟩
/-- storing a plainer one -/
theorem BInv.put (k : Homes E ts h) (c : ClosedT ts) (i : BInv ok E ts h bs) {t : T} (ht : t ∈ ts) (ho : ok t.hd = true) (hb : hasB bs h t = true) (hn : ∀ old, fget bs (h t) = some old → tl (newB bs h t) old = true) : BInv ok E ts h (fput bs (h t) (newB bs h t)) := by
  have cn := newB_c k c i ht hb
  have hc : Cong E (h t) (newB bs h t) := (k.s.cg t ht).symm.trans cn
  have nn : norm ts h (newB bs h t) = h t := k.nh c ht hc
  have up : ∀ {w w' : T}, fget bs (norm ts h w) = some w' → tge w w' → ∃ w'', fget (fput bs (h t) (newB bs h t)) (norm ts h w) = some w'' ∧ tge w w'' := fun {w w'} e g => by
    rw [fget_put]
    by_cases q : h t = norm ts h w
    · rw [if_pos q]
      refine ⟨_, rfl, ?_⟩
      rw [← q] at e
      exact tge_trans g (tge_of_tl (hn _ e))
    · rw [if_neg q]; exact ⟨w', e, g⟩
  -- the subterms of the new one
  have subs : ∀ w ∈ (newB bs h t).all, w = newB bs h t ∨ ∃ p ∈ t.ps, w ∈ (valB bs h p).all := fun w hw => by
    rcases all_ps.mp hw with e | ⟨p, hp, e⟩
    · exact .inl e
    · rw [newB_ps] at hp
      obtain ⟨q, hq, rfl⟩ := List.mem_map.mp hp
      exact .inr ⟨q, hq, e⟩
  have one : ∀ {c' v : T}, fget (fput bs (h t) (newB bs h t)) c' = some v → (c' = h t ∧ v = newB bs h t) ∨ fget bs c' = some v := fun {c' v} e => by
    rw [fget_put] at e
    split at e
    · rename_i q; cases e; exact .inl ⟨q.symm, rfl⟩
    · exact .inr e
  refine ⟨fput_nd i.nd, fun x hx => ?_, fun c' v e => ?_, fun c' v e => ?_, fun c' v e w hw => ?_, fun c' v e w hw u hu ne => ?_, fun c' v e w hw => ?_⟩
  · rcases fput_keys hx with q | q
    · rw [q]; exact ⟨k.s.mem t ht, k.s.idem t ht⟩
    · exact i.key x q
  · rcases one e with ⟨rfl, rfl⟩ | e
    · exact hc
    · exact i.cg c' v e
  · rcases one e with ⟨rfl, rfl⟩ | e
    · refine all_of_ps (by rw [newB_hd]; exact ho) fun u hu => ?_
      rw [newB_ps] at hu
      obtain ⟨q, hq, rfl⟩ := List.mem_map.mp hu
      exact i.hd _ _ (hasB_val hb hq)
    · exact i.hd c' v e
  · rcases one e with ⟨rfl, rfl⟩ | e
    · rcases subs w hw with rfl | ⟨p, hp, hw⟩
      · rw [nn, fget_put, if_pos rfl]; exact ⟨_, rfl, tge_refl _⟩
      · obtain ⟨w', e1, e2⟩ := i.sub _ _ (hasB_val hb hp) w hw
        exact up e1 e2
    · obtain ⟨w', e1, e2⟩ := i.sub c' v e w hw
      exact up e1 e2
  · rcases one e with ⟨rfl, rfl⟩ | e
    · rcases subs w hw with rfl | ⟨p, hp, hw⟩
      · rcases subs u hu with q | ⟨p, hp, hu'⟩
        · exact absurd q ne
        · intro z
          rw [nn] at z
          obtain ⟨w', e1, e2⟩ := i.sub _ _ (hasB_val hb hp) u hu'
          rw [z] at e1
          have h1 := tl_size (hn _ e1)
          have h2 := tge_size e2
          rcases all_size hu with q | q
          · exact ne q
          · omega
      · exact i.path _ _ (hasB_val hb hp) w hw u hu ne
    · exact i.path c' v e w hw u hu ne
  · rcases one e with ⟨rfl, rfl⟩ | e
    · rcases subs w hw with rfl | ⟨p, hp, hw⟩
      · exact ⟨t, ht, newB_hd.symm, by rw [newB_ps, List.length_map], newB_cong k c i ht hb⟩
      · exact i.frm _ _ (hasB_val hb hp) w hw
    · exact i.frm c' v e w hw
theorem BInv.step (k : Homes E ts h) (c : ClosedT ts) {st : BS} (i : BInv ok E ts h st.1) {t : T} (ht : t ∈ ts) : BInv ok E ts h (bstep ok h st t).1 := by
  unfold bstep
  split
  · rename_i hb
    rw [Bool.and_eq_true] at hb
    cases e : fget st.1 (h t) with
    | none => exact i.put k c ht hb.1 hb.2 fun old q => by rw [e] at q; cases q
    | some old =>
      show BInv ok E ts h (if tl (newB st.1 h t) old = true then _ else st).1
      by_cases q : tl (newB st.1 h t) old = true
      · rw [if_pos q]
        exact i.put k c ht hb.1 hb.2 fun o z => by rw [e] at z; cases z; exact q
      · rw [if_neg q]; exact i
  · exact i
/-! ### how deep values are -/
theorem path_chain : ∀ v : T, (∀ w ∈ v.all, norm ts h w ∈ ts) → (∀ w ∈ v.all, ∀ u ∈ w.all, u ≠ w → norm ts h u ≠ norm ts h w) → ∃ L : List T, L.Nodup ∧ L.length = v.depth ∧ ∀ x ∈ L, x ∈ ts ∧ ∃ w ∈ v.all, norm ts h w = x
  | .t0 x, h1, _ => ⟨[norm ts h (.t0 x)], by simp, rfl, fun y hy => by rw [List.mem_singleton.mp hy]; exact ⟨h1 _ (all_self _), _, all_self _, rfl⟩⟩
  | .t1 x a, h1, h2 => by
    have sub : ∀ w ∈ a.all, w ∈ (T.t1 x a).all := fun w hw => by simp only [T.all, List.mem_cons]; exact .inr hw
    obtain ⟨L, n1, n2, n3⟩ := path_chain a (fun w hw => h1 w (sub w hw)) fun w hw => h2 w (sub w hw)
    refine ⟨norm ts h (.t1 x a) :: L, List.nodup_cons.mpr ⟨fun hm => ?_, n1⟩, by rw [List.length_cons, n2]; rfl, fun y hy => ?_⟩
    · obtain ⟨_, w, hw, e⟩ := n3 _ hm
      refine h2 _ (all_self _) w (sub w hw) (fun z => ?_) e
      have := all_size hw
      rw [z] at this
      rcases this with q | q
      · have := congrArg T.size q; simp only [T.size] at this; omega
      · simp only [T.size] at q; omega
    · rcases List.mem_cons.mp hy with rfl | hy
      · exact ⟨h1 _ (all_self _), _, all_self _, rfl⟩
      · obtain ⟨m1, w, m2, m3⟩ := n3 y hy
        exact ⟨m1, w, sub w m2, m3⟩
  | .t2 x a b, h1, h2 => by
    have subA : ∀ w ∈ a.all, w ∈ (T.t2 x a b).all := fun w hw => by simp only [T.all, List.mem_cons, List.mem_append]; exact .inr (.inl hw)
    have subB : ∀ w ∈ b.all, w ∈ (T.t2 x a b).all := fun w hw => by simp only [T.all, List.mem_cons, List.mem_append]; exact .inr (.inr hw)
    have mk : ∀ p : T, (∀ w ∈ p.all, w ∈ (T.t2 x a b).all) → p.size < (T.t2 x a b).size → (T.t2 x a b).depth = p.depth + 1 → (∃ L : List T, L.Nodup ∧ L.length = p.depth ∧ ∀ x ∈ L, x ∈ ts ∧ ∃ w ∈ p.all, norm ts h w = x) →
        ∃ L : List T, L.Nodup ∧ L.length = (T.t2 x a b).depth ∧ ∀ y ∈ L, y ∈ ts ∧ ∃ w ∈ (T.t2 x a b).all, norm ts h w = y := fun p sub sz dp ⟨L, n1, n2, n3⟩ => by
      refine ⟨norm ts h (.t2 x a b) :: L, List.nodup_cons.mpr ⟨fun hm => ?_, n1⟩, by rw [List.length_cons, n2, dp], fun y hy => ?_⟩
      · obtain ⟨_, w, hw, e⟩ := n3 _ hm
        refine h2 _ (all_self _) w (sub w hw) (fun z => ?_) e
        have := all_size hw
        rw [z] at this
        rcases this with q | q
        · have := congrArg T.size q; omega
        · omega
      · rcases List.mem_cons.mp hy with rfl | hy
        · exact ⟨h1 _ (all_self _), _, all_self _, rfl⟩
        · obtain ⟨m1, w, m2, m3⟩ := n3 y hy
          exact ⟨m1, w, sub w m2, m3⟩
    by_cases hd : a.depth ≤ b.depth
    · exact mk b subB (by simp only [T.size]; omega) (by simp only [T.depth]; omega) (path_chain b (fun w hw => h1 w (subB w hw)) fun w hw => h2 w (subB w hw))
    · exact mk a subA (by simp only [T.size]; omega) (by simp only [T.depth]; omega) (path_chain a (fun w hw => h1 w (subA w hw)) fun w hw => h2 w (subA w hw))
theorem nodup_sub_len {α : Type} [DecidableEq α] : ∀ {l m : List α}, l.Nodup → (∀ x ∈ l, x ∈ m) → l.length ≤ m.length
  | [], _, _, _ => Nat.zero_le _
  | a :: r, m, nd, sub => by
    have nd' := List.nodup_cons.mp nd
    have ha := sub a (List.mem_cons_self ..)
    have h1 := nodup_sub_len (m := m.erase a) nd'.2 fun x hx => (List.mem_erase_of_ne (fun e => nd'.1 (by rw [← e]; exact hx))).mpr (sub x (List.mem_cons_of_mem _ hx))
    rw [List.length_erase_of_mem ha] at h1
    have := List.length_pos_of_mem ha
    rw [List.length_cons]; omega
theorem BInv.depth (i : BInv ok E ts h bs) {c v : T} (e : fget bs c = some v) : v.depth ≤ ts.length := by
  obtain ⟨L, n1, n2, n3⟩ := path_chain (ts := ts) (h := h) v (fun w hw => by
    obtain ⟨w', e1, _⟩ := i.sub c v e w hw
    exact (i.key _ (fget_mem e1)).1) (i.path c v e)
  rw [← n2]
  exact nodup_sub_len n1 fun x hx => (n3 x hx).1
theorem newB_depth (i : BInv ok E ts h bs) {t : T} (hb : hasB bs h t = true) : (newB bs h t).depth ≤ ts.length + 1 := by
  have hv : ∀ p ∈ t.ps, (valB bs h p).depth ≤ ts.length := fun p hp => i.depth (hasB_val hb hp)
  cases t with
  | t0 x => simp [newB, T.depth]
  | t1 x a => have := hv a (by simp [T.ps]); simp only [newB, T.depth]; omega
  | t2 x a b => have := hv a (by simp [T.ps]); have := hv b (by simp [T.ps]); simp only [newB, T.depth]; omega
end
end SH
/-! SIj: the plainest terms are found, and nothing is plainer. -/
namespace SH
open PySem PySem.Spec PyProof.Rows L2 PySem.W
section
variable {ok : Str → Bool} {E : List (T × T)} {ts : List T} {h : T → T} {bs : List (T × T)}
theorem bfold_inv (k : Homes E ts h) (c : ClosedT ts) : ∀ {l : List T} {st : BS}, BInv ok E ts h st.1 → (∀ t ∈ l, t ∈ ts) → BInv ok E ts h (l.foldl (bstep ok h) st).1
  | [], _, i, _ => i
  | t :: r, st, i, s => bfold_inv k c (l := r) (i.step k c (s t (List.mem_cons_self ..))) fun x hx => s x (List.mem_cons_of_mem _ hx)
/-- no step has changed anything -/
theorem bstep_cases (st : BS) (t : T) : (bstep ok h st t = st ∧ (ok t.hd = true → hasB st.1 h t = true → ∃ old, fget st.1 (h t) = some old ∧ tge (newB st.1 h t) old)) ∨
    (bstep ok h st t = (fput st.1 (h t) (newB st.1 h t), true) ∧ ok t.hd = true ∧ hasB st.1 h t = true ∧ ∀ old, fget st.1 (h t) = some old → tl (newB st.1 h t) old = true) := by
  unfold bstep
  by_cases hb : (ok t.hd && hasB st.1 h t) = true
  · rw [if_pos hb]
    rw [Bool.and_eq_true] at hb
    cases e : fget st.1 (h t) with
    | none => exact .inr ⟨rfl, hb.1, hb.2, fun old q => by cases q⟩
    | some old =>
      show ((if tl (newB st.1 h t) old = true then _ else st) = st ∧ _) ∨ ((if tl (newB st.1 h t) old = true then _ else st) = _ ∧ _)
      by_cases q : tl (newB st.1 h t) old = true
      · rw [if_pos q]
        exact .inr ⟨rfl, hb.1, hb.2, fun o z => by cases z; exact q⟩
      · rw [if_neg q]
        exact .inl ⟨rfl, fun _ _ => ⟨old, rfl, by simpa using q⟩⟩
  · rw [if_neg hb]
    refine .inl ⟨rfl, fun h1 h2 => absurd ?_ hb⟩
    rw [h1, h2]; rfl
theorem bfold_true : ∀ {l : List T} {st : BS}, st.2 = true → (l.foldl (bstep ok h) st).2 = true
  | [], _, e => e
  | t :: r, st, e => by
    refine bfold_true (l := r) ?_
    rcases bstep_cases (ok := ok) (h := h) st t with ⟨q, _⟩ | ⟨q, _⟩ <;> rw [q]
    exact e
theorem bfold_false : ∀ {l : List T} {st : BS}, (l.foldl (bstep ok h) st).2 = false → (l.foldl (bstep ok h) st).1 = st.1 ∧ ∀ t ∈ l, ok t.hd = true → hasB st.1 h t = true → ∃ old, fget st.1 (h t) = some old ∧ tge (newB st.1 h t) old
  | [], _, _ => ⟨rfl, fun _ h => by cases h⟩
  | t :: r, st, e => by
    rw [List.foldl_cons] at e ⊢
    rcases bstep_cases (ok := ok) (h := h) st t with ⟨q, k⟩ | ⟨q, _⟩
    · rw [q] at e ⊢
      obtain ⟨h1, h2⟩ := bfold_false (l := r) e
      refine ⟨h1, fun u hu => ?_⟩
      rcases List.mem_cons.mp hu with rfl | hu
      · exact k
      · exact h2 u hu
    · rw [q] at e
      rw [bfold_true (l := r) rfl] at e
      cases e
/-! ### it ends -/
theorem sum_le {α : Type} {f g : α → Nat} : ∀ {l : List α}, (∀ x ∈ l, g x ≤ f x) → (l.map g).sum ≤ (l.map f).sum
  | [], _ => Nat.le_refl _
  | a :: r, h => by
    have h1 := h a (List.mem_cons_self ..)
    have h2 := sum_le (l := r) fun x hx => h x (List.mem_cons_of_mem _ hx)
    simp only [List.map_cons, List.sum_cons]; omega
theorem sum_lt {α : Type} {f g : α → Nat} : ∀ {l : List α}, (∀ x ∈ l, g x ≤ f x) → (∃ x ∈ l, g x < f x) → (l.map g).sum < (l.map f).sum
  | [], _, h => by obtain ⟨_, h, _⟩ := h; cases h
  | a :: r, h, hx => by
    have h1 := h a (List.mem_cons_self ..)
    have h2 := sum_le (l := r) fun x hx => h x (List.mem_cons_of_mem _ hx)
    obtain ⟨x, hx, hlt⟩ := hx
    simp only [List.map_cons, List.sum_cons]
    rcases List.mem_cons.mp hx with rfl | hx
    · omega
    · have h3 := sum_lt (l := r) (fun x hx => h x (List.mem_cons_of_mem _ hx)) ⟨x, hx, hlt⟩
      omega
theorem sum_congr {α : Type} {f g : α → Nat} {l : List α} (h : ∀ x ∈ l, g x = f x) : (l.map g).sum = (l.map f).sum := by rw [List.map_congr_left h]
/-- all terms so deep over some heads -/
def allLe (hs : List Str) : Nat → List T
  | 0 => []
  | n + 1 => hs.map .t0 ++ (hs.flatMap fun x => (allLe hs n).map fun a => .t1 x a) ++ (hs.flatMap fun x => (allLe hs n).flatMap fun a => (allLe hs n).map fun b => .t2 x a b)
theorem allLe_mem {hs : List Str} : ∀ {t : T} {n : Nat}, t.depth ≤ n → t.All (fun x => x ∈ hs) → t ∈ allLe hs n
  | .t0 x, 0, h, _ => by simp [T.depth] at h
  | .t1 x a, 0, h, _ => by simp [T.depth] at h
  | .t2 x a b, 0, h, _ => by simp [T.depth] at h
  | .t0 x, n + 1, _, k => List.mem_append_left _ (List.mem_append_left _ (List.mem_map.mpr ⟨x, k, rfl⟩))
  | .t1 x a, n + 1, h, k => by
    simp only [T.depth] at h
    exact List.mem_append_left _ (List.mem_append_right _ (List.mem_flatMap.mpr ⟨x, k.1, List.mem_map.mpr ⟨a, allLe_mem (by omega) k.2, rfl⟩⟩))
  | .t2 x a b, n + 1, h, k => by
    simp only [T.depth] at h
    exact List.mem_append_right _ (List.mem_flatMap.mpr ⟨x, k.1, List.mem_flatMap.mpr ⟨a, allLe_mem (by omega) k.2.1, List.mem_map.mpr ⟨b, allLe_mem (by omega) k.2.2, rfl⟩⟩⟩)
def rankT (hs : List Str) (v : T) : Nat := ((allLe hs v.size).filter fun u => tl u v).length
theorem depth_size : ∀ t : T, t.depth ≤ t.size
  | .t0 _ => Nat.le_refl _
  | .t1 _ a => by have := depth_size a; simp only [T.depth, T.size]; omega
  | .t2 _ a b => by have := depth_size a; have := depth_size b; simp only [T.depth, T.size]; omega
theorem rankT_lt {hs : List Str} {u v : T} (hu : u.All (fun x => x ∈ hs)) (h : tl u v = true) (e : u.size = v.size) : rankT hs u < rankT hs v := by
  unfold rankT
  rw [e]
  refine filter_lt (fun x _ q => tl_trans q h) ⟨u, allLe_mem (by rw [← e]; exact depth_size u) hu, h, tl_irrefl u⟩
def mUn (ts : List T) (bs : List (T × T)) : Nat := (ts.map fun c => if (fget bs c).isSome then 0 else 1).sum
def mSz (ts : List T) (bs : List (T × T)) : Nat := (ts.map fun c => match fget bs c with | some v => v.size | none => 0).sum
def mRk (hs : List Str) (ts : List T) (bs : List (T × T)) : Nat := (ts.map fun c => match fget bs c with | some v => rankT hs v | none => 0).sum
def m3 (ts : List T) (bs : List (T × T)) : Nat × Nat × Nat := (mUn ts bs, mSz ts bs, mRk (ts.map T.hd) ts bs)
abbrev lex3 : Nat × Nat × Nat → Nat × Nat × Nat → Prop := Prod.Lex (· < ·) (Prod.Lex (· < ·) (· < ·))
theorem lex3_trans {a b c : Nat × Nat × Nat} (h1 : lex3 a b) (h2 : lex3 b c) : lex3 a c := by
  obtain ⟨a1, a2, a3⟩ := a
  obtain ⟨b1, b2, b3⟩ := b
  obtain ⟨c1, c2, c3⟩ := c
  unfold lex3 at h1 h2 ⊢
  simp only [Prod.lex_def] at h1 h2 ⊢
  omega
theorem put_less (i : BInv ok E ts h bs) {c new : T} (hc : c ∈ ts) (hh : new.All fun x => x ∈ ts.map T.hd) (hn : ∀ old, fget bs c = some old → tl new old = true) : lex3 (m3 ts (fput bs c new)) (m3 ts bs) := by
  unfold m3
  cases e : fget bs c with
  | none =>
    refine .left _ _ (sum_lt (fun x _ => ?_) ⟨c, hc, ?_⟩)
    · show (if (fget (fput bs c new) x).isSome = true then 0 else 1) ≤ (if (fget bs x).isSome = true then 0 else 1)
      rw [fget_put]
      split <;> simp
    · show (if (fget (fput bs c new) c).isSome = true then 0 else 1) < (if (fget bs c).isSome = true then 0 else 1)
      rw [fget_put, if_pos rfl, e]; simp
  | some old =>
    have hl := hn old e
    have hs := tl_size hl
    have e1 : mUn ts (fput bs c new) = mUn ts bs := sum_congr fun x _ => by
      show (if (fget (fput bs c new) x).isSome = true then 0 else 1) = (if (fget bs x).isSome = true then 0 else 1)
      rw [fget_put]
      by_cases q : c = x
      · rw [if_pos q, ← q, e]; rfl
      · rw [if_neg q]
    rw [e1]
    refine .right _ ?_
    by_cases hz : new.size < old.size
    · refine .left _ _ (sum_lt (fun x _ => ?_) ⟨c, hc, ?_⟩)
      · rw [fget_put]
        by_cases q : c = x
        · rw [if_pos q, ← q, e]; exact hs
        · rw [if_neg q]; exact Nat.le_refl _
      · rw [fget_put, if_pos rfl, e]; exact hz
    · have hse : new.size = old.size := by omega
      have e2 : mSz ts (fput bs c new) = mSz ts bs := sum_congr fun x _ => by
        show (match fget (fput bs c new) x with | some v => v.size | none => 0) = _
        rw [fget_put]
        by_cases q : c = x
        · rw [if_pos q, ← q, e]; exact hse
        · rw [if_neg q]
      rw [e2]
      refine .right _ ?_
      have hr := rankT_lt hh hl hse
      refine sum_lt (fun x _ => ?_) ⟨c, hc, ?_⟩
      · rw [fget_put]
        by_cases q : c = x
        · rw [if_pos q, ← q, e]; exact Nat.le_of_lt hr
        · rw [if_neg q]; exact Nat.le_refl _
      · rw [fget_put, if_pos rfl, e]; exact hr
theorem frm_all {p : Str → Prop} (hp : ∀ y ∈ ts, p y.hd) : ∀ {v : T}, (∀ w ∈ v.all, ∃ y ∈ ts, y.hd = w.hd) → v.All p
  | .t0 x, f => by
    obtain ⟨y, hy, e⟩ := f _ (all_self _)
    have := hp y hy
    rw [e] at this; exact this
  | .t1 x a, f => by
    obtain ⟨y, hy, e⟩ := f _ (all_self _)
    have := hp y hy
    rw [e] at this
    exact ⟨this, frm_all hp fun w hw => f w (by simp only [T.all, List.mem_cons]; exact .inr hw)⟩
  | .t2 x a b, f => by
    obtain ⟨y, hy, e⟩ := f _ (all_self _)
    have := hp y hy
    rw [e] at this
    exact ⟨this, frm_all hp fun w hw => f w (by simp only [T.all, List.mem_cons, List.mem_append]; exact .inr (.inl hw)), frm_all hp fun w hw => f w (by simp only [T.all, List.mem_cons, List.mem_append]; exact .inr (.inr hw))⟩
theorem BInv.all (i : BInv ok E ts h bs) {p : Str → Prop} (hp : ∀ y ∈ ts, p y.hd) {c v : T} (e : fget bs c = some v) : v.All p :=
  frm_all hp fun w hw => by
    obtain ⟨y, h1, h2, _⟩ := i.frm c v e w hw
    exact ⟨y, h1, h2⟩
theorem newB_all (i : BInv ok E ts h bs) {p : Str → Prop} (hp : ∀ y ∈ ts, p y.hd) {t : T} (ht : t ∈ ts) (hb : hasB bs h t = true) : (newB bs h t).All p := by
  refine all_of_ps (by rw [newB_hd]; exact hp t ht) fun u hu => ?_
  rw [newB_ps] at hu
  obtain ⟨q, hq, rfl⟩ := List.mem_map.mp hu
  exact i.all hp (hasB_val hb hq)
theorem bfold_less (k : Homes E ts h) (c : ClosedT ts) : ∀ {l : List T} {st : BS}, BInv ok E ts h st.1 → (∀ t ∈ l, t ∈ ts) → (l.foldl (bstep ok h) st).2 = true → st.2 = true ∨ lex3 (m3 ts (l.foldl (bstep ok h) st).1) (m3 ts st.1)
  | [], _, _, _, e => .inl e
  | t :: r, st, i, s, e => by
    rw [List.foldl_cons] at e ⊢
    have ht := s t (List.mem_cons_self ..)
    have i' := i.step k c ht
    have ih := bfold_less k c (l := r) i' (fun x hx => s x (List.mem_cons_of_mem _ hx)) e
    rcases bstep_cases (ok := ok) (h := h) st t with ⟨q, _⟩ | ⟨q, h1, h2, h3⟩
    · rw [q] at ih ⊢; exact ih
    · right
      have hl : lex3 (m3 ts (bstep ok h st t).1) (m3 ts st.1) := by
        rw [q]
        exact put_less i (k.s.mem t ht) (newB_all i (fun y hy => List.mem_map.mpr ⟨y, hy, rfl⟩) ht h2) h3
      by_cases e2 : ((r.foldl (bstep ok h) (bstep ok h st t)).1 = (bstep ok h st t).1)
      · rw [e2]; exact hl
      · -- go on
        have : ∀ {l : List T} {s0 : BS}, BInv ok E ts h s0.1 → (∀ t ∈ l, t ∈ ts) → m3 ts (l.foldl (bstep ok h) s0).1 = m3 ts s0.1 ∨ lex3 (m3 ts (l.foldl (bstep ok h) s0).1) (m3 ts s0.1) := by
          intro l
          induction l with
          | nil => intro s0 _ _; exact .inl rfl
          | cons u l ih2 =>
            intro s0 j sub
            rw [List.foldl_cons]
            have hu := sub u (List.mem_cons_self ..)
            have j' := j.step k c hu
            have h4 := ih2 (s0 := bstep ok h s0 u) j' fun x hx => sub x (List.mem_cons_of_mem _ hx)
            rcases bstep_cases (ok := ok) (h := h) s0 u with ⟨q, _⟩ | ⟨q, g1, g2, g3⟩
            · rw [q] at h4 ⊢; exact h4
            · have hl2 : lex3 (m3 ts (bstep ok h s0 u).1) (m3 ts s0.1) := by
                rw [q]
                exact put_less j (k.s.mem u hu) (newB_all j (fun y hy => List.mem_map.mpr ⟨y, hy, rfl⟩) hu g2) g3
              rcases h4 with h4 | h4
              · exact .inr (by rw [h4]; exact hl2)
              · exact .inr (lex3_trans h4 hl2)
        rcases this (l := r) i' (fun x hx => s x (List.mem_cons_of_mem _ hx)) with z | z
        · rw [z]; exact hl
        · exact lex3_trans z hl
inductive PlTo (ok : Str → Bool) (h : T → T) (ts : List T) : List (T × T) → List (T × T) → Nat → Prop
  | done {bs : List (T × T)} : (bpass ok h bs ts).2 = false → PlTo ok h ts bs bs 0
  | step {bs bs' : List (T × T)} {n : Nat} : (bpass ok h bs ts).2 = true → PlTo ok h ts (bpass ok h bs ts).1 bs' n → PlTo ok h ts bs bs' (n + 1)
theorem lex3_wf : WellFounded lex3 := (Prod.lex ⟨_, Nat.lt_wfRel.wf⟩ (Prod.lex ⟨_, Nat.lt_wfRel.wf⟩ ⟨_, Nat.lt_wfRel.wf⟩)).wf
theorem PlTo.ex (k : Homes E ts h) (c : ClosedT ts) : ∀ (m : Nat × Nat × Nat) (bs : List (T × T)), m = m3 ts bs → BInv ok E ts h bs → ∃ bs' n, PlTo ok h ts bs bs' n := fun m => by
  refine lex3_wf.induction (C := fun m => ∀ bs : List (T × T), m = m3 ts bs → BInv ok E ts h bs → ∃ bs' n, PlTo ok h ts bs bs' n) m fun m ih bs em i => ?_
  cases e : (bpass ok h bs ts).2 with
  | false => exact ⟨bs, 0, .done e⟩
  | true =>
    rcases bfold_less k c (st := (bs, false)) i (fun _ h => h) e with q | q
    · cases q
    · obtain ⟨bs', n, p⟩ := ih _ (em ▸ q) _ rfl (bfold_inv k c i fun _ h => h)
      exact ⟨bs', n + 1, .step e p⟩
theorem PlTo.facts (k : Homes E ts h) (c : ClosedT ts) {bs' : List (T × T)} {n : Nat} (p : PlTo ok h ts bs bs' n) (i : BInv ok E ts h bs) : BInv ok E ts h bs' ∧ (bpass ok h bs' ts).2 = false := by
  induction p with
  | done e => exact ⟨i, e⟩
  | step _ _ ih => exact ih (bfold_inv k c i fun _ h => h)
/-! ### nothing is plainer -/
theorem norm_cong (k : Homes E ts h) (c : ClosedT ts) : ∀ u : T, Cong E u (norm ts h u) := by
  have key : ∀ w ∈ ts, Cong E w (keyT h w) := fun w hw => by
    have hp := c w hw
    cases w with
    | t0 x => exact .refl _
    | t1 x a => exact .c1 (k.s.cg a (hp a (by simp [T.ps])))
    | t2 x a b => exact .c2 (k.s.cg a (hp a (by simp [T.ps]))) (k.s.cg b (hp b (by simp [T.ps])))
  have node : ∀ q : T, Cong E q (nd ts h q) := fun q => by
    unfold nd
    split
    · rename_i hw
      obtain ⟨h1, h2⟩ := hw.choose_spec
      have h3 := key _ h1
      rw [h2] at h3
      exact h3.symm.trans (k.s.cg _ h1)
    · exact .refl _
  intro u
  induction u with
  | t0 x => exact node _
  | t1 x a ih => exact (Cong.c1 ih).trans (node _)
  | t2 x a b ih ih2 => exact (Cong.c2 ih ih2).trans (node _)
theorem top_of (k : Homes E ts h) (c : ClosedT ts) {t u : T} (ht : t ∈ ts) (e : Cong E t u) : ∃ y ∈ ts, h y = h t ∧ y.hd = u.hd ∧ y.ps.length = u.ps.length ∧ ∀ (i : Nat) a b, y.ps[i]? = some a → u.ps[i]? = some b → Cong E a b := by
  have hn : norm ts h u = h t := by rw [← k.nm c e, norm_in c k.cl ht]
  have nn : ∀ a, norm ts h a ∈ ts → h (norm ts h a) = norm ts h a := fun a ha => by
    rw [← norm_in c k.cl ha]
    exact (k.nm c (norm_cong k c a)).symm
  -- the raw key of u
  have main : ∀ q : T, nd ts h q = h t → (q ∈ ts → keyT h q = q) → ∃ y ∈ ts, h y = h t ∧ keyT h y = q := fun q hq hself => by
    by_cases hw : ∃ w, w ∈ ts ∧ keyT h w = q
    · obtain ⟨h1, h2⟩ := hw.choose_spec
      refine ⟨hw.choose, h1, ?_, h2⟩
      unfold nd at hq
      rw [dif_pos hw] at hq
      exact hq
    · unfold nd at hq
      rw [dif_neg hw] at hq
      have hm : q ∈ ts := by rw [hq]; exact k.s.mem t ht
      exact absurd ⟨q, hm, hself hm⟩ hw
  have back : ∀ {y a : T} {p : T}, y ∈ ts → p ∈ y.ps → h p = norm ts h a → Cong E p a := fun {y a p} hy hp e1 => by
    have h1 := k.s.cg p (c y hy p hp)
    rw [e1] at h1
    exact h1.trans (norm_cong k c a).symm
  cases u with
  | t0 x =>
    obtain ⟨y, hy, e1, e2⟩ := main (.t0 x) hn fun _ => rfl
    refine ⟨y, hy, e1, ?_⟩
    cases y with
    | t0 z => cases e2; exact ⟨rfl, rfl, fun i a b ha => by simp [T.ps] at ha⟩
    | t1 _ _ => cases e2
    | t2 _ _ _ => cases e2
  | t1 x a =>
    obtain ⟨y, hy, e1, e2⟩ := main (.t1 x (norm ts h a)) hn fun hm => by
      simp only [keyT]
      rw [nn a (c _ hm _ (by simp [T.ps]))]
    refine ⟨y, hy, e1, ?_⟩
    cases y with
    | t0 z => cases e2
    | t1 z b =>
      simp only [keyT, T.t1.injEq] at e2
      refine ⟨e2.1, rfl, fun i p q hp hq => ?_⟩
      match i with
      | 0 => cases hp; cases hq; exact back hy (by simp [T.ps]) e2.2
      | i + 1 => simp [T.ps] at hp
    | t2 _ _ _ => cases e2
  | t2 x a a2 =>
    obtain ⟨y, hy, e1, e2⟩ := main (.t2 x (norm ts h a) (norm ts h a2)) hn fun hm => by
      simp only [keyT]
      rw [nn a (c _ hm _ (by simp [T.ps])), nn a2 (c _ hm _ (by simp [T.ps]))]
    refine ⟨y, hy, e1, ?_⟩
    cases y with
    | t0 z => cases e2
    | t1 _ _ => cases e2
    | t2 z b b2 =>
      simp only [keyT, T.t2.injEq] at e2
      refine ⟨e2.1, rfl, fun i p q hp hq => ?_⟩
      match i with
      | 0 => cases hp; cases hq; exact back hy (by simp [T.ps]) e2.2.1
      | 1 => cases hp; cases hq; exact back hy (by simp [T.ps]) e2.2.2
      | i + 2 => simp [T.ps] at hp
/-- stable values are the plainest -/
theorem stable_min (k : Homes E ts h) (c : ClosedT ts) (st : (bpass ok h bs ts).2 = false) : ∀ (u : T), u.All (fun x => ok x = true) → ∀ t ∈ ts, Cong E t u → ∃ v, fget bs (h t) = some v ∧ tge u v := by
  have stab := (bfold_false (st := (bs, false)) st).2
  have fin : ∀ {y : T}, y ∈ ts → ok y.hd = true → (∀ p ∈ y.ps, (fget bs (h p)).isSome = true) → ∃ old, fget bs (h y) = some old ∧ tge (newB bs h y) old := fun {y} hy ho hp => stab y hy ho (List.all_eq_true.mpr hp)
  intro u
  induction u with
  | t0 x =>
    intro hu t ht e
    obtain ⟨y, hy, e1, e2, e3, _⟩ := top_of k c ht e
    cases y with
    | t0 z =>
      have e2 : z = x := e2
      subst e2
      obtain ⟨v, g1, g2⟩ := fin hy hu fun p hp => by simp [T.ps] at hp
      rw [e1] at g1
      exact ⟨v, g1, g2⟩
    | t1 _ _ => simp [T.ps] at e3
    | t2 _ _ _ => simp [T.ps] at e3
  | t1 x a ih =>
    intro hu t ht e
    obtain ⟨y, hy, e1, e2, e3, e4⟩ := top_of k c ht e
    cases y with
    | t0 _ => simp [T.ps] at e3
    | t1 z b =>
      have e2 : z = x := e2
      subst e2
      have hb := c _ hy b (by simp [T.ps])
      obtain ⟨va, f1, f2⟩ := ih hu.2 b hb (e4 0 b a rfl rfl)
      obtain ⟨v, g1, g2⟩ := fin hy hu.1 fun p hp => by
        simp only [T.ps, List.mem_singleton] at hp
        subst hp; rw [f1]; rfl
      rw [e1] at g1
      refine ⟨v, g1, tge_trans ?_ g2⟩
      have : newB bs h (.t1 z b) = .t1 z va := by simp only [newB, valB, f1, Option.getD_some]
      rw [this]; exact tge_1 f2
    | t2 _ _ _ => simp [T.ps] at e3
  | t2 x a a2 ih ih2 =>
    intro hu t ht e
    obtain ⟨y, hy, e1, e2, e3, e4⟩ := top_of k c ht e
    cases y with
    | t0 _ => simp [T.ps] at e3
    | t1 _ _ => simp [T.ps] at e3
    | t2 z b b2 =>
      have e2 : z = x := e2
      subst e2
      have hb := c _ hy b (by simp [T.ps])
      have hb2 := c _ hy b2 (by simp [T.ps])
      obtain ⟨va, f1, f2⟩ := ih hu.2.1 b hb (e4 0 b a rfl rfl)
      obtain ⟨vb, f3, f4⟩ := ih2 hu.2.2 b2 hb2 (e4 1 b2 a2 rfl rfl)
      obtain ⟨v, g1, g2⟩ := fin hy hu.1 fun p hp => by
        simp only [T.ps, List.mem_cons, List.not_mem_nil, or_false] at hp
        rcases hp with rfl | rfl
        · rw [f1]; rfl
        · rw [f3]; rfl
      rw [e1] at g1
      refine ⟨v, g1, tge_trans ?_ g2⟩
      have : newB bs h (.t2 z b b2) = .t2 z va vb := by simp only [newB, valB, f1, f3, Option.getD_some]
      rw [this]; exact tge_2 f2 f4
end
/-- v is the plainest of those that are the same as t, by the heads that are ok -/
structure PlainBy (ok : Str → Bool) (E : List (T × T)) (t v : T) : Prop where
  cg : Cong E t v
  hd : v.All fun x => ok x = true
  min : ∀ u, u.All (fun x => ok x = true) → Cong E t u → tge u v
theorem PlainBy.fn {ok : Str → Bool} {E : List (T × T)} {t v w : T} (h1 : PlainBy ok E t v) (h2 : PlainBy ok E t w) : v = w :=
  tl_total (h2.min v h1.hd h1.cg) (h1.min w h2.hd h2.cg)
/-- each of its parts has the head of one of ts, of parts that are the same -/
def Frm (E : List (T × T)) (ts : List T) (v : T) : Prop := ∀ w ∈ v.all, ∃ y ∈ ts, y.hd = w.hd ∧ y.ps.length = w.ps.length ∧ ∀ (i : Nat) a b, y.ps[i]? = some a → w.ps[i]? = some b → Cong E a b
theorem PlTo.plain {ok : Str → Bool} {E : List (T × T)} {ts : List T} {h : T → T} (k : Homes E ts h) (c : ClosedT ts) {bs' : List (T × T)} {n : Nat} (p : PlTo ok h ts [] bs' n) {t : T} (ht : t ∈ ts) :
    (∃ v, fget bs' (h t) = some v ∧ PlainBy ok E t v ∧ Frm E ts v ∧ v.depth ≤ ts.length) ∨ (fget bs' (h t) = none ∧ ∀ u, u.All (fun x => ok x = true) → ¬ Cong E t u) := by
  obtain ⟨i, st⟩ := p.facts k c (BInv.start ok E ts h)
  cases e : fget bs' (h t) with
  | some v =>
    refine .inl ⟨v, rfl, ⟨(k.s.cg t ht).trans (i.cg _ _ e), i.hd _ _ e, fun u hu hc => ?_⟩, i.frm _ _ e, i.depth e⟩
    obtain ⟨w, e1, e2⟩ := stable_min k c st u hu t ht hc
    rw [e] at e1; cases e1; exact e2
  | none =>
    refine .inr ⟨rfl, fun u hu hc => ?_⟩
    obtain ⟨w, e1, _⟩ := stable_min k c st u hu t ht hc
    rw [e] at e1; cases e1
theorem BInv.len {ok : Str → Bool} {E : List (T × T)} {ts : List T} {h : T → T} {bs : List (T × T)} (i : BInv ok E ts h bs) : bs.length ≤ ts.length := by
  have := nodup_sub_len (m := ts) i.nd fun x hx => by
    obtain ⟨y, hy, rfl⟩ := List.mem_map.mp hx
    exact (i.key y hy).1
  rwa [List.length_map] at this
theorem nput_fput (fs : List (T × T)) (k v : T) : nput (fkv fs) k.key v.enc = fkv (fput fs k v) := by
  unfold nput fput
  rw [nget_fkv]
  cases e : fget fs k with
  | none =>
    show fkv fs ++ _ = fkv (fs ++ [(k, v)])
    rw [fkv, fkv, List.map_append, List.map_cons, List.map_nil]
  | some w =>
    show (fkv fs).map _ = fkv (fs.map _)
    rw [fkv, fkv, List.map_map, List.map_map]
    refine List.map_congr_left fun x _ => ?_
    show (if x.1.key = k.key then (x.1.key, v.enc) else (x.1.key, x.2.enc)) = ((if x.1 = k then (x.1, v) else x).1.key, (if x.1 = k then (x.1, v) else x).2.enc)
    by_cases q : x.1 = k
    · rw [if_pos (by rw [q]), if_pos q]
    · rw [if_neg (fun z => q (T.key_inj z)), if_neg q]
/-! ### < of data -/
section
variable {X : Cx}
theorem op_ltD : OpR X (compareOp .Lt) (fun x y H Q => ∃ d e, L2.Dp X.K H x d ∧ L2.Dp X.K H y e ∧ alike d e = true ∧ d ≠ .none ∧ X.A.units + min d.depth e.depth < cLine ∧ Q (.bl (dataLt d e)) H) := by
  intro pins s σ H x y v u Q I rx ry h
  obtain ⟨d, e, hd, he, al, ne, hu, q⟩ := h
  obtain ⟨as, r1⟩ := L2.Dp.reads I d x v hd rx
  obtain ⟨bs, r2⟩ := L2.Dp.reads I e y u he ry
  exact rcLt_alike d e X.A s v u as bs r1 r2 al ne hu X.prog X.w X.xe _ ⟨.bl _, H, I, rfl, q⟩
theorem o_ltD {d e : PyData} (al : alike d e = true) (ne : d ≠ .none) (hu : X.A.units + min d.depth e.depth < cLine) : OpD X (compareOp .Lt) d e (.bool (dataLt d e)) :=
  ⟨_, op_ltD, fun F H σ S v u st h1 h2 Q k => ⟨d, e, Da.dp _ _ (Da.mono st.same _ _ h1), Da.dp _ _ (Da.mono st.same _ _ h2), al, ne, hu, k _ F H (.refl st) (.bl _)⟩⟩
end
theorem pair_alike (n m : Int) (a b : T) : alike (.tuple [.int n, a.enc]) (.tuple [.int m, b.enc]) = true := by
  show (true && (alike a.enc b.enc && true)) = true
  rw [alike_enc]; rfl
theorem pair_depth (n : Int) (a : T) : PyData.depth (.tuple [.int n, a.enc]) = a.depth + 1 := by
  show PyData.depthAll [.int n, a.enc] + 1 = _
  show max 0 (max a.enc.depth 0) + 1 = _
  rw [T.enc_depth]; omega
def optT : Option T → PyData
  | none => .none
  | some v => v.enc
theorem optT_none (o : Option T) : isNone (optT o) = !o.isSome := by
  cases o with
  | none => rfl
  | some v => cases v <;> rfl
def ct_better (ok : Str → Bool) : Ct := fun args Q => ∃ (q dx C hp lp bp : Addr) (ts : List T) (E : List (T × T)) (h : T → T) (ls : List LKv) (bs : List (T × T)), args = [bk q dx C hp lp ts h ls, .dN bp (fkv bs)] ∧ TsOk ts ∧ ClosedT ts ∧ Homes E ts h ∧ BInv ok E ts h bs ∧ ts.length ≤ 190 ∧
  Q (.dat (.bool (bpass ok h bs ts).2)) [bk q dx C hp lp ts h ls, .dN bp (fkv (bpass ok h bs ts).1)]
theorem mo_better (ok : Str → Bool) : ∀ args Q Q', (∀ r a, Q r a → Q' r a) → ct_better ok args Q → ct_better ok args Q' := fun _ _ _ f ⟨q, dx, C, hp, lp, bp, ts, E, h, ls, bs, e, h1, h2, h3, h4, h5, k⟩ => ⟨q, dx, C, hp, lp, bp, ts, E, h, ls, bs, e, h1, h2, h3, h4, h5, f _ _ k⟩
abbrev okT : Str → Bool := fun _ => true
theorem all_true (t : T) : t.All fun x => okT x = true := by
  induction t with
  | t0 => rfl
  | t1 _ _ ih => exact ⟨rfl, ih⟩
  | t2 _ _ _ ih ih2 => exact ⟨rfl, ih, ih2⟩
abbrev PlainOf (E : List (T × T)) (t v : T) : Prop := PlainBy okT E t v
def ct_plain : Ct := fun args Q => ∃ (E : List (T × T)) (t : T), args = [.dat (toldD E), .dat t.enc] ∧ Sm E [t] ∧ (tsOf E [t]).length ≤ 190 ∧ ∀ v, PlainOf E t v → Frm E (tsOf E [t]) v → v.depth ≤ 190 → Q (.dat v.enc) args
theorem mo_plain : ∀ args Q Q', (∀ r a, Q r a → Q' r a) → ct_plain args Q → ct_plain args Q' := fun _ _ _ f ⟨E, t, e, h1, h2, k⟩ => ⟨E, t, e, h1, h2, fun v p q d => f _ _ (k v p q d)⟩
theorem newB_enc (bs : List (T × T)) (h : T → T) (t : T) : (newB bs h t).enc = .tuple ([.str t.hd] ++ t.ps.map fun u => (valB bs h u).enc) := by cases t <;> rfl
end SH
/-! SIk: the laws' homes: rounds of joins over terms; and how deep plain terms are. -/
namespace SH
open PySem PySem.Spec PyProof.Rows L2
section
variable {α : Type} [DecidableEq α]
/-- the loop's word, over any marks -/
structure LtG (E0 : List (T × T)) (ts : List T) (vs : List α) (m : Nat) (h : T → α) (ps : List (T × T)) : Prop where
  s : LSound E0 ts h
  v : ValA vs ts h
  ok : ∀ p ∈ ps, p.1 ∈ ts ∧ p.2 ∈ ts ∧ Cong E0 p.1 p.2
  or : (m = vs.length + 2 ∧ ps = E0 ∧ ∀ t ∈ ts, ∀ u ∈ ts, h t = h u → t = u) ∨ (m = (if ps.isEmpty then 0 else cntA vs ts h + 1) ∧ UnlPairs ts h ps ∧ (∀ p ∈ E0, h p.1 = h p.2) ∧ (ps = [] → ClosedA ts h))
theorem LtG.next {E0 : List (T × T)} {ts : List T} {vs : List α} {m : Nat} {h : T → α} {ps : List (T × T)} (k : LtG E0 ts vs m h ps) (c : ClosedT ts) {u : Unl α} (uo : UnlOk ts (jall h ps) ts u) (hm : ps.isEmpty = false) : ∃ m', m' < m ∧ LtG E0 ts vs m' (jall h ps) u.found := by
  have s' : LSound E0 ts (jall h ps) := k.s.jall k.ok
  have v' := jall_val (vs := vs) (ps := ps) k.v fun p hp => ⟨(k.ok p hp).1, (k.ok p hp).2.1⟩
  have told : ∀ p ∈ E0, jall h ps p.1 = jall h ps p.2 := fun p hp => by
    rcases k.or with ⟨_, e, _⟩ | ⟨_, _, q, _⟩
    · exact jall_joins ps p (e ▸ hp)
    · exact jall_keep ps (q p hp)
  refine ⟨if u.found.isEmpty then 0 else cntA vs ts (jall h ps) + 1, ?_, s', v'.1, fun p hp => ?_, .inr ⟨rfl, uo.fnd, told, uo.closed⟩⟩
  · rcases k.or with ⟨e, _, _⟩ | ⟨e, q, _, _⟩
    · have := cntA_le vs ts (jall h ps)
      rw [e]; split <;> omega
    · rw [hm] at e
      have := jall_less k.v q (by intro z; subst z; cases hm)
      rw [e]
      split
      · exact Nat.succ_pos _
      · show _ < cntA vs ts h + 1; omega
  · obtain ⟨h1, h2, h3, _⟩ := uo.fnd p hp
    exact ⟨h1, h2, s'.key c h1 h2 h3⟩
theorem LtG.done {E0 : List (T × T)} {ts : List T} {vs : List α} {m : Nat} {h : T → α} (k : LtG E0 ts vs m h []) (c : ClosedT ts) (hE : ∀ p ∈ E0, p.1 ∈ ts ∧ p.2 ∈ ts) : LDone E0 ts h := by
  rcases k.or with ⟨_, e, hi⟩ | ⟨_, _, t0, cl⟩
  · exact ⟨k.s, .inj c hi, fun p hp => by rw [← e] at hp; cases hp⟩
  · exact ⟨k.s, cl rfl, fun p hp => ⟨(hE p hp).1, (hE p hp).2, t0 p hp⟩⟩
theorem aI_skip {ts : List T} {h : T → α} {a b : T} {en : α → PyData} (nd : ts.Nodup) {i : Nat} {t : T} (e : ts[i]? = some t) (ne : ¬ h t = h a) : gkv ts (fun u => en (aI ts h a b i u)) = gkv ts (fun u => en (aI ts h a b (i + 1) u)) := by
  rw [← aI_put e]
  refine List.map_congr_left fun u _ => ?_
  show (u.key, en (aI ts h a b i u)) = (u.key, if u = t then en (joinA h a b t) else en (aI ts h a b i u))
  by_cases hu : u = t
  · subst hu
    rw [if_pos rfl, aI_at nd e]
    unfold joinA
    rw [if_neg ne]
  · rw [if_neg hu]
theorem aI_put' {ts : List T} {h : T → α} {a b : T} {en : α → PyData} {i : Nat} {t : T} (e : ts[i]? = some t) (q : h t = h a) : gkv ts (fun u => if u = t then en (h b) else en (aI ts h a b i u)) = gkv ts (fun u => en (aI ts h a b (i + 1) u)) := by
  rw [← aI_put e]
  refine List.map_congr_left fun u _ => ?_
  show (u.key, if u = t then en (h b) else en (aI ts h a b i u)) = (u.key, if u = t then en (joinA h a b t) else en (aI ts h a b i u))
  by_cases hu : u = t
  · rw [if_pos hu, if_pos hu]
    unfold joinA
    rw [if_pos q]
  · rw [if_neg hu, if_neg hu]
end
abbrev tkv (ts : List T) (h : T → T) : List (NestedKey × PyData) := gkv ts fun t => (h t).enc
theorem keyA_keyT (h : T → T) (t : T) : kN T.key (keyA h t) = (keyT h t).key := by cases t <;> rfl
theorem keyA_dataT (h : T → T) (t : T) : (kN T.key (keyA h t)).data = .tuple ([.str t.hd] ++ t.ps.map fun u => (h u).enc) := by
  rw [keyA_keyT, T.key_data]; cases t <;> rfl
theorem keyA_depT {h : T → T} {t : T} (hh : ∀ p ∈ t.ps, (h p).depth ≤ 7) : (kN T.key (keyA h t)).depth ≤ 8 := by
  rw [keyA_keyT, T.key_depth]; exact keyT_depth (n := 7) hh (by decide)
def ct_unlike : Ct := fun args Q => ∃ (p : Addr) (ts : List T) (h : T → T), args = [.dN p (tkv ts h), .dat (.list (ts.map T.enc))] ∧ TsOk ts ∧ ClosedT ts ∧ (∀ t ∈ ts, h t ∈ ts) ∧ ts.length ≤ 50000 ∧
  ∀ u : Unl T, UnlOk ts h ts u → Q (.dat (.list (u.found.map pairD))) args
theorem mo_unlike : ∀ args Q Q', (∀ r a, Q r a → Q' r a) → ct_unlike args Q → ct_unlike args Q' := fun _ _ _ f ⟨p, ts, h, e, h1, h2, h3, h4, k⟩ => ⟨p, ts, h, e, h1, h2, h3, h4, fun u q => f _ _ (k u q)⟩
def ct_homes : Ct := fun args Q => ∃ (E : List (T × T)) (us : List T), args = [.dat (toldD E), .dat (.list (us.map T.enc))] ∧ Sm E us ∧
  ∀ (p : Addr) (h : T → T), LDone E (tsOf E us) h → (∀ t ∈ tsOf E us, h t ∈ tsOf E us) → Q (.dN p (tkv (tsOf E us) h)) args
theorem mo_homes : ∀ args Q Q', (∀ r a, Q r a → Q' r a) → ct_homes args Q → ct_homes args Q' := fun _ _ _ f ⟨E, us, e, h1, k⟩ => ⟨E, us, e, h1, fun p h q q2 => f _ _ (k p h q q2)⟩
theorem parts_len_le (us : List T) : (parts us).length ≤ (us.map T.size).sum := by
  show (srtT (gathL us [])).length ≤ _
  rw [srtT_len]
  have := gathL_len us []
  simpa using this
theorem tsOf_len {E : List (T × T)} {us : List T} (s : Sm E us) : (tsOf E us).length ≤ 50000 := by
  have h1 : (tsOf E us).length ≤ ((us ++ flatE E).map T.size).sum := parts_len_le _
  exact Nat.le_trans h1 s.sz
theorem tsOf_sides (E : List (T × T)) (us : List T) : parts (us ++ (E.map (·.1) ++ E.map (·.2))) = tsOf E us := parts_ext fun t => by
  constructor
  · rintro ⟨u, hu, ht⟩
    refine ⟨u, ?_, ht⟩
    simp only [List.mem_append, List.mem_map] at hu ⊢
    rcases hu with hu | ⟨p, hp, rfl⟩ | ⟨p, hp, rfl⟩
    · exact .inl hu
    · exact .inr (flatE_mem hp).1
    · exact .inr (flatE_mem hp).2
  · rintro ⟨u, hu, ht⟩
    refine ⟨u, ?_, ht⟩
    simp only [List.mem_append, List.mem_map] at hu ⊢
    rcases hu with hu | hu
    · exact .inl hu
    · obtain ⟨p, hp, q⟩ := List.mem_flatMap.mp hu
      simp only [List.mem_cons, List.not_mem_nil, or_false] at q
      rcases q with rfl | rfl
      · exact .inr (.inl ⟨p, hp, rfl⟩)
      · exact .inr (.inr ⟨p, hp, rfl⟩)
theorem Sm.sides {E : List (T × T)} {us : List T} (s : Sm E us) : (∀ u ∈ us ++ (E.map (·.1) ++ E.map (·.2)), u.depth ≤ 8) ∧ ((us ++ (E.map (·.1) ++ E.map (·.2))).map T.size).sum ≤ 100000 := by
  refine ⟨fun u hu => ?_, ?_⟩
  · refine Nat.le_succ_of_le (s.dep u ?_)
    simp only [List.mem_append, List.mem_map] at hu ⊢
    rcases hu with hu | ⟨p, hp, rfl⟩ | ⟨p, hp, rfl⟩
    · exact .inl hu
    · exact .inr (flatE_mem hp).1
    · exact .inr (flatE_mem hp).2
  · have h1 := s.sz
    have : ∀ E : List (T × T), ((flatE E).map T.size).sum = ((E.map (·.1)).map T.size).sum + ((E.map (·.2)).map T.size).sum := by
      intro E
      induction E with
      | nil => rfl
      | cons p r ih =>
        show (([p.1, p.2] ++ flatE r).map T.size).sum = _
        rw [List.map_append, List.sum_append, ih]
        simp only [List.map_cons, List.map_nil, List.sum_cons, List.sum_nil]
        omega
    rw [List.map_append, List.sum_append, List.map_append, List.sum_append]
    rw [List.map_append, List.sum_append, this] at h1
    omega
theorem o_eqT {X : Cx} {a b : T} (hu : X.A.units + 64 < cLine) (ha : a.Ok) (hb : b.Ok) (da : a.depth ≤ 8) (db : b.depth ≤ 8) : OpD X (compareOp .Eq) a.enc b.enc (.bool (decide (a = b))) := by
  rw [← eqv_enc]
  exact o_eq hu (ha.shaped (by omega)) (hb.shaped (by omega))
theorem o_neT {X : Cx} {a b : T} (hu : X.A.units + 64 < cLine) (ha : a.Ok) (hb : b.Ok) (da : a.depth ≤ 8) (db : b.depth ≤ 8) : OpD X (compareOp .NotEq) a.enc b.enc (.bool (!decide (a = b))) := by
  rw [← eqv_enc]
  exact o_ne hu (ha.shaped (by omega)) (hb.shaped (by omega))
/-! ### how deep plain terms are -/
theorem Frm.hds {E : List (T × T)} {ts : List T} {v : T} {p : Str → Prop} (f : Frm E ts v) (h : ∀ t ∈ ts, p t.hd) : v.All p := by
  have go : ∀ v : T, (∀ w ∈ v.all, p w.hd) → v.All p := by
    intro v
    induction v with
    | t0 x => intro k; exact k _ (all_self _)
    | t1 x a ih => intro k; exact ⟨k _ (all_self _), ih fun w hw => k w (by simp [T.all, hw])⟩
    | t2 x a b ih ih2 => intro k; exact ⟨k _ (all_self _), ih fun w hw => k w (by simp [T.all, hw]), ih2 fun w hw => k w (by simp [T.all, hw])⟩
  refine go v fun w hw => ?_
  obtain ⟨y, hy, e, _⟩ := f w hw
  rw [← e]; exact h y hy
theorem PlainBy.self {E : List (T × T)} {t v : T} (k : PlainOf E t v) : PlainOf E v v := ⟨.refl v, k.hd, fun u hu c => k.min u hu (k.cg.trans c)⟩
theorem PlainBy.eqv {E : List (T × T)} {a b v w : T} (k : PlainOf E a v) (k2 : PlainOf E b w) : v = w ↔ Cong E a b := by
  constructor
  · rintro rfl
    exact k.cg.trans k2.cg.symm
  · intro c
    exact PlainBy.fn k ⟨c.trans k2.cg, k2.hd, fun u hu c2 => k2.min u hu (c.symm.trans c2)⟩
theorem PlainBy.part {E : List (T × T)} {t v p : T} (k : PlainOf E t v) (hp : p ∈ v.ps) : PlainOf E p p := by
  refine ⟨.refl p, all_true p, fun u hu c => ?_⟩
  cases e : tl u p with
  | false => exact e
  | true =>
    exfalso
    have g := tge_of_tl e
    have ne : u ≠ p := by rintro rfl; rw [tl_irrefl] at e; cases e
    cases v with
    | t0 x => simp [T.ps] at hp
    | t1 x a =>
      simp only [T.ps, List.mem_cons, List.not_mem_nil, or_false] at hp
      subst hp
      have h1 := k.min (.t1 x u) (all_true _) (k.cg.trans (.c1 c))
      have := tl_total h1 (tge_1 g)
      simp only [T.t1.injEq, true_and] at this
      exact ne this
    | t2 x a b =>
      simp only [T.ps, List.mem_cons, List.not_mem_nil, or_false] at hp
      rcases hp with rfl | rfl
      · have h1 := k.min (.t2 x u b) (all_true _) (k.cg.trans (.c2 c (.refl b)))
        have := tl_total h1 (tge_2 g (tge_refl b))
        simp only [T.t2.injEq, true_and, and_true] at this
        exact ne this
      · have h1 := k.min (.t2 x a u) (all_true _) (k.cg.trans (.c2 (.refl a) c))
        have := tl_total h1 (tge_2 (tge_refl a) g)
        simp only [T.t2.injEq, true_and] at this
        exact ne this
theorem PlainBy.within {E : List (T × T)} : ∀ {v t w : T}, PlainOf E t v → w ∈ v.all → PlainOf E w w
  | .t0 x, _, w, k, hw => by simp [T.all] at hw; subst hw; exact k.self
  | .t1 x a, _, w, k, hw => by
    simp only [T.all, List.mem_cons] at hw
    rcases hw with rfl | hw
    · exact k.self
    · exact PlainBy.within (v := a) (k.part (by simp [T.ps])) hw
  | .t2 x a b, _, w, k, hw => by
    simp only [T.all, List.mem_cons, List.mem_append] at hw
    rcases hw with rfl | hw | hw
    · exact k.self
    · exact PlainBy.within (v := a) (k.part (by simp [T.ps])) hw
    · exact PlainBy.within (v := b) (k.part (by simp [T.ps])) hw
/-- a whole of one part: a short one; of two: not long ones -/
def BdT (t : T) : Prop := match t with
  | .t0 _ => True
  | .t1 _ a => a.size ≤ 5
  | .t2 _ a b => a.size ≤ 7 ∧ b.size ≤ 7
def Bd (t : T) : Prop := ∀ w ∈ t.all, BdT w
theorem size_pos (t : T) : 1 ≤ t.size := by cases t <;> simp only [T.size] <;> omega
theorem depth_le_size : ∀ t : T, t.depth ≤ t.size
  | .t0 _ => by simp [T.depth, T.size]
  | .t1 _ a => by have := depth_le_size a; simp only [T.depth, T.size]; omega
  | .t2 _ a b => by have h1 := depth_le_size a; have h2 := depth_le_size b; simp only [T.depth, T.size]; omega
theorem Bd.size {t : T} (h : Bd t) : t.size ≤ 15 := by
  have := h t (all_self t)
  cases t <;> simp only [BdT, T.size] at * <;> omega
theorem Bd.depth {t : T} (h : Bd t) : t.depth ≤ 7 := by
  have two : ∀ a : T, BdT a → a.size ≤ 7 → a.depth ≤ 6 := fun a ha hs => by
    cases a with
    | t0 _ => simp [T.depth]
    | t1 x c => have := depth_le_size c; simp only [BdT, T.depth] at *; omega
    | t2 x c d =>
      have h1 := depth_le_size c
      have h2 := depth_le_size d
      have := size_pos c
      have := size_pos d
      simp only [T.depth, T.size] at *; omega
  have h0 := h t (all_self t)
  cases t with
  | t0 _ => simp [T.depth]
  | t1 x a => have := depth_le_size a; simp only [BdT, T.depth] at *; omega
  | t2 x a b =>
    have h1 := two a (h a (by simp [T.all, all_self])) h0.1
    have h2 := two b (h b (by simp [T.all, all_self])) h0.2
    simp only [T.depth]; omega
theorem PlainBy.bd {E : List (T × T)} {ts : List T} {t v : T} (k : PlainOf E t v) (f : Frm E ts v) (h : ∀ y ∈ ts, BdT y) : Bd v := fun w hw => by
  obtain ⟨y, hy, _, hl, hc⟩ := f w hw
  have hb := h y hy
  have pw : ∀ {i : Nat} {a b : T}, y.ps[i]? = some a → w.ps[i]? = some b → b.size ≤ a.size := fun {i a b} h1 h2 => by
    have q := (k.within hw).part (List.mem_of_getElem? h2)
    exact tge_size (q.min a (all_true a) (hc i a b h1 h2).symm)
  cases w with
  | t0 _ => exact True.intro
  | t1 x a =>
    cases y with
    | t0 _ => simp [T.ps] at hl
    | t1 z c => exact Nat.le_trans (pw (i := 0) (a := c) (b := a) rfl rfl) hb
    | t2 _ _ _ => simp [T.ps] at hl
  | t2 x a b =>
    cases y with
    | t0 _ => simp [T.ps] at hl
    | t1 _ _ => simp [T.ps] at hl
    | t2 z c d => exact ⟨Nat.le_trans (pw (i := 0) (a := c) (b := a) rfl rfl) hb.1, Nat.le_trans (pw (i := 1) (a := d) (b := b) rfl rfl) hb.2⟩
theorem tsOf_bd {E : List (T × T)} {us : List T} (he : ∀ p ∈ E, Bd p.1 ∧ Bd p.2) (hu : ∀ u ∈ us, Bd u) : ∀ y ∈ tsOf E us, BdT y := fun y hy => by
  obtain ⟨u, h1, h2⟩ := parts_mem.mp hy
  rcases List.mem_append.mp h1 with h1 | h1
  · exact hu u h1 y h2
  · obtain ⟨p, hp, q⟩ := List.mem_flatMap.mp h1
    simp only [List.mem_cons, List.not_mem_nil, or_false] at q
    rcases q with rfl | rfl
    · exact (he p hp).1 y h2
    · exact (he p hp).2 y h2
theorem sizes_le {us : List T} {n : Nat} (h : ∀ u ∈ us, u.size ≤ n) : (us.map T.size).sum ≤ n * us.length := by
  induction us with
  | nil => simp
  | cons u r ih =>
    have h1 := h u (List.mem_cons_self ..)
    have h2 := ih fun x hx => h x (List.mem_cons_of_mem _ hx)
    rw [List.map_cons, List.sum_cons, List.length_cons, Nat.mul_succ]
    omega
theorem flatE_sizes (E : List (T × T)) {n : Nat} (h : ∀ p ∈ E, p.1.size + p.2.size ≤ n) : ((flatE E).map T.size).sum ≤ n * E.length := by
  induction E with
  | nil => simp [flatE]
  | cons p r ih =>
    have h1 := h p (List.mem_cons_self ..)
    have h2 := ih fun x hx => h x (List.mem_cons_of_mem _ hx)
    show (([p.1, p.2] ++ flatE r).map T.size).sum ≤ _
    rw [List.map_append, List.sum_append, List.length_cons, Nat.mul_succ]
    simp only [List.map_cons, List.map_nil, List.sum_cons, List.sum_nil]
    omega
theorem tsOf_few {E : List (T × T)} {t : T} (he : ∀ p ∈ E, p.1.size + p.2.size ≤ 14) (ht : t.size ≤ 15) (hl : E.length ≤ 12) : (tsOf E [t]).length ≤ 190 := by
  have h1 : (tsOf E [t]).length ≤ (([t] ++ flatE E).map T.size).sum := parts_len_le _
  have h2 := flatE_sizes E he
  rw [List.map_append, List.sum_append] at h1
  simp only [List.map_cons, List.map_nil, List.sum_cons, List.sum_nil] at h1
  omega
theorem Bd.t1 {x : Str} {a : T} (h : Bd a) (hs : a.size ≤ 5) : Bd (.t1 x a) := fun w hw => by
  simp only [T.all, List.mem_cons] at hw
  rcases hw with rfl | hw
  · exact hs
  · exact h w hw
theorem Bd.t2 {x : Str} {a b : T} (h : Bd a) (h2 : Bd b) (hs : a.size ≤ 7) (hs2 : b.size ≤ 7) : Bd (.t2 x a b) := fun w hw => by
  simp only [T.all, List.mem_cons, List.mem_append] at hw
  rcases hw with rfl | hw | hw
  · exact ⟨hs, hs2⟩
  · exact h w hw
  · exact h2 w hw
theorem Bd.t0 {x : Str} : Bd (.t0 x) := fun w hw => by simp [T.all] at hw; subst hw; exact True.intro
theorem lterm_size (hs : List Str) (n : Nat) (c : Int) : (lterm hs n c).size + 1 ≤ 2 ^ (n + 1) := Nat.le_trans (size_depth _) (Nat.pow_le_pow_right (by decide) (lterm_depth n c))
theorem lterm_bd (hs : List Str) : ∀ (n : Nat) (c : Int), n ≤ 2 → Bd (lterm hs n c)
  | 0, c, _ => by rw [lterm]; exact .t0
  | n + 1, c, hn => by
    have hz : ∀ c, (lterm hs n c).size ≤ 3 := fun c => by
      have h1 := lterm_size hs n c
      have : 2 ^ (n + 1) ≤ 2 ^ 2 := Nat.pow_le_pow_right (by decide) hn
      omega
    unfold lterm
    split
    · exact .t0
    · split
      · exact .t1 (lterm_bd hs n _ (by omega)) (Nat.le_trans (hz _) (by decide))
      · exact .t2 (lterm_bd hs n _ (by omega)) (lterm_bd hs n _ (by omega)) (Nat.le_trans (hz _) (by decide)) (Nat.le_trans (hz _) (by decide))
theorem ltower_size (hs : List Str) : ∀ n, (ltower hs n).size = n + 1
  | 0 => rfl
  | n + 1 => by rw [ltower, T.size, ltower_size hs n]; omega
theorem ltower_bd (hs : List Str) : ∀ n, n ≤ 4 → Bd (ltower hs n)
  | 0, _ => .t0
  | n + 1, h => .t1 (ltower_bd hs n (by omega)) (by rw [ltower_size]; omega)
theorem lpair_bd (hs : List Str) (c : Int) : (Bd (lpair hs c).1 ∧ (lpair hs c).1.size ≤ 7) ∧ Bd (lpair hs c).2 ∧ (lpair hs c).2.size ≤ 5 := by
  have a1 := lmix_lt (c := c) (p := 9901) (m := 5) (by decide)
  have a2 := lmix_lt (c := c) (p := 9887) (m := 5) (by decide)
  unfold lpair
  split
  · exact ⟨⟨ltower_bd hs _ (by omega), by rw [ltower_size]; omega⟩, ltower_bd hs _ (by omega), by rw [ltower_size]; omega⟩
  · have h1 : (lterm hs 2 c).size + 1 ≤ 8 := lterm_size hs 2 c
    have h2 : (lterm hs 1 (c * 7 + 3)).size + 1 ≤ 4 := lterm_size hs 1 (c * 7 + 3)
    exact ⟨⟨lterm_bd hs 2 _ (by decide), by show (lterm hs 2 c).size ≤ 7; omega⟩, lterm_bd hs 1 _ (by decide), by show (lterm hs 1 (c * 7 + 3)).size ≤ 5; omega⟩
theorem ltold_bd (ns : List Int) (hs : List Str) : ∀ p ∈ ltold ns hs, (Bd p.1 ∧ p.1.size ≤ 7) ∧ Bd p.2 ∧ p.2.size ≤ 5 := fun p hp => by
  obtain ⟨c, _, rfl⟩ := List.mem_map.mp hp
  exact lpair_bd hs c
theorem lterms_bd (ns : List Int) (hs : List Str) {E : List (T × T)} (he : ∀ p ∈ E, (Bd p.1 ∧ p.1.size ≤ 7) ∧ Bd p.2 ∧ p.2.size ≤ 5) : ∀ t ∈ lterms ns hs E, Bd t := fun t ht => by
  unfold lterms at ht
  rcases List.mem_append.mp ht with ht | ht
  · rcases List.mem_append.mp ht with ht | ht
    · obtain ⟨c, _, rfl⟩ := List.mem_map.mp ht
      exact lterm_bd hs 2 _ (by decide)
    · cases E with
      | nil => cases ht
      | cons p r =>
        obtain ⟨⟨a1, a2⟩, b1, b2⟩ := he p (List.mem_cons_self ..)
        simp only [lfirst, List.mem_cons, List.not_mem_nil, or_false] at ht
        rcases ht with rfl | rfl | rfl | rfl
        · exact a1
        · exact .t1 b1 b2
        · exact .t2 a1 .t0 a2 (by simp [T.size])
        · exact .t2 b1 .t0 (Nat.le_trans b2 (by decide)) (by simp [T.size])
  · have := Int.emod_lt_of_pos (lcell ns 9) (by decide : (0 : Int) < 5)
    simp only [List.mem_cons, List.not_mem_nil, or_false] at ht
    rcases ht with rfl | rfl
    · exact ltower_bd hs _ (by omega)
    · exact .t0
end SH
/-! SIl: the plainest term as a function. -/
namespace SH
open PySem PySem.Spec PyProof.Rows L2
open Classical in
theorem homes_ex (E : List (T × T)) {ts : List T} (c : ClosedT ts) (hE : ∀ p ∈ E, p.1 ∈ ts ∧ p.2 ∈ ts) : ∃ h : T → T, Homes E ts h := by
  have iff : ∀ {t u : T}, (Cong E t = Cong E u) ↔ Cong E t u := fun {t u} => by
    constructor
    · intro e
      have : Cong E u u := .refl u
      rw [← e] at this; exact this
    · intro e
      funext x
      exact propext ⟨fun k => e.symm.trans k, fun k => e.trans k⟩
  have d : LDone E ts (fun t => Cong E t) := by
    refine ⟨fun t _ u _ e => iff.mp e, fun t ht u hu e => iff.mpr ?_, fun p hp => ⟨(hE p hp).1, (hE p hp).2, iff.mpr (.ax hp)⟩⟩
    exact LSound.key (h := fun t => Cong E t) (fun t _ u _ e => iff.mp e) c ht hu e
  exact ⟨_, d.homes c⟩
theorem plain_ex (E : List (T × T)) (t : T) : ∃ v, PlainOf E t v ∧ Frm E (tsOf E [t]) v ∧ v.depth ≤ (tsOf E [t]).length := by
  have c : ClosedT (tsOf E [t]) := parts_closed _
  have ht : t ∈ tsOf E [t] := tsOf_us (by simp)
  obtain ⟨h, hm⟩ := homes_ex E c fun p hp => tsOf_E hp
  obtain ⟨bs', n, p⟩ := PlTo.ex (ok := okT) hm c _ [] rfl (BInv.start okT E _ h)
  rcases p.plain hm c ht with ⟨v, _, k1, k2, k3⟩ | ⟨_, no⟩
  · exact ⟨v, k1, k2, k3⟩
  · exact absurd (.refl t) (no t (all_true t))
noncomputable def pl (E : List (T × T)) (t : T) : T := (plain_ex E t).choose
theorem pl_of (E : List (T × T)) (t : T) : PlainOf E t (pl E t) := (plain_ex E t).choose_spec.1
theorem pl_frm (E : List (T × T)) (t : T) : Frm E (tsOf E [t]) (pl E t) := (plain_ex E t).choose_spec.2.1
theorem pl_fn {E : List (T × T)} {t v : T} (k : PlainOf E t v) : v = pl E t := k.fn (pl_of E t)
theorem pl_pl (E : List (T × T)) (t : T) : pl E (pl E t) = pl E t := (pl_fn (pl_of E t).self).symm
theorem pl_part {E : List (T × T)} {t p : T} (hp : p ∈ (pl E t).ps) : pl E p = p := (pl_fn ((pl_of E t).part hp)).symm
theorem pl_eq (E : List (T × T)) (a b : T) : decide (pl E a = pl E b) = congB E a b := by
  rw [Bool.eq_iff_iff, decide_eq_true_iff, congB_iff]
  exact (pl_of E a).eqv (pl_of E b)
theorem pl_size (E : List (T × T)) (t : T) : (pl E t).size ≤ t.size := tge_size ((pl_of E t).min t (all_true t) (.refl t))
theorem pl_bd {E : List (T × T)} {t : T} (he : ∀ p ∈ E, Bd p.1 ∧ Bd p.2) (ht : Bd t) : Bd (pl E t) :=
  (pl_of E t).bd (pl_frm E t) (tsOf_bd he fun u hu => by rw [List.mem_singleton.mp hu]; exact ht)
theorem pl_ok {E : List (T × T)} {t : T} (he : ∀ p ∈ E, p.1.Ok ∧ p.2.Ok) (ht : t.Ok) : (pl E t).Ok := by
  refine Frm.hds (p := fun x => isHd x = true) (pl_frm E t) fun y hy => ?_
  obtain ⟨u, h1, h2⟩ := parts_mem.mp hy
  have hy : y.Ok := by
    rcases List.mem_append.mp h1 with h1 | h1
    · rw [List.mem_singleton.mp h1] at h2; exact all_ok ht h2
    · obtain ⟨p, hp, q⟩ := List.mem_flatMap.mp h1
      simp only [List.mem_cons, List.not_mem_nil, or_false] at q
      rcases q with rfl | rfl
      · exact all_ok (he p hp).1 h2
      · exact all_ok (he p hp).2 h2
  cases y with
  | t0 _ => exact hy
  | t1 _ _ => exact hy.1
  | t2 _ _ _ => exact hy.1
/-- what a call of plain wants -/
structure PlOk (E : List (T × T)) (t : T) : Prop where
  sm : Sm E [t]
  few : (tsOf E [t]).length ≤ 190
theorem ct_plain.get {E : List (T × T)} {t : T} (k : PlOk E t) {d : PyData} (e : d = (pl E t).enc) {as : List OV} (ha : as = [.dat (toldD E), .dat t.enc]) {R : OV → List OV → Prop} (hR : R (.dat d) as) : ct_plain as R := by
  subst ha
  refine ⟨E, t, rfl, k.sm, k.few, fun v pv _ _ => ?_⟩
  rw [pl_fn pv, ← e]; exact hR
/-- pairs and terms of a law, short ones -/
structure LawBd (E : List (T × T)) : Prop where
  ok : ∀ p ∈ E, p.1.Ok ∧ p.2.Ok
  bd : ∀ p ∈ E, Bd p.1 ∧ Bd p.2
  sz : ∀ p ∈ E, p.1.size + p.2.size ≤ 14
  len : E.length ≤ 12
theorem LawBd.pl {E : List (T × T)} (k : LawBd E) {t : T} (ht : Bd t) (ho : t.Ok) : PlOk E t := by
  refine ⟨Sm.of (fun u hu => ?_) (fun p hp => ⟨⟨(k.ok p hp).1, (k.bd p hp).1.depth⟩, (k.ok p hp).2, (k.bd p hp).2.depth⟩) ?_, tsOf_few k.sz ht.size k.len⟩
  · rw [List.mem_singleton.mp hu]; exact ⟨ho, ht.depth⟩
  · have := k.len; simp only [List.length_singleton]; omega
theorem zip_self (f : T → T) : ∀ us : List T, zipD (us.map T.enc) ((us.map f).map T.enc) = us.map fun t => pairD (t, f t)
  | [] => rfl
  | u :: r => congrArg (pairD (u, f u) :: ·) (zip_self f r)
theorem fil_none {l : List PyData} {c : Nat → PyData → Bool} {f : PyData × Nat → PyData} (h : ∀ i d, l[i]? = some d → c i d = false) : ((l.zipIdx.filter fun x => c x.2 x.1).map f) = [] := by
  rw [List.map_eq_nil_iff, List.filter_eq_nil_iff]
  rintro ⟨d, i⟩ hx
  have := List.mem_zipIdx_iff_getElem?.mp hx
  rw [h i d this]; simp
theorem Bd.part {t p : T} (h : Bd t) (hp : p ∈ t.ps) : Bd p := fun w hw => h w (by
  cases t with
  | t0 _ => simp [T.ps] at hp
  | t1 x a => simp only [T.ps, List.mem_cons, List.not_mem_nil, or_false] at hp; subst hp; simp [T.all, hw]
  | t2 x a b =>
    simp only [T.ps, List.mem_cons, List.not_mem_nil, or_false] at hp
    rcases hp with rfl | rfl <;> simp [T.all, hw])
end SH
/-! SIm: all terms of at most four heads. -/
namespace SH
open PySem PySem.Spec PyProof.Rows L2
def lnames (hs : List Str) : List T := [.t0 (hat hs 0), .t0 (hat hs 1), .t0 (hat hs 2)]
def lsm1 (hs : List Str) (n o : T) : List T := [.t1 (hat hs 3) (.t2 (hat hs 4) n o), .t2 (hat hs 4) n (.t1 (hat hs 3) o), .t2 (hat hs 4) (.t1 (hat hs 3) n) o]
def lsm2 (hs : List Str) (n : T) : List T := (lnames hs).map (.t2 (hat hs 4) n) ++ [.t1 (hat hs 3) (.t1 (hat hs 3) (.t1 (hat hs 3) n))] ++ (lnames hs).flatMap (lsm1 hs n)
def lsmall (hs : List Str) : List T := lnames hs ++ (lnames hs).map (.t1 (hat hs 3)) ++ (lnames hs).map (fun n => .t1 (hat hs 3) (.t1 (hat hs 3) n)) ++ (lnames hs).flatMap (lsm2 hs)
theorem lsm2_len (hs : List Str) (n : T) : (lsm2 hs n).length = 13 := rfl
theorem lsmall_len (hs : List Str) : (lsmall hs).length = 48 := rfl
def SmallT (hs : List Str) (t : T) : Prop := t.All (inHs hs) ∧ t.depth ≤ 4 ∧ t.size ≤ 4
theorem lname_small {hs : List Str} (h : HsOk hs) {n : T} (hn : n ∈ lnames hs) : ∃ i, i < 5 ∧ n = .t0 (hat hs i) := by
  simp only [lnames, List.mem_cons, List.not_mem_nil, or_false] at hn
  rcases hn with rfl | rfl | rfl
  · exact ⟨0, by decide, rfl⟩
  · exact ⟨1, by decide, rfl⟩
  · exact ⟨2, by decide, rfl⟩
theorem lsmall_all {hs : List Str} (h : HsOk hs) : ∀ t ∈ lsmall hs, SmallT hs t := fun t ht => by
  have m : ∀ {i : Nat}, i < 5 → hat hs i ∈ hs := fun hi => hat_mem h hi
  unfold lsmall at ht
  rcases List.mem_append.mp ht with ht | ht
  · rcases List.mem_append.mp ht with ht | ht
    · rcases List.mem_append.mp ht with ht | ht
      · obtain ⟨i, hi, rfl⟩ := lname_small h ht
        exact ⟨m hi, by simp [T.depth], by simp [T.size]⟩
      · obtain ⟨n, hn, rfl⟩ := List.mem_map.mp ht
        obtain ⟨i, hi, rfl⟩ := lname_small h hn
        exact ⟨⟨m (by decide), m hi⟩, by simp [T.depth], by simp [T.size]⟩
    · obtain ⟨n, hn, rfl⟩ := List.mem_map.mp ht
      obtain ⟨i, hi, rfl⟩ := lname_small h hn
      exact ⟨⟨m (by decide), m (by decide), m hi⟩, by simp [T.depth], by simp [T.size]⟩
  · obtain ⟨n, hn, ht⟩ := List.mem_flatMap.mp ht
    obtain ⟨i, hi, rfl⟩ := lname_small h hn
    unfold lsm2 at ht
    rcases List.mem_append.mp ht with ht | ht
    · rcases List.mem_append.mp ht with ht | ht
      · obtain ⟨o, ho, rfl⟩ := List.mem_map.mp ht
        obtain ⟨j, hj, rfl⟩ := lname_small h ho
        exact ⟨⟨m (by decide), m hi, m hj⟩, by simp [T.depth], by simp [T.size]⟩
      · rw [List.mem_singleton.mp ht]
        exact ⟨⟨m (by decide), m (by decide), m (by decide), m hi⟩, by simp [T.depth], by simp [T.size]⟩
    · obtain ⟨o, ho, ht⟩ := List.mem_flatMap.mp ht
      obtain ⟨j, hj, rfl⟩ := lname_small h ho
      simp only [lsm1, List.mem_cons, List.not_mem_nil, or_false] at ht
      rcases ht with rfl | rfl | rfl
      · exact ⟨⟨m (by decide), m (by decide), m hi, m hj⟩, by simp [T.depth], by simp [T.size]⟩
      · exact ⟨⟨m (by decide), m hi, m (by decide), m hj⟩, by simp [T.depth], by simp [T.size]⟩
      · exact ⟨⟨m (by decide), ⟨m (by decide), m hi⟩, m hj⟩, by simp [T.depth], by simp [T.size]⟩
theorem all_size_le : ∀ {t w : T}, w ∈ t.all → w.size ≤ t.size
  | .t0 _, w, h => by simp [T.all] at h; subst h; exact Nat.le_refl _
  | .t1 _ a, w, h => by
    simp only [T.all, List.mem_cons] at h
    rcases h with rfl | h
    · exact Nat.le_refl _
    · have := all_size_le h; simp only [T.size]; omega
  | .t2 _ a b, w, h => by
    simp only [T.all, List.mem_cons, List.mem_append] at h
    rcases h with rfl | h | h
    · exact Nat.le_refl _
    · have := all_size_le h; simp only [T.size]; omega
    · have := all_size_le h; simp only [T.size]; omega
theorem SmallT.bd {hs : List Str} {t : T} (k : SmallT hs t) : Bd t := fun w hw => by
  have h1 := all_size_le hw
  have h2 := k.2.2
  cases w with
  | t0 _ => exact True.intro
  | t1 _ a => simp only [BdT, T.size] at *; omega
  | t2 _ a b => simp only [BdT, T.size] at *; omega
def ct_small : Ct := fun args Q => ∃ hs : List Str, args = [.dat (dStrs hs)] ∧ HsOk hs ∧ Q (.dat (.list ((lsmall hs).map T.enc))) args
theorem mo_small : ∀ args Q Q', (∀ r a, Q r a → Q' r a) → ct_small args Q → ct_small args Q' := fun _ _ _ h ⟨hs, e, h1, q⟩ => ⟨hs, e, h1, h _ _ q⟩
theorem flatMap_take {α β : Type} (f : α → List β) {l : List α} {i : Nat} {x : α} (e : l[i]? = some x) : (l.take (i + 1)).flatMap f = (l.take i).flatMap f ++ f x := by
  rw [List.take_add_one, e, List.flatMap_append]
  simp
end SH
/-! SIn: sets of nested tuples: what the model does. -/
namespace SH
open PySem PySem.Spec PyProof.Rows L2 PySem.W
section
variable {P : Program} {w : World} {A : Around} {E : Value → Shared → Prop} {s : Shared}
abbrev KAt (h : Heap) (k : NestedKey) (a : Addr) : Prop := NestedIs h k (.ref a) ∧ k.depth ≤ 8
/-! ### small questions -/
/-- no statement of a class, n levels down -/
def NoSt (P : Program) (w : World) (n : Nat) (s : Shared) (v : Value) : Prop := ∀ (A : Around) (E : Value → Shared → Prop) (Q : Bool → Shared → Prop), Q false s → wpAny (model P w) A (ofAClassStatement n v) Q E s
theorem NoSt.tup {n : Nat} {b : Addr} {o : Obj} {vs : Array Value} {m : Nat} (ho : s.heap.get? b = some o) (hc : o.cls = .type "tuple") (hd : o.data = .seq vs m) (hv : ∀ v ∈ vs.toList, NoSt P w n s v) : NoSt P w (n + 1) s (.ref b) := fun A E Q hQ => by
  have hT : s.TypeIs (.ref b) "tuple" := ⟨o, ho, hc⟩
  unfold ofAClassStatement
  refine wpAny_bind (wpAny_typeOf hT ?_)
  have e : (("tuple" : String) == "tuple") = true := by decide
  simp only [e, if_true, Bool.not_true, Bool.false_eq_true, if_false]
  try refine wpAny_bind (wpAny_pure ?_)
  try simp only [Bool.not_true, Bool.false_eq_true, if_false]
  show wpAny _ _ (seqItems? (.ref b) >>= _) _ _ s
  refine wpAny_bind (wpAny_seqItems ho hd ?_)
  dsimp only
  refine wpAny_bind ?_
  show wpAny _ _ (forIn vs _ _) _ _ s
  rw [← Array.forIn_toList]
  refine wpAny_forIn_list _ (fun rest r s' => r.1 = none ∧ s' = s ∧ ∀ v ∈ rest, NoSt P w n s v) _ ?_ ?_ _ _ ⟨rfl, rfl, hv⟩
  · rintro v rest r s' ⟨_, rfl, all⟩
    refine wpAny_bind (all v List.mem_cons_self _ _ _ ?_)
    simp only [Bool.false_eq_true, if_false]
    exact wpAny_pure ⟨rfl, rfl, fun u hu => all u (List.mem_cons_of_mem _ hu)⟩
  · rintro ⟨r1, r2⟩ s' ⟨hr, rfl, _⟩
    simp only at hr
    subst hr
    exact wpAny_pure hQ
theorem NoSt.flat {n : Nat} {v : Value} (h : ∀ n, ofAClassStatement n v = pure false) : NoSt P w n s v := fun A E Q hQ => by
  rw [h n]; exact wpAny_pure hQ
mutual
theorem nost_key : ∀ (k : NestedKey) (v : Value) (n : Nat) (s : Shared), NestedIs s.heap k v → k.depth ≤ n → NoSt P w n s v
  | .none, _, n, s, x, _ => by cases x; exact .flat fun n => by cases n <;> rfl
  | .num i, _, n, s, x, _ => by cases x <;> exact .flat fun n => by cases n <;> rfl
  | .text y, _, n, s, x, _ => by cases x; exact .flat fun n => by cases n <;> rfl
  | .tup ks, _, n, s, x, hn => by
    cases x with
    | tup hg hc hd hk =>
      simp only [NestedKey.depth] at hn
      cases n with
      | zero => omega
      | succ n => exact .tup hg hc hd (nost_keys ks _ n s hk (by omega))
theorem nost_keys : ∀ (ks : List NestedKey) (vs : List Value) (n : Nat) (s : Shared), NestedAll s.heap ks vs → NestedKey.depthAll ks ≤ n → ∀ v ∈ vs, NoSt P w n s v
  | [], _, n, s, x, _, v, hv => by cases x; cases hv
  | k :: ks, _, n, s, x, hn, v, hv => by
    cases x with
    | cons x1 x2 =>
      simp only [NestedKey.depthAll] at hn
      rcases List.mem_cons.mp hv with e | hv
      · rw [e]; exact nost_key k _ n s x1 (by omega)
      · exact nost_keys ks _ n s x2 (by omega) v hv
end
/-- whether a thing is hashed by value: answered at all -/
def HbV (P : Program) (w : World) (n : Nat) (s : Shared) (v : Value) : Prop := ∀ (A : Around) (E : Value → Shared → Prop) (Q : Bool → Shared → Prop), (∀ b, Q b s) → wpAny (model P w) A (hashByValue n v) Q E s
theorem HbV.tup {n : Nat} {b : Addr} {o : Obj} {vs : Array Value} {m : Nat} (ho : s.heap.get? b = some o) (hc : o.cls = .type "tuple") (hd : o.data = .seq vs m) (hv : ∀ v ∈ vs.toList, HbV P w n s v) : HbV P w (n + 1) s (.ref b) := fun A E Q hQ => by
  have hT : s.TypeIs (.ref b) "tuple" := ⟨o, ho, hc⟩
  unfold hashByValue
  refine wpAny_bind (wpAny_specialOf hT F.slot_tuple_hash.lookup ?_)
  show wpAny _ _ (seqItems? (.ref b) >>= _) _ _ s
  refine wpAny_bind (wpAny_seqItems ho hd ?_)
  refine wpAny_bind ?_
  show wpAny _ _ (forIn vs _ _) _ _ s
  rw [← Array.forIn_toList]
  refine wpAny_forIn_list _ (fun rest r s' => r.1 = none ∧ s' = s ∧ ∀ v ∈ rest, HbV P w n s v) _ ?_ ?_ _ _ ⟨rfl, rfl, hv⟩
  · rintro v rest r s' ⟨_, rfl, all⟩
    refine wpAny_bind (all v List.mem_cons_self _ _ _ fun b => ?_)
    cases b
    · simp only [Bool.not_false, if_true]
      refine wpAny_pure ?_
      exact wpAny_pure (hQ false)
    · simp only [Bool.not_true, Bool.false_eq_true, if_false]
      exact wpAny_pure ⟨rfl, rfl, fun u hu => all u (List.mem_cons_of_mem _ hu)⟩
  · rintro ⟨r1, r2⟩ s' ⟨hr, rfl, _⟩
    simp only at hr
    subst hr
    exact wpAny_pure (hQ true)
theorem HbV.flat {n : Nat} {v : Value} {b : Bool} (h : ∀ n, hashByValue n v = pure b) : HbV P w n s v := fun A E Q hQ => by
  rw [h n]; exact wpAny_pure (hQ b)
mutual
theorem hbv_key : ∀ (k : NestedKey) (v : Value) (n : Nat) (s : Shared), NestedIs s.heap k v → HbV P w n s v
  | .none, _, n, s, x => by cases x; exact .flat (b := true) fun n => by cases n <;> rfl
  | .num i, _, n, s, x => by cases x <;> exact .flat (b := true) fun n => by cases n <;> rfl
  | .text y, _, n, s, x => by cases x; exact .flat (b := false) fun n => by cases n <;> rfl
  | .tup ks, _, n, s, x => by
    cases x with
    | tup hg hc hd hk =>
      cases n with
      | zero => exact fun A E Q hQ => wpAny_pure (hQ false)
      | succ n => exact .tup hg hc hd (hbv_keys ks _ n s hk)
theorem hbv_keys : ∀ (ks : List NestedKey) (vs : List Value) (n : Nat) (s : Shared), NestedAll s.heap ks vs → ∀ v ∈ vs, HbV P w n s v
  | [], _, n, s, x, v, hv => by cases x; cases hv
  | k :: ks, _, n, s, x, v, hv => by
    cases x with
    | cons x1 x2 =>
      rcases List.mem_cons.mp hv with e | hv
      · rw [e]; exact hbv_key k _ n s x1
      · exact hbv_keys ks _ n s x2 v hv
end
/-- a search among keys shows nothing -/
theorem seen_keys {k : NestedKey} {b : Addr} {Q : Bool → Shared → Prop} (hk : KAt s.heap k b) {ys : List Value} (hy : ∀ y ∈ ys, ∃ k' c, y = Value.ref c ∧ KAt s.heap k' c) (h : Q false s) :
    wpAny (model P w) A (searchCouldBeSeen (.ref b) ys) Q E s := by
  unfold searchCouldBeSeen
  refine wpAny_bind ?_
  refine wpAny_forIn_list _ (fun rest r s' => r.1 = none ∧ s' = s ∧ ∀ y ∈ rest, ∃ k' c, y = Value.ref c ∧ KAt s.heap k' c) _ ?_ ?_ _ _ ⟨rfl, rfl, hy⟩
  · rintro v rest r s' ⟨_, rfl, all⟩
    obtain ⟨k', c, rfl, hc⟩ := all v List.mem_cons_self
    have all' : ∀ y ∈ rest, ∃ k' c, y = Value.ref c ∧ KAt s'.heap k' c := fun u hu => all u (List.mem_cons_of_mem _ hu)
    dsimp only
    by_cases hv : (b == c || (carriedByValue (.ref b) && carriedByValue (.ref c))) = true
    · exact wp_if_pos hv (wpAny_pure ⟨rfl, rfl, all'⟩)
    · refine wp_if_neg hv ?_
      refine wpAny_bind ((nestedKind P w).quiet hk ?_)
      simp only [Bool.not_true, Bool.false_eq_true, if_false]
      refine wpAny_bind ((nestedKind P w).quiet hc ?_)
      simp only [Bool.not_true, Bool.false_eq_true, if_false]
      refine wpAny_bind (nost_key k _ 8 s' hk.1 hk.2 _ _ _ ?_)
      simp only [Bool.false_eq_true, if_false]
      refine wpAny_bind (nost_key k' _ 8 s' hc.1 hc.2 _ _ _ ?_)
      simp only [Bool.false_eq_true, if_false]
      exact wpAny_pure ⟨rfl, rfl, all'⟩
  · rintro ⟨r1, r2⟩ s' ⟨hr, rfl, _⟩
    simp only at hr
    subst hr
    exact wpAny_pure h
/-! ### the set -/
abbrev RowN := Addr × NestedKey
abbrev nh (w : World) (k : NestedKey) : Int := k.hash w
def rowsN (w : World) (L : List RowN) : List (Int × Value) := L.map fun p => (nh w p.2, Value.ref p.1)
abbrev hashesN (w : World) (L : List RowN) : List Int := L.map fun p => nh w p.2
structure NSet (w : World) (h : Heap) (a : Addr) (L : List RowN) (es : Array (Int × Value)) (ep : Nat) (t : SetTable) : Prop where
  ob : ∃ o, h.get? a = some o ∧ o.ExactSet ∧ o.data = .set es ep t
  rows : es.toList = rowsN w L
  tab : TabOk t (hashesN w L)
  nd : (L.map (·.2)).Nodup
  keys : ∀ p ∈ L, KAt h p.2 p.1
  led : w.params.followText "set-order" = true ∨ t.led = true
  room : L.length * 5 < t.mask * 3
  few : L.length < 64
theorem rowsN_size {L : List RowN} {es : Array (Int × Value)} (h : es.toList = rowsN w L) : es.size = L.length := by
  have := congrArg List.length h
  unfold rowsN at this
  rwa [Array.length_toList, List.length_map] at this
theorem rowsN_at {L : List RowN} {es : Array (Int × Value)} (h : es.toList = rowsN w L) {i : Nat} {p : RowN} (e : L[i]? = some p) : es[i]? = some (nh w p.2, Value.ref p.1) := by
  rw [← Array.getElem?_toList, h]
  unfold rowsN
  rw [List.getElem?_map, e]; rfl
theorem fitsN {L : List RowN} {es : Array (Int × Value)} {t : SetTable} (h : es.toList = rowsN w L) (T : TabOk t (hashesN w L)) (hl : L.length ≤ t.mask) : t.fits es.size = true := by
  have h1 := T.sz
  rw [List.length_map] at h1
  have h2 := rowsN_size h
  unfold SetTable.fits SetTable.fill
  rw [T.dm, Bool.and_eq_true, beq_iff_eq, decide_eq_true_eq]
  show t.place.size = es.size ∧ t.place.size + 0 ≤ t.mask
  omega
variable {a : Addr} {L : List RowN} {es : Array (Int × Value)} {ep : Nat} {t : SetTable}
theorem NSet.fits (R : NSet w s.heap a L es ep t) : t.fits es.size = true := fitsN R.rows R.tab (by have := R.room; omega)
theorem gaveN {hs : List Int} (T : TabOk t hs) : ¬ t.gaveWay = true := by
  unfold SetTable.gaveWay
  rw [mask_odd T.mok]
  decide
theorem nth_nodummy (m : Nat) : ∀ (n : Nat) (p : SetTable.Probe), p.dummy = none → (nth m p n).dummy = none
  | 0, _, h => h
  | n + 1, p, h => nth_nodummy m n (adv m p) (by unfold adv; split <;> exact h)
/-- the first probe of the way -/
abbrev pr0 (w : World) (t : SetTable) (k : NestedKey) : SetTable.Probe := runAt t.mask (SetTable.bits (nh w k) % (t.mask + 1)) (SetTable.bits (nh w k))
/-- behind a candidate of another key the search goes on -/
theorem rest_at (R : NSet w s.heap a L es ep t) {x : Addr} {k : NestedKey} (hx : KAt s.heap k x) (hu : A.units + 8 < cLine) {j i f : Nat} {next : SetTable.Probe} {p : RowN} (hp : L[i]? = some p) (hj : t.place.toList[i]? = some j) {Q : SetFound → Shared → Prop}
    (yes : p.2 = k → Q (.there none) s) (no : p.2 ≠ k → wpAny (model P w) A (setSearchFrom a (.ref x) (nh w k) true f (some next)) Q E s) :
    wpAny (model P w) A (searchRest a (.ref x) (nh w k) true f es t j i next) Q E s := by
  obtain ⟨o, ho, _, hd⟩ := R.ob
  unfold searchRest
  rw [rowsN_at R.rows hp]
  dsimp only
  refine wpAny_bind (wpAny_holding ((nestedKind P w).eqBool (A := A) hu (R.keys p (List.mem_of_getElem? hp)) hx ?_))
  refine wpAny_bind (wpAny_setState_of ho hd R.fits ?_)
  dsimp only
  by_cases e : p.2 = k
  · exact wp_if_pos (by simp [e]) (wpAny_pure (yes e))
  · refine wp_if_neg (by simp [e]) ?_
    try refine wpAny_bind (wpAny_pure ?_)
    rw [sameMem]
    dsimp only
    simp only [if_true, slot_live R.tab.ris hj, rowsN_at R.rows hp]
    refine wpAny_bind (wpAny_isSame_ref_self (wpAny_bind (wpAny_pure ?_)))
    simp only [if_true]
    exact wp_if_neg (by simp [e]) (no e)
/-- the search, from the c-th step of the way on: K is the first free place -/
theorem search_on (R : NSet w s.heap a L es ep t) {x : Addr} {k : NestedKey} (hx : KAt s.heap k x) (hu : A.units + 8 < cLine) {K : Nat} (hKf : K < 10 * SetTable.turns t.mask)
    (hK : way t.mask (nh w k) K ∉ t.place.toList) (hKb : ∀ c, c < K → way t.mask (nh w k) c ∈ t.place.toList) {Q : SetFound → Shared → Prop}
    (yes : k ∈ L.map (·.2) → Q (.there none) s) (no : k ∉ L.map (·.2) → Q (.free (way t.mask (nh w k) K) false) s) :
    ∀ (f c : Nat) (stand : Option SetTable.Probe), stand.getD (t.probeStart (nh w k)) = nth t.mask (pr0 w t k) c → c ≤ K → K - c < f →
      (∀ (i : Nat) (p : RowN), L[i]? = some p → p.2 = k → ∃ c', c ≤ c' ∧ c' < K ∧ t.place.toList[i]? = some (way t.mask (nh w k) c')) →
      wpAny (model P w) A (setSearchFrom a (.ref x) (nh w k) true f stand) Q E s
  | 0, _, _, _, _, hf, _ => absurd hf (Nat.not_lt_zero _)
  | f + 1, c, stand, hst, hc, hf, hre => by
    obtain ⟨o, ho, _, hd⟩ := R.ob
    rw [setSearchFrom_succ]
    refine wpAny_bind (wpAny_setState_of ho hd R.fits ?_)
    dsimp only
    refine wp_if_neg (gaveN R.tab) ?_
    try refine wpAny_bind (wpAny_pure ?_)
    have sh : ∀ q, nth t.mask (nth t.mask (pr0 w t k) c) q = nth t.mask (pr0 w t k) (c + q) := fun q => (nth_add t.mask c _ q).symm
    have at_ : ∀ q, (nth t.mask (nth t.mask (pr0 w t k) c) q).j = way t.mask (nh w k) (c + q) := fun q => congrArg SetTable.Probe.j (sh q)
    have hashAt : ∀ (i : Nat) (p : RowN), L[i]? = some p → (es[i]?.map (·.1)).getD 0 = nh w p.2 := fun i p hp => by rw [rowsN_at R.rows hp]; rfl
    rcases go_spec t R.tab.ris R.tab.dm (fun i => (es[i]?.map (·.1)).getD 0) (nh w k) (10 * SetTable.turns t.mask) (K - c) _ (nth_nodummy _ c _ rfl) (by omega)
      (fun q hq => by rw [at_]; exact hKb (c + q) (by omega)) (by rw [at_, show c + (K - c) = K by omega]; exact hK) with ⟨q, i, hq, hi, _, hno, hpr⟩ | ⟨hno, hpr⟩
    · rw [at_, sh] at hpr
      rw [at_] at hi
      have hpr' : t.probe (fun i => (es[i]?.map (·.1)).getD 0) (nh w k) (stand.getD (t.probeStart (nh w k))) = some (.candidate (way t.mask (nh w k) (c + q)) i (nth t.mask (pr0 w t k) (c + (q + 1)))) := by rw [hst]; exact hpr
      rw [hpr']
      dsimp only
      obtain ⟨p, hp⟩ : ∃ p, L[i]? = some p := by
        have h1 := (List.getElem?_eq_some_iff.mp hi).1
        have h2 := R.tab.sz
        rw [List.length_map] at h2
        rw [Array.length_toList] at h1
        exact ⟨_, List.getElem?_eq_getElem (by omega)⟩
      have go := rest_at (A := A) (E := E) (P := P) (Q := Q) (f := f) (next := nth t.mask (pr0 w t k) (c + (q + 1))) R hx hu hp hi (fun e => yes (List.mem_map.mpr ⟨p, List.mem_of_getElem? hp, e⟩)) fun ne => by
        refine search_on R hx hu hKf hK hKb yes no f (c + (q + 1)) _ rfl (by omega) (by omega) fun i0 p0 h0 hk0 => ?_
        obtain ⟨c', a1, a2, a3⟩ := hre i0 p0 h0 hk0
        refine ⟨c', ?_, a2, a3⟩
        rcases Nat.lt_trichotomy c' (c + q) with z | z | z
        · exact absurd ((hashAt i0 p0 h0).trans (congrArg (nh w) hk0)) (hno (c' - c) i0 (by omega) (by rw [at_, show c + (c' - c) = c' by omega]; exact a3))
        · exfalso
          rw [z] at a3
          have s0 := slot_live R.tab.ris a3
          rw [slot_live R.tab.ris hi] at s0
          injection s0 with s0
          rw [← s0, hp] at h0
          exact ne ((congrArg Prod.snd (Option.some.inj h0)).trans hk0)
        · omega
      by_cases hl : t.led = true
      · refine wp_if_neg (by simp [hl]) ?_
        try refine wpAny_bind (wpAny_pure ?_)
        exact go
      · refine wp_if_pos (by simp [hl]) ?_
        refine wpAny_bind (seen_keys hx (fun y hy => ?_) ?_)
        · obtain ⟨e, he, rfl⟩ := List.mem_map.mp hy
          have he1 : e ∈ es.toList := by
            have : e ∈ es ∧ e.1 = nh w k := by simpa using he
            simpa using this.1
          rw [R.rows] at he1
          obtain ⟨p2, hp2, rfl⟩ := List.mem_map.mp he1
          exact ⟨p2.2, p2.1, rfl, R.keys p2 hp2⟩
        · refine wp_if_neg (by decide) ?_
          try refine wpAny_bind (wpAny_pure ?_)
          exact go
    · have hpr' : t.probe (fun i => (es[i]?.map (·.1)).getD 0) (nh w k) (stand.getD (t.probeStart (nh w k))) = some (.empty (way t.mask (nh w k) K) none) := by
        rw [hst, show way t.mask (nh w k) K = (nth t.mask (nth t.mask (pr0 w t k) c) (K - c)).j by rw [at_, show c + (K - c) = K by omega]]
        exact hpr
      rw [hpr']
      dsimp only
      refine wpAny_pure (no fun hm => ?_)
      obtain ⟨p0, h0, hk0⟩ := List.mem_map.mp hm
      obtain ⟨i0, h00⟩ := List.getElem?_of_mem h0
      obtain ⟨c', a1, a2, a3⟩ := hre i0 p0 h00 hk0
      exact hno (c' - c) i0 (by omega) (by rw [at_, show c + (c' - c) = c' by omega]; exact a3) ((hashAt i0 p0 h00).trans (congrArg (nh w) hk0))
/-- the search as adding asks for it -/
theorem search_key (R : NSet w s.heap a L es ep t) {x : Addr} {k : NestedKey} (hx : KAt s.heap k x) (hu : A.units + 8 < cLine) {Q : SetFound → Shared → Prop} (yes : k ∈ L.map (·.2) → Q (.there none) s)
    (no : ∀ K, k ∉ L.map (·.2) → way t.mask (nh w k) K ∉ t.place.toList → (∀ c, c < K → way t.mask (nh w k) c ∈ t.place.toList) → Q (.free (way t.mask (nh w k) K) false) s) :
    wpAny (model P w) A (setSearch a (.ref x) (nh w k) true) Q E s := by
  have hroom := R.room
  obtain ⟨K, hKf, hK, hKb⟩ := R.tab.first (by rw [List.length_map]; omega) (nh w k)
  have hbig : K < 100000 := by
    have : 10 * SetTable.turns t.mask ≤ 1420 := by
      unfold SetTable.turns
      rcases R.tab.mok with e | e | e <;> omega
    omega
  unfold setSearch
  refine search_on R hx hu hKf hK hKb yes (fun hn => no K hn hK hKb) 100000 0 none rfl (Nat.zero_le _) (by omega) fun i p hp hk => ?_
  have hi : (hashesN w L)[i]? = some (nh w k) := by rw [List.getElem?_map, hp, ← hk]; rfl
  have hil : i < t.place.toList.length := by
    have h1 := (List.getElem?_eq_some_iff.mp hp).1
    have h2 := R.tab.sz
    rw [List.length_map] at h2
    rw [Array.length_toList]
    omega
  have hj := List.getElem?_eq_getElem hil
  obtain ⟨c, hc, e⟩ := R.tab.before hK hi hj
  exact ⟨c, Nat.zero_le _, hc, by rw [hj, e]⟩
end
end SH
/-! SIo: sets of nested tuples: adding, set(..), sorted(set). -/
namespace SH
open PySem PySem.Spec PyProof.Rows L2 PySem.W
theorem filterMap_range {α : Type} (L : List α) : (List.range L.length).filterMap (fun i => L[i]?) = L := by
  have go : ∀ n, n ≤ L.length → (List.range n).filterMap (fun i => L[i]?) = L.take n := by
    intro n
    induction n with
    | zero => intro _; rfl
    | succ n ih =>
      intro hn
      rw [List.range_succ, List.filterMap_append, ih (Nat.le_of_lt hn), List.take_add_one, List.getElem?_eq_getElem hn, List.filterMap_cons_some (List.getElem?_eq_getElem hn)]
      rfl
  rw [go _ (Nat.le_refl _), List.take_length]
section
variable {P : Program} {w : World} {A : Around} {E : Value → Shared → Prop} {s : Shared} {a : Addr} {L : List RowN} {es : Array (Int × Value)} {ep : Nat} {t : SetTable}
/-- a key is not the set: it stays where only the set changes -/
theorem kat_same {h h' : Heap} {k : NestedKey} {b : Addr} {o : Obj} (x : KAt h k b) (ho : h.get? a = some o) (hd : o.data = .set es ep t) (sb : Heap.SameBut a h h') : KAt h' k b :=
  ⟨NestedIs.at (fun c oc vs n hc hq => (sb.2 c fun e => by rw [e, ho] at hc; cases hc; rw [hd] at hq; cases hq).trans hc) k _ x.1, x.2⟩
theorem kat_keep {h h' : Heap} {k : NestedKey} {b : Addr} (x : KAt h k b) (hk : ∀ c o, h.get? c = some o → h'.get? c = some o) : KAt h' k b :=
  ⟨NestedIs.at (fun c oc _ _ hc _ => hk c oc hc) k _ x.1, x.2⟩
theorem rowsN_cut (L : List RowN) (p : Nat) (x : RowN) : rowsN w (L.take p ++ x :: L.drop p) = (rowsN w L).take p ++ (nh w x.2, Value.ref x.1) :: (rowsN w L).drop p := by
  unfold rowsN
  rw [List.map_append, List.map_cons, List.map_take, List.map_drop]
/-- rows in another order -/
theorem rowsN_order (order : Array Nat) (hr : es.toList = rowsN w L) (hp : order.toList.Perm (List.range L.length)) :
    ∃ L2 : List RowN, (order.filterMap (es[·]?)).toList = rowsN w L2 ∧ L2.Perm L ∧ hashesN w L2 = order.toList.map fun i => (es.map (·.1)).getD i 0 := by
  have key : ∀ l : List Nat, (∀ i ∈ l, i < L.length) → l.filterMap (fun i => es[i]?) = rowsN w (l.filterMap fun i => L[i]?) ∧ hashesN w (l.filterMap fun i => L[i]?) = l.map fun i => (es.map (·.1)).getD i 0 := by
    intro l
    induction l with
    | nil => intro _; exact ⟨rfl, rfl⟩
    | cons i l ih =>
      intro hl
      have hi := hl i List.mem_cons_self
      obtain ⟨e1, e2⟩ := ih fun j hj => hl j (List.mem_cons_of_mem _ hj)
      have g := List.getElem?_eq_getElem hi
      have ge := rowsN_at hr g
      have ge2 : (es.map (·.1)).getD i 0 = nh w (L[i]).2 := by
        have : (es.map (·.1))[i]? = some (nh w (L[i]).2) := by rw [Array.getElem?_map, ge]; rfl
        simp [Array.getD_eq_getD_getElem?, this]
      rw [List.filterMap_cons_some ge, List.filterMap_cons_some g, e1, List.map_cons, ge2, ← e2]
      exact ⟨rfl, rfl⟩
  obtain ⟨e1, e2⟩ := key order.toList fun i hi => List.mem_range.mp (hp.mem_iff.mp hi)
  refine ⟨_, by first | (rw [Array.toList_filterMap]; exact e1) | simpa using e1, ?_, e2⟩
  have h1 := hp.filterMap fun i => L[i]?
  rwa [filterMap_range] at h1
/-- the table laid anew -/
theorem relay_key {o : Obj} (ho : s.heap.get? a = some o) (hex : o.ExactSet) (hd : o.data = .set es ep t) (hr : es.toList = rowsN w L) (T : TabOk t (hashesN w L)) (hfl : L.length ≤ t.mask)
    (nd : (L.map (·.2)).Nodup) (keys : ∀ p ∈ L, KAt s.heap p.2 p.1) (ld : w.params.followText "set-order" = true ∨ t.led = true) (few : L.length < 64) {wanted M : Nat}
    (hw : SetTable.sizeAbove wanted - 1 = M) (hM : MaskOk M) (hw2 : SetTable.sizeAbove wanted ≤ 128) (hn : L.length * 5 < M * 3) {Q : Unit → Shared → Prop}
    (hQ : ∀ h' L' es' ep' t', Heap.SameBut a s.heap h' → NSet w h' a L' es' ep' t' → L'.Perm L → Q () { s with heap := h' }) : wpAny (model P w) A (setRelay a wanted) Q E s := by
  have hsl := rowsN_size hr
  obtain ⟨t', order, e, hp, T', em, el, _, ed⟩ := relaid_ok t (hs := es.map (·.1)) (wanted := wanted) hw hM (by rw [Array.size_map, hsl]; omega)
  rw [Array.size_map, hsl] at hp
  obtain ⟨L2, r1, r2, r3⟩ := rowsN_order order hr hp
  rw [← r3] at T'
  have hs2 : (order.filterMap (es[·]?)).size = es.size := by rw [rowsN_size r1, r2.length_eq, hsl]
  rw [setRelay_eq]
  refine wpAny_bind (wpAny_setState_of ho hd (fitsN hr T hfl) ?_)
  dsimp only
  refine wp_if_neg (by rw [sizeLine_eq]; omega) ?_
  try refine wpAny_bind (wpAny_pure ?_)
  rw [e]
  dsimp only
  refine wpAny_bind ?_
  refine wp_if_neg (by rw [hs2]; simp) ?_
  try refine wpAny_bind (wpAny_pure ?_)
  refine wpAny_pure ?_
  dsimp only
  refine wpAny_storeSet_of ho hd ?_ (by rw [hs2, hsl, sizeLine_eq]; omega)
  have sb : Heap.SameBut a s.heap (s.heap.update a (Obj.putSet (order.filterMap (es[·]?)) t')) := Heap.SameBut.update ..
  refine hQ _ L2 _ (ep + 1) t' sb ⟨⟨_, store_at ho hd, ⟨hex.1, hex.2.1, hex.2.2⟩, rfl⟩, r1, T', (r2.map (·.2)).nodup_iff.mpr nd, fun p hpm => kat_same (keys p (r2.mem_iff.mp hpm)) ho hd sb, by rw [el]; exact ld, ?_, by rw [r2.length_eq]; exact few⟩ r2
  rw [r2.length_eq, em]; exact hn
/-- adding -/
theorem add_key (R : NSet w s.heap a L es ep t) {x : Addr} {k : NestedKey} (hx : KAt s.heap k x) (hu : A.units + 8 < cLine) (hfew : L.length + 1 < 64) {Q : Bool → Shared → Prop}
    (hQ : ∀ b h' L' es' ep' t', Heap.SameBut a s.heap h' → NSet w h' a L' es' ep' t' → (k ∈ L.map (·.2) → L' = L) → (k ∉ L.map (·.2) → L'.Perm ((x, k) :: L)) → Q b { s with heap := h' }) :
    wpAny (model P w) A (setAddHashed a (.ref x) (nh w k)) Q E s := by
  obtain ⟨o, ho, hex, hd⟩ := R.ob
  have hsl := rowsN_size R.rows
  have hroom := R.room
  unfold setAddHashed
  refine wpAny_holding ?_
  rw [show (100000 : Nat) = 99999 + 1 from rfl, setAddHashedIn_succ]
  refine wpAny_bind (wpAny_setState_of ho hd R.fits ?_)
  dsimp only
  refine wp_if_neg (by simp [byScan, Value.scannable]) ?_
  try refine wpAny_bind (wpAny_pure ?_)
  refine wpAny_bind (search_key R hx hu (fun hm => ?_) fun K hm hK hb => ?_)
  · dsimp only
    exact wpAny_pure (hQ false s.heap L es ep t (Heap.SameBut.refl a s.heap) R (fun _ => rfl) fun z => absurd hm z)
  · dsimp only
    refine wpAny_bind (wpAny_setState_of ho hd R.fits ?_)
    dsimp only
    obtain ⟨q1, q2, q3, q4, q5, q6, q7, q8, q9⟩ := R.tab.put hK hb
    generalize hpt : t.put (way t.mask (nh w k) K) = pt at q1 q3 q4 q5 q6 q7 q8 q9 ⊢
    obtain ⟨t1, p⟩ := pt
    dsimp only at q1 q3 q4 q5 q6 q7 q8 q9 ⊢
    subst q1
    -- what is kept, whatever the word on values
    have main : ∀ t2 : SetTable, t2 = { t1 with plain := t2.plain } → wpAny (model P w) A (do
        storeSet a (SetTable.insertAt es (SetTable.below t.place (way t.mask (nh w k) K)) (nh w k, Value.ref x)) t2
        if !false && t2.tooFull then setRelay a (SetTable.grown (es.size + 1))
        return true) Q E s := fun t2 et => by
      have eplace : t2.place = t1.place := by rw [et]
      have emask : t2.mask = t1.mask := by rw [et]
      have edum : t2.dummies = t1.dummies := by rw [et]
      have eled : t2.led = t1.led := by rw [et]
      have efill : t2.fill = t1.fill := by unfold SetTable.fill; rw [eplace, edum]
      have hin : (SetTable.insertAt es (SetTable.below t.place (way t.mask (nh w k) K)) (nh w k, Value.ref x)).toList = rowsN w (L.take (SetTable.below t.place (way t.mask (nh w k) K)) ++ (x, k) :: L.drop (SetTable.below t.place (way t.mask (nh w k) K))) := by
        rw [SetTable.toList_insertAt, rowsN_cut, R.rows]
      generalize hpp : SetTable.below t.place (way t.mask (nh w k) K) = p at q2 q3 hin ⊢
      have pm := put_perm L p (x, k)
      have hlen : (L.take p ++ (x, k) :: L.drop p).length = L.length + 1 := pm.length_eq
      have hhs : hashesN w (L.take p ++ (x, k) :: L.drop p) = (hashesN w L).take p ++ nh w k :: (hashesN w L).drop p := by
        unfold hashesN
        rw [List.map_append, List.map_cons, List.map_take, List.map_drop]
      rw [← hhs] at q3
      have q3' : TabOk t2 (hashesN w (L.take p ++ (x, k) :: L.drop p)) := ⟨by rw [eplace]; exact q3.ris, by rw [edum]; exact q3.dm, by rw [eplace]; exact q3.sz, by rw [emask]; exact q3.mok, by rw [eplace, emask]; exact q3.bd, by rw [eplace, emask]; exact q3.reach⟩
      have nd1 : ((L.take p ++ (x, k) :: L.drop p).map (·.2)).Nodup := by
        refine (pm.map (·.2)).nodup_iff.mpr ?_
        rw [List.map_cons]
        exact List.nodup_cons.mpr ⟨hm, R.nd⟩
      generalize SetTable.insertAt es p (nh w k, Value.ref x) = es1 at hin ⊢
      generalize L.take p ++ (x, k) :: L.drop p = L1 at pm hlen q3' nd1 hin
      have hes := rowsN_size hin
      refine wpAny_bind (wpAny_storeSet_of ho hd ?_ (by rw [hes, hlen, sizeLine_eq]; omega))
      have sb : Heap.SameBut a s.heap (s.heap.update a (Obj.putSet es1 t2)) := Heap.SameBut.update ..
      have ho1 := store_at (es' := es1) (t' := t2) ho hd
      generalize s.heap.update a (Obj.putSet es1 t2) = h1 at sb ho1 ⊢
      have keys1 : ∀ p ∈ L1, KAt h1 p.2 p.1 := fun p hp => by
        rcases List.mem_cons.mp (pm.mem_iff.mp hp) with e | hp
        · rw [e]; exact kat_same hx ho hd sb
        · exact kat_same (R.keys p hp) ho hd sb
      have ld1 : w.params.followText "set-order" = true ∨ t2.led = true := by rw [eled, q5]; exact R.led
      by_cases hf : t2.tooFull = true
      · have hfull : (L.length + 1) * 5 ≥ t2.mask * 3 := by
          have h := hf
          unfold SetTable.tooFull at h
          rw [decide_eq_true_eq, efill, q9, List.length_map] at h
          exact h
        rw [emask, q4] at hfull
        rw [hsl]
        have cases2 : (t.mask = 7 ∧ L.length = 4) ∨ (t.mask = 31 ∧ L.length = 18) := by
          rcases R.tab.mok with e | e | e
          · left; rw [e] at hfull hroom; exact ⟨e, by omega⟩
          · right; rw [e] at hfull hroom; exact ⟨e, by omega⟩
          · exfalso; rw [e] at hfull; omega
        have go : ∀ M, SetTable.sizeAbove (SetTable.grown (L.length + 1)) - 1 = M → MaskOk M → SetTable.sizeAbove (SetTable.grown (L.length + 1)) ≤ 128 → (L.length + 1) * 5 < M * 3 →
            wpAny (model P w) A (setRelay a (SetTable.grown (L.length + 1))) (fun _ s' => wpAny (model P w) A (pure true) Q E s') E { s with heap := h1 } := fun M h1' h2' h3' h4' => by
          refine relay_key (s := { s with heap := h1 }) ho1 ⟨hex.1, hex.2.1, hex.2.2⟩ rfl hin q3' (by rw [hlen, emask, q4]; rcases cases2 with ⟨e, e2⟩ | ⟨e, e2⟩ <;> omega) nd1 keys1 ld1 (by rw [hlen]; exact hfew) h1' h2' h3' (by rw [hlen]; exact h4') ?_
          intro h2 L2 es2 ep2 t2 sb2 R2 pm2
          exact wpAny_pure (hQ true h2 L2 es2 ep2 t2 (sb.trans sb2) R2 (fun z => absurd z hm) fun _ => pm2.trans pm)
        first
          | (refine wpAny_bind ?_; refine wp_if_pos (by simp [hf]) ?_)
          | (refine wp_if_pos (by simp [hf]) ?_; refine wpAny_bind ?_)
        rcases cases2 with ⟨_, e2⟩ | ⟨_, e2⟩
        · exact go 31 (by rw [e2, size_20]) (.inr (.inl rfl)) (by rw [e2, size_20]; decide) (by omega)
        · exact go 127 (by rw [e2, size_76]) (.inr (.inr rfl)) (by rw [e2, size_76]; decide) (by omega)
      · first
          | refine wp_if_neg (by simp [hf]) ?_
          | (refine wpAny_bind ?_; refine wp_if_neg (by simp [hf]) ?_; refine wpAny_pure ?_)
        refine wpAny_pure (hQ true h1 L1 es1 (ep + 1) t2 sb ⟨⟨_, ho1, ⟨hex.1, hex.2.1, hex.2.2⟩, rfl⟩, hin, q3', nd1, keys1, ld1, ?_, by rw [hlen]; exact hfew⟩ (fun z => absurd z hm) fun _ => pm)
        have h := hf
        unfold SetTable.tooFull at h
        rw [decide_eq_true_eq, efill, q9, List.length_map] at h
        rw [hlen]; omega
    by_cases hpl : t1.plain = true
    · first
        | (refine wpAny_bind ?_; refine wp_if_pos hpl ?_; refine hbv_key k _ 8 s hx.1 _ _ _ fun b => ?_)
        | refine wp_if_pos hpl (wpAny_bind (hbv_key k _ 8 s hx.1 _ _ _ fun b => ?_))
      cases b
      · exact main { t1 with plain := false } rfl
      · exact main t1 rfl
    · first
        | (refine wpAny_bind ?_; refine wp_if_neg hpl ?_; refine wpAny_pure ?_)
        | refine wp_if_neg hpl (wpAny_bind (wpAny_pure ?_))
        | refine wp_if_neg hpl ?_
      exact main t1 rfl
end
end SH
/-! SIp: set(..) of lists and tuples of nested tuples; sorted(set). -/
namespace SH
open PySem PySem.Spec PyProof.Rows L2 PySem.W
/-- what a set has got of the first i things -/
structure GotN (ks : List RowN) (i : Nat) (L : List RowN) : Prop where
  sub : ∀ p ∈ L, p ∈ ks.take i
  all : ∀ p ∈ ks.take i, p.2 ∈ L.map (·.2)
  len : L.length ≤ i
theorem GotN.zero (ks : List RowN) : GotN ks 0 [] := ⟨fun p h => (by cases h), fun p h => (by simp at h), Nat.le_refl _⟩
theorem GotN.old {ks L : List RowN} {i : Nat} {x : RowN} (g : GotN ks i L) (h : ks[i]? = some x) (hm : x.2 ∈ L.map (·.2)) : GotN ks (i + 1) L := by
  refine ⟨fun p hp => ?_, fun p hp => ?_, Nat.le_succ_of_le g.len⟩
  · rw [take_next h]; exact List.mem_append_left _ (g.sub p hp)
  · rw [take_next h] at hp
    rcases List.mem_append.mp hp with z | z
    · exact g.all p z
    · rw [List.mem_singleton.mp z]; exact hm
theorem GotN.new {ks L L' : List RowN} {i : Nat} {x : RowN} (g : GotN ks i L) (h : ks[i]? = some x) (pm : L'.Perm (x :: L)) : GotN ks (i + 1) L' := by
  refine ⟨fun p hp => ?_, fun p hp => ?_, ?_⟩
  · rw [take_next h]
    rcases List.mem_cons.mp (pm.mem_iff.mp hp) with e | z
    · rw [e]; exact List.mem_append_right _ (List.mem_singleton.mpr rfl)
    · exact List.mem_append_left _ (g.sub p z)
  · rw [(pm.map (·.2)).mem_iff, List.map_cons]
    rw [take_next h] at hp
    rcases List.mem_append.mp hp with z | z
    · exact List.mem_cons_of_mem _ (g.all p z)
    · rw [List.mem_singleton.mp z]; exact List.mem_cons_self
  · have := g.len
    rw [pm.length_eq, List.length_cons]; omega
section
variable {P : Program} {w : World} {A : Around} {E : Value → Shared → Prop} {s : Shared}
theorem NSet.keep {h h' : Heap} {a : Addr} {L : List RowN} {es : Array (Int × Value)} {ep : Nat} {t : SetTable} (R : NSet w h a L es ep t) (ha : ∀ o, h.get? a = some o → h'.get? a = some o) (hk : ∀ p ∈ L, KAt h' p.2 p.1) : NSet w h' a L es ep t := by
  obtain ⟨o, ho, r⟩ := R.ob
  exact ⟨⟨o, ha o ho, r⟩, R.rows, R.tab, R.nd, hk, R.led, R.room, R.few⟩
abbrev newSetO (w : World) : Obj := { cls := .type "set", dict := none, data := .set #[] 0 (.fresh 0 0 (!w.params.followText "set-order")) }
theorem NSet.fresh {h : Heap} {a : Addr} (ho : h.get? a = some (newSetO w)) : NSet w h a [] #[] 0 (.fresh 0 0 (!w.params.followText "set-order")) where
  ob := ⟨_, ho, ⟨rfl, rfl, rfl⟩, rfl⟩
  rows := rfl
  tab := ⟨List.Pairwise.nil, rfl, rfl, .inl rfl, fun x hx => (by cases hx), fun i h j hi => (by simp at hi)⟩
  nd := List.nodup_nil
  keys := fun p hp => (by cases hp)
  led := by
    show _ ∨ (!w.params.followText "set-order") = true
    cases w.params.followText "set-order"
    · exact .inr rfl
    · exact .inl rfl
  room := by show 0 * 5 < 7 * 3; decide
  few := by show 0 < 64; decide
/-- the loop of set.update -/
theorem update_keys {I : Addr} {fp wr : List Addr} {G : Array GenState → Array GenState → Prop} {n : Nat} {Pv : Nat → Value → Prop} {St : Nat → Shared → Prop} {R : Result → Shared → Prop}
    (W : WalksS P w A.in1 I fp wr G n Pv St) (S : Addr) (hSf : S ∉ fp) (ks : List RowN) (hn : n = ks.length) (hfew : ks.length < 64) (hval : ∀ i v, Pv i v → ∃ p, ks[i]? = some p ∧ v = .ref p.1)
    (h0 : Heap) (hk : ∀ p ∈ ks, KAt h0 p.2 p.1) (hS0 : h0.get? S = none) (hw0 : ∀ b ∈ wr, h0.get? b = none) (hu : A.in1.units + 8 < cLine) :
    ∀ (k i : Nat) (s : Shared), n - i = k → i ≤ n → St i s → (∀ b o, h0.get? b = some o → s.heap.get? b = some o) → (∃ L es ep t, NSet w s.heap S L es ep t ∧ GotN ks i L) →
      (∀ s' L es ep t, Moved (S :: wr) G s s' → NSet w s'.heap S L es ep t → GotN ks n L → (∀ b o, h0.get? b = some o → s'.heap.get? b = some o) → R (.ok (.ret .none)) s') →
      codeAny (model P w) A (.builtin "set.update.loop" ⟨[.ref S, .ref I], []⟩) R s := by
  have hSw : S ∉ wr := fun h => hSf (W.sub _ h)
  have hsub : ∀ b ∈ wr, b ∈ S :: wr := fun b hb => List.mem_cons_of_mem _ hb
  have keepM : ∀ {s s' : Shared}, Moved wr G s s' → (∀ b o, h0.get? b = some o → s.heap.get? b = some o) → ∀ b o, h0.get? b = some o → s'.heap.get? b = some o := fun hm hkp b o e =>
    hm.heap b o (fun hb => by rw [hw0 b hb] at e; cases e) (hkp b o e)
  intro k
  induction k with
  | zero =>
    intro i s hk' hi hst hkp ⟨L, es, ep, t, hS, g⟩ hR
    obtain rfl : i = n := by omega
    refine codeAny_builtin F.entry_set_update_loop ?_
    rw [Around.under_plainId F.plain_set_update_loop _]
    show wpAny _ A.in1 (pyNext (.ref I) >>= _) _ _ s
    refine wpAny_bind (W.done s _ _ hst fun s' hm => ?_)
    show wpAny _ A.in1 (ret Value.none) _ _ s'
    have hkp' := keepM hm hkp
    exact wpAny_pure (hR s' L es ep t (hm.mono hsub) (hS.keep (fun o e => hm.heap S o hSw e) fun p hp => kat_keep (hk p (List.mem_of_mem_take (g.sub p hp))) hkp') g hkp')
  | succ k ih =>
    intro i s hk' hi hst hkp ⟨L, es, ep, t, hS, g⟩ hR
    have hlt : i < n := by omega
    refine codeAny_builtin F.entry_set_update_loop ?_
    rw [Around.under_plainId F.plain_set_update_loop _]
    show wpAny _ A.in1 (pyNext (.ref I) >>= _) _ _ s
    refine wpAny_bind (W.item i s _ _ hlt hst fun v s' hP hst' hm => ?_)
    obtain ⟨p, hp, rfl⟩ := hval i v hP
    have hkp' := keepM hm hkp
    have hS' : NSet w s'.heap S L es ep t := hS.keep (fun o e => hm.heap S o hSw e) fun q hq => kat_keep (hk q (List.mem_of_mem_take (g.sub q hq))) hkp'
    have hx : KAt s'.heap p.2 p.1 := kat_keep (hk p (List.mem_of_getElem? hp)) hkp'
    show wpAny _ A.in1 (holding [Value.ref p.1] (setAdd S (.ref p.1)) >>= _) _ _ s'
    refine wpAny_bind (wpAny_holding ?_)
    unfold setAdd
    refine wpAny_holding ?_
    refine wpAny_bind ((nestedKind P w).pyHash (A := A.in1) hu hx ?_)
    refine add_key (s := { s' with toks := s'.toks + p.2.draws }) hS' hx hu (by have := g.len; omega) fun b h' L' es' ep' t' hsb hS2 c1 c2 => ?_
    have g' : GotN ks (i + 1) L' := by
      rcases Classical.em (p.2 ∈ L.map (·.2)) with c | c
      · rw [c1 c]; exact g.old hp c
      · exact g.new hp (c2 c)
    have hkp2 : ∀ b o, h0.get? b = some o → h'.get? b = some o := fun b o e => (hsb.2 b (fun z => by rw [z, hS0] at e; cases e)).trans (hkp' b o e)
    refine wpAny_pure ⟨plainId_quiet F.plain_set_update_loop _, ih (i + 1) _ (by omega) hlt (W.frame _ s' _ _ hst' (Nat.le_add_right _ _) fun b hb o e => ?_) hkp2 ⟨L', es', ep', t', hS2, g'⟩ fun s'' L2 es2 ep2 t2 hm'' hS'' g'' hkp'' => ?_⟩
    · rw [hsb.2 b (fun h : b = S => hSf (by rw [← h]; exact hb))]; exact e
    · refine hR s'' L2 es2 ep2 t2 (Moved.trans W.gtrans ((hm.mono hsub).then_heap (Nat.le_add_right _ _) fun b o hb e => ?_) hm'') hS'' g'' hkp''
      rw [hsb.2 b (fun h : b = S => hb (by rw [h]; exact List.mem_cons_self))]; exact e

set_option maxRecDepth 100000 in
set_option maxHeartbeats 3200000 in
/-- set(xs), xs a list -/
theorem call_setN_list {l : Addr} {items : Array Value} (ks : List RowN) {Q : Value → Shared → Prop} (hh : A.handled = none) (hl : s.heap.IsList l items) (hit : items.toList = ks.map fun p => Value.ref p.1)
    (hk : ∀ p ∈ ks, KAt s.heap p.2 p.1) (hfew : ks.length < 64) (hu : A.units + 16 < cLine)
    (h : ∀ (h' : Heap) (tk : Nat) L es ep t, NSet w h' s.heap.objs.size L es ep t → GotN ks ks.length L → (∀ b o, s.heap.get? b = some o → h'.get? b = some o) → Q (.ref s.heap.objs.size) { s with heap := h', toks := tk }) :
    wpAny (model P w) A (call (.type "set") [.ref l]) Q E s := by
  have hisz : items.size = ks.length := by
    have q := congrArg List.length hit
    rwa [Array.length_toList, List.length_map] at q
  obtain ⟨c, tl, hmro⟩ := F.called_set.mro
  have hmade := F.called_set.made
  have hsub := F.called_set.sub
  refine wpAny_call (codeAny_of_tree ?_)
  show wpAny _ _ (callAny (.type "set") _) _ _ _
  refine wpAny_pure ⟨Code.quiet_builtin _ (by decide +kernel), codeAny_builtin F.entry_type_call ?_⟩
  rw [Around.under_plain (weight_type_call_type "set" [.ref l] []) rfl]
  have h1 := F.called_set.notType
  have h2 := F.called_set.canCreate
  have hct := F.typeCall_set_1 (.ref l)
  repeat (any_goals (first | assumption | wp_step))
  refine codeAny_mono (code_set_led1 (.ref l) (E := E) (Q₁ := fun obj s₁ => obj = .ref s.heap.objs.size ∧ s₁ = { s with heap := s.heap.push (newSetO w) }) ⟨rfl, rfl⟩) fun r s₁ hr => ?_
  cases r with
  | error e => exact hr
  | ok fl =>
    cases fl with
    | ret obj =>
      obtain ⟨rfl, rfl⟩ := hr
      have hS : (s.heap.push (newSetO w)).get? s.heap.objs.size = some (newSetO w) := Heap.get?_push_size _ rfl
      have hT : Shared.TypeIs { s with heap := s.heap.push (newSetO w) } (.ref s.heap.objs.size) "set" := ⟨_, hS, rfl⟩
      have hli := F.called_set.init.lookup
      have hbi := F.called_set.init.bind (.ref s.heap.objs.size)
      repeat (any_goals (first | assumption | wp_step))
      refine codeAny_mono (codeAny_call_builtin (R := wants (fun r s₂ => r = .none ∧ ∃ h' tk L es ep t, s₂ = { s with heap := h', toks := tk } ∧ NSet w h' s.heap.objs.size L es ep t ∧ GotN ks ks.length L ∧
          (∀ b o, s.heap.get? b = some o → h'.get? b = some o)) E) F.called_set.init.plain F.entry_set_init (check_set_init_1 hT ?_)) fun r₂ s₂ hr₂ => ?_
      · obtain ⟨ol, hol, hcl, nl, hdl⟩ := hl
        obtain ⟨ocls, odict, odata, oslots⟩ := ol
        simp only at hcl hdl
        subst hcl; subst hdl
        have hol' : (s.heap.push (newSetO w)).get? l = some { cls := .type "list", dict := odict, data := .seq items nl, slots := oslots } := Heap.get?_push_of_some _ hol
        have hsls := F.sub_list_set
        have hslf := F.sub_list_frozenset
        have hne : (Value.type "list" == Value.type "dict") = false := by decide
        have hl1 : (s.heap.push (newSetO w)).IsList l items := ⟨_, hol', rfl, nl, rfl⟩
        unfold Builtin.«set.__init__» noKeywords Builtin.Frozenset.updateFrom
        generalize hPI : pyIter = PI
        wp_walk
        subst hPI
        refine wpAny_pyIter_list hl1 ?_
        refine wpAny_bind (wpAny_runValue ?_)
        have hlS : l < s.heap.objs.size := Heap.lt_size hol
        have hh3 : A.in1.in1.in1.handled = none := by simp [hh]
        have hz1 : (s.heap.push (newSetO w)).objs.size = s.heap.objs.size + 1 := Heap.size_push ..
        have hneI : l ≠ (s.heap.push (newSetO w)).objs.size := by
          rw [Heap.size_push]; exact Nat.ne_of_lt (Nat.lt_succ_of_lt hlS)
        have hSf : s.heap.objs.size ∉ [(s.heap.push (newSetO w)).objs.size, l] := by
          rw [Heap.size_push]; simp only [List.mem_cons, List.mem_singleton, List.not_mem_nil, or_false, not_or]
          exact ⟨Nat.ne_of_lt (Nat.lt_succ_self _), Nat.ne_of_gt hlS⟩
        have hval : ∀ (i : Nat) (v : Value), items[i]? = some v → ∃ p, ks[i]? = some p ∧ v = .ref p.1 := fun i v hv => by
          have q : items.toList[i]? = some v := by rw [Array.getElem?_toList]; exact hv
          rw [hit, List.getElem?_map] at q
          obtain ⟨p, hp, e⟩ := Option.map_eq_some_iff.mp q
          exact ⟨p, hp, e.symm⟩
        have none_of : ∀ b, s.heap.objs.size ≤ b → s.heap.get? b = none := fun b hb => by
          cases q : s.heap.get? b with
          | none => rfl
          | some o => exact absurd (Nat.lt_of_lt_of_le (Heap.lt_size q) hb) (Nat.lt_irrefl _)
        refine update_keys ((Walks.list hh3 _ l hneI items).toS) s.heap.objs.size hSf ks hisz hfew hval s.heap hk (none_of _ (Nat.le_refl _)) (fun b hb => none_of b (by
            rw [List.mem_singleton.mp hb, Heap.size_push]
            exact Nat.le_succ _)) (by simp only [Around.in1_units]; omega) (items.size - 0) 0 _ (by omega) (Nat.zero_le _)
          ⟨⟨_, Heap.get?_push_size _ rfl, rfl, rfl⟩, (hl1.push _)⟩ (fun b o e => Heap.get?_push_of_some _ (Heap.get?_push_of_some _ e)) ⟨[], #[], 0, _, NSet.fresh (Heap.get?_push_of_some _ hS), GotN.zero ks⟩ ?hR
        case hR =>
          intro s' L es ep t hm hS' g' hkp
          obtain ⟨h', g2, d', tk', os'⟩ := s'
          have eg : g2 = s.gens := hm.gens
          have ed : d' = s.drawn := hm.drawn
          have eo : os' = s.os := hm.os
          subst eg; subst ed; subst eo
          show wpAny _ _ _ _ _ _
          refine wpAny_pure ?_
          show wpAny _ _ (ret Value.none) _ _ _
          rw [hisz] at g'
          exact wpAny_pure ⟨rfl, h', tk', L, es, ep, t, rfl, hS', g', hkp⟩
      · cases r₂ with
        | error e => exact hr₂
        | ok fl₂ =>
          cases fl₂ with
          | ret r =>
            obtain ⟨rfl, h', tk, L, es, ep, t, rfl, hS', g', hk'⟩ := hr₂
            repeat (any_goals (first | assumption | wp_step))
            exact h _ _ _ _ _ _ hS' g' hk'
          | _ => exact hr₂.elim
    | _ => exact hr.elim

set_option maxRecDepth 100000 in
set_option maxHeartbeats 3200000 in
/-- set(xs), xs a tuple -/
theorem call_setN_tuple {l : Addr} {items : Array Value} (ks : List RowN) {Q : Value → Shared → Prop} (hh : A.handled = none) (hl : s.heap.IsTuple l items) (hit : items.toList = ks.map fun p => Value.ref p.1)
    (hk : ∀ p ∈ ks, KAt s.heap p.2 p.1) (hfew : ks.length < 64) (hu : A.units + 16 < cLine)
    (h : ∀ (h' : Heap) (tk : Nat) L es ep t, NSet w h' s.heap.objs.size L es ep t → GotN ks ks.length L → (∀ b o, s.heap.get? b = some o → h'.get? b = some o) → Q (.ref s.heap.objs.size) { s with heap := h', toks := tk }) :
    wpAny (model P w) A (call (.type "set") [.ref l]) Q E s := by
  have hisz : items.size = ks.length := by
    have q := congrArg List.length hit
    rwa [Array.length_toList, List.length_map] at q
  obtain ⟨c, tl, hmro⟩ := F.called_set.mro
  have hmade := F.called_set.made
  have hsub := F.called_set.sub
  refine wpAny_call (codeAny_of_tree ?_)
  show wpAny _ _ (callAny (.type "set") _) _ _ _
  refine wpAny_pure ⟨Code.quiet_builtin _ (by decide +kernel), codeAny_builtin F.entry_type_call ?_⟩
  rw [Around.under_plain (weight_type_call_type "set" [.ref l] []) rfl]
  have h1 := F.called_set.notType
  have h2 := F.called_set.canCreate
  have hct := F.typeCall_set_1 (.ref l)
  repeat (any_goals (first | assumption | wp_step))
  refine codeAny_mono (code_set_led1 (.ref l) (E := E) (Q₁ := fun obj s₁ => obj = .ref s.heap.objs.size ∧ s₁ = { s with heap := s.heap.push (newSetO w) }) ⟨rfl, rfl⟩) fun r s₁ hr => ?_
  cases r with
  | error e => exact hr
  | ok fl =>
    cases fl with
    | ret obj =>
      obtain ⟨rfl, rfl⟩ := hr
      have hS : (s.heap.push (newSetO w)).get? s.heap.objs.size = some (newSetO w) := Heap.get?_push_size _ rfl
      have hT : Shared.TypeIs { s with heap := s.heap.push (newSetO w) } (.ref s.heap.objs.size) "set" := ⟨_, hS, rfl⟩
      have hli := F.called_set.init.lookup
      have hbi := F.called_set.init.bind (.ref s.heap.objs.size)
      repeat (any_goals (first | assumption | wp_step))
      refine codeAny_mono (codeAny_call_builtin (R := wants (fun r s₂ => r = .none ∧ ∃ h' tk L es ep t, s₂ = { s with heap := h', toks := tk } ∧ NSet w h' s.heap.objs.size L es ep t ∧ GotN ks ks.length L ∧
          (∀ b o, s.heap.get? b = some o → h'.get? b = some o)) E) F.called_set.init.plain F.entry_set_init (check_set_init_1 hT ?_)) fun r₂ s₂ hr₂ => ?_
      · obtain ⟨ol, hol, hcl, nl, hdl⟩ := hl
        obtain ⟨ocls, odict, odata, oslots⟩ := ol
        simp only at hcl hdl
        subst hcl; subst hdl
        have hol' : (s.heap.push (newSetO w)).get? l = some { cls := .type "tuple", dict := odict, data := .seq items nl, slots := oslots } := Heap.get?_push_of_some _ hol
        have hsls := F.sub_tuple_set
        have hslf := F.sub_tuple_frozenset
        have hne : (Value.type "tuple" == Value.type "dict") = false := by decide
        have hl1 : (s.heap.push (newSetO w)).IsTuple l items := ⟨_, hol', rfl, nl, rfl⟩
        unfold Builtin.«set.__init__» noKeywords Builtin.Frozenset.updateFrom
        generalize hPI : pyIter = PI
        wp_walk
        subst hPI
        refine wpAny_pyIter_tuple hl1 ?_
        refine wpAny_bind (wpAny_runValue ?_)
        have hlS : l < s.heap.objs.size := Heap.lt_size hol
        have hh3 : A.in1.in1.in1.handled = none := by simp [hh]
        have hz1 : (s.heap.push (newSetO w)).objs.size = s.heap.objs.size + 1 := Heap.size_push ..
        have hneI : l ≠ (s.heap.push (newSetO w)).objs.size := by
          rw [Heap.size_push]; exact Nat.ne_of_lt (Nat.lt_succ_of_lt hlS)
        have hSf : s.heap.objs.size ∉ [(s.heap.push (newSetO w)).objs.size, l] := by
          rw [Heap.size_push]; simp only [List.mem_cons, List.mem_singleton, List.not_mem_nil, or_false, not_or]
          exact ⟨Nat.ne_of_lt (Nat.lt_succ_self _), Nat.ne_of_gt hlS⟩
        have hval : ∀ (i : Nat) (v : Value), items[i]? = some v → ∃ p, ks[i]? = some p ∧ v = .ref p.1 := fun i v hv => by
          have q : items.toList[i]? = some v := by rw [Array.getElem?_toList]; exact hv
          rw [hit, List.getElem?_map] at q
          obtain ⟨p, hp, e⟩ := Option.map_eq_some_iff.mp q
          exact ⟨p, hp, e.symm⟩
        have none_of : ∀ b, s.heap.objs.size ≤ b → s.heap.get? b = none := fun b hb => by
          cases q : s.heap.get? b with
          | none => rfl
          | some o => exact absurd (Nat.lt_of_lt_of_le (Heap.lt_size q) hb) (Nat.lt_irrefl _)
        refine update_keys ((Walks.tuple hh3 _ l hneI items).toS) s.heap.objs.size hSf ks hisz hfew hval s.heap hk (none_of _ (Nat.le_refl _)) (fun b hb => none_of b (by
            rw [List.mem_singleton.mp hb, Heap.size_push]
            exact Nat.le_succ _)) (by simp only [Around.in1_units]; omega) (items.size - 0) 0 _ (by omega) (Nat.zero_le _)
          ⟨⟨_, Heap.get?_push_size _ rfl, rfl, rfl⟩, (hl1.push _)⟩ (fun b o e => Heap.get?_push_of_some _ (Heap.get?_push_of_some _ e)) ⟨[], #[], 0, _, NSet.fresh (Heap.get?_push_of_some _ hS), GotN.zero ks⟩ ?hR
        case hR =>
          intro s' L es ep t hm hS' g' hkp
          obtain ⟨h', g2, d', tk', os'⟩ := s'
          have eg : g2 = s.gens := hm.gens
          have ed : d' = s.drawn := hm.drawn
          have eo : os' = s.os := hm.os
          subst eg; subst ed; subst eo
          show wpAny _ _ _ _ _ _
          refine wpAny_pure ?_
          show wpAny _ _ (ret Value.none) _ _ _
          rw [hisz] at g'
          exact wpAny_pure ⟨rfl, h', tk', L, es, ep, t, rfl, hS', g', hkp⟩
      · cases r₂ with
        | error e => exact hr₂
        | ok fl₂ =>
          cases fl₂ with
          | ret r =>
            obtain ⟨rfl, h', tk, L, es, ep, t, rfl, hS', g', hk'⟩ := hr₂
            repeat (any_goals (first | assumption | wp_step))
            exact h _ _ _ _ _ _ hS' g' hk'
          | _ => exact hr₂.elim
    | _ => exact hr.elim
end
end SH
/-! SIq: sorted(set(e)), the things nested tuples. -/
namespace SH
open PySem PySem.Spec PyProof.Rows L2 PySem.W
/-! ### the set as a thing of the heap -/
structure NSet0 (w : World) (h : Heap) (a : Addr) (L : List RowN) : Prop where
  ex : ∃ (es : Array (Int × Value)) (ep : Nat) (t : SetTable), (∃ o, h.get? a = some o ∧ o.ExactSet ∧ o.data = .set es ep t) ∧ es.toList = rowsN w L ∧ TabOk t (hashesN w L) ∧ (w.params.followText "set-order" = true ∨ t.led = true) ∧ L.length * 5 < t.mask * 3 ∧ L.length < 64
def NSetO (w : World) (a : Addr) (L : List RowN) : HO := .ext fun h => NSet0 w h a L
theorem nsetO_ok {P : Program} {w : World} {H : Hp} {h : Heap} {a : Addr} {L : List RowN} (R : NSet0 w h a L) : ObjOk P w H h a (NSetO w a L) := by
  have ⟨es, ep, t, ⟨o, ho, r⟩, q⟩ := R.ex
  refine ⟨R, ⟨o, ho⟩, fun h1 h2 p k => ?_⟩
  have ⟨es', ep', t', ⟨o', ho', r'⟩, q'⟩ := NSet0.ex p
  exact ⟨es', ep', t', ⟨o', k o' ho', r'⟩, q'⟩
theorem NSet.zero {w : World} {h : Heap} {a : Addr} {L : List RowN} {es : Array (Int × Value)} {ep : Nat} {t : SetTable} (R : NSet w h a L es ep t) : NSet0 w h a L := ⟨es, ep, t, R.ob, R.rows, R.tab, R.led, R.room, R.few⟩
section
variable {X : Cx} {F H : Hp} {σ : L2.St} {S S1 : ASt} {e : Expr} {d : PyData} {pos pos' np np' : Pos}
theorem rows_of {F : Hp} : ∀ (ks : List NestedKey) (xs : List V) (us : List Value), Vals xs us → Das F xs (ks.map NestedKey.data) → (∀ k ∈ ks, isTup k = true) → ∃ rs : List RowN, us = rs.map (fun p => Value.ref p.1) ∧ rs.map (·.2) = ks ∧ ∀ p ∈ rs, Da F (.ref p.1) p.2.data
  | [], _, _, r, h, _ => by
    cases h; cases r
    exact ⟨[], rfl, rfl, fun p hp => by cases hp⟩
  | k :: ks, _, _, r, h, ht => by
    cases h with
    | cons h1 h2 =>
      cases r with
      | cons r1 r2 =>
        obtain ⟨rs, e1, e2, e3⟩ := rows_of ks _ _ r2 h2 fun x hx => ht x (List.mem_cons_of_mem _ hx)
        cases k with
        | none => exact absurd (ht _ List.mem_cons_self) (by decide)
        | num i => exact absurd (ht _ List.mem_cons_self) (by simp [isTup])
        | text x => exact absurd (ht _ List.mem_cons_self) (by simp [isTup])
        | tup l =>
          have h1' : Da F _ (.tuple (NestedKey.datas l)) := h1
          cases id h1' with
          | @tup a _ _ _ _ =>
            cases (show _ = Value.ref a from r1)
            refine ⟨(a, .tup l) :: rs, by rw [e1]; rfl, by rw [List.map_cons, e2], fun p hp => ?_⟩
            rcases List.mem_cons.mp hp with rfl | hp
            · exact h1
            · exact e3 p hp
theorem call_setN (hc : X.calm = true) (hu : X.A.units + 64 < cLine) : CallR X (.type "set") (fun vs H Q => ∃ (F : Hp) (l : Addr) (xs : List V) (ks : List NestedKey), Same F H ∧ vs = [.ref l] ∧ (Rd H l (.lst xs) ∨ Rd H l (.tup xs)) ∧ Das F xs (ks.map NestedKey.data) ∧ (∀ k ∈ ks, isTup k = true ∧ k.depth ≤ 8) ∧ ks.length < 64 ∧
    ∀ (D : Addr) (L : List RowN), H D = none → (L.map (·.2)).Nodup → (∀ k, k ∈ L.map (·.2) ↔ k ∈ ks) → (∀ p ∈ L, Da F (.ref p.1) p.2.data) → L.length < 64 → Q (.ref D) (upd H D (NSetO X.w D L))) := by
  intro pins s σ H vs us Q I r h
  obtain ⟨F, l, xs, ks, sm, rfl, hq, w, hk, hf, k⟩ := h
  obtain ⟨u, rfl, ru⟩ := vals1 r
  cases (show u = Value.ref l from ru)
  have hn : H s.heap.objs.size = none := I.hok.fresh (Nat.le_refl _)
  have pre : ∀ (items : List Value), Vals xs items → ∃ rs : List RowN, items = rs.map (fun p => Value.ref p.1) ∧ (∀ p ∈ rs, KAt s.heap p.2 p.1) ∧ rs.length < 64 ∧ rs.map (·.2) = ks ∧ ∀ p ∈ rs, Da F (.ref p.1) p.2.data := fun items rv => by
    obtain ⟨rs, e1, e2, e3⟩ := rows_of ks xs items rv w fun k hk' => (hk k hk').1
    have lr : rs.length = ks.length := by rw [← e2, List.length_map]
    have mem2 : ∀ p ∈ rs, p.2 ∈ ks := fun p hp => by rw [← e2]; exact List.mem_map_of_mem hp
    exact ⟨rs, e1, fun p hp => ⟨da_nested I sm p.2 (.ref p.1) (.ref p.1) (e3 p hp) rfl, (hk _ (mem2 p hp)).2⟩, by rw [lr]; exact hf, e2, e3⟩
  have post : ∀ (rs : List RowN), rs.map (·.2) = ks → (∀ p ∈ rs, Da F (.ref p.1) p.2.data) → ∀ (h' : Heap) (tk : Nat) L es ep t, NSet X.w h' s.heap.objs.size L es ep t → GotN rs rs.length L → (∀ b o, s.heap.get? b = some o → h'.get? b = some o) →
      L2.Inv X pins σ (upd H s.heap.objs.size (NSetO X.w s.heap.objs.size L)) { s with heap := h', toks := tk } ∧ Q (.ref s.heap.objs.size) (upd H s.heap.objs.size (NSetO X.w s.heap.objs.size L)) := fun rs e2 e3 h' tk L es ep t R g keep => by
    refine ⟨I.laid (t' := tk) keep (Nat.le_refl _) (nsetO_ok R.zero), k _ L hn R.nd (fun x => ⟨fun hx => ?_, fun hx => ?_⟩) (fun p hp => e3 p (List.mem_of_mem_take (g.sub p hp))) R.few⟩
    · obtain ⟨p, hp, rfl⟩ := List.mem_map.mp hx
      rw [← e2]
      exact List.mem_map_of_mem (List.mem_of_mem_take (g.sub p hp))
    · rw [← e2] at hx
      obtain ⟨p, hp, rfl⟩ := List.mem_map.mp hx
      exact g.all p (by rw [List.take_length]; exact hp)
  rcases hq with hq | hq
  · obtain ⟨_, its, n, rv, e1⟩ := hq.ok I.hok
    obtain ⟨rs, g1, g2, g3, g4, g5⟩ := pre its rv
    refine call_setN_list (P := X.prog) (w := X.w) (items := its.toArray) rs (I.ok.hd hc) ⟨_, e1, rfl, n, rfl⟩ g1 g2 g3 (by omega) fun h' tk L es ep t R g keep => ?_
    obtain ⟨J, q⟩ := post rs g4 g5 h' tk L es ep t R g keep
    exact ⟨.ref _, _, J, rfl, q⟩
  · obtain ⟨_, its, rv, o, h1, h2, n, h3⟩ := hq.ok I.hok
    obtain ⟨rs, g1, g2, g3, g4, g5⟩ := pre _ (by first | exact rv | simpa using rv)
    refine call_setN_tuple (P := X.prog) (w := X.w) rs (I.ok.hd hc) ⟨_, h1, h2, n, h3⟩ g1 g2 g3 (by omega) fun h' tk L es ep t R g keep => ?_
    obtain ⟨J, q⟩ := post rs g4 g5 h' tk L es ep t R g keep
    exact ⟨.ref _, _, J, rfl, q⟩
/-! ### sorted of a set -/
theorem wp_sortedC {prog : Program} {w : World} {A : Around} {E : Value → Shared → Prop} {s : Shared} {r : Addr} {Q : Value → Shared → Prop} {R : Value → PyData → Prop} {ds : List PyData} {pre : List Value → Prop}
    (C : ∀ (R' : List Value → Shared → Prop), (∀ s' out, (∀ b o, s.heap.get? b = some o → s'.heap.get? b = some o) → s.heap.objs.size ≤ s'.heap.objs.size → s'.gens = s.gens → s'.os = s.os → pre out → R' out s') → wpAny (model prog w) A.in1 (collect (.ref r)) R' E s)
    (hds : ∀ out, pre out → ∃ ds', ds'.Perm ds ∧ EachIs R out ds') (hn : ds.length ≤ sizeLine)
    (er : ∀ v d, R v d → ∃ as, Reads s.heap v d as) (hal : AllAlike ds) (hk : Sortable ds) (hu : ∀ d ∈ ds, A.in1.units + 1 + d.depth < cLine)
    (h : ∀ (s' : Shared) (D : Addr) (out : List Value) (c : Nat) (ds' : List PyData), (∀ b o, s.heap.get? b = some o → s'.heap.get? b = some o) → s'.gens = s.gens → s'.os = s.os → s.heap.objs.size ≤ D → s'.heap.get? D = some (seqObj "list" out.toArray c) → ds'.Perm ds → EachIs R out (srtD ds') → Q (.ref D) s') :
    wpAny (model prog w) A (call (.builtin "sorted") [.ref r]) Q E s := by
  refine PySem.Calls.call_function_entry kind_sorted plain_sorted entry_sorted (args_sorted1 _) ?_
  unfold Builtin.«sorted»
  refine wpAny_bind (m := checkCount "sorted" 1 1 _) (wpAny_pure ?_)
  refine wpAny_bind (C _ fun s1 acc hkp hle hg ho hacc => ?_)
  obtain ⟨ds', pm, e⟩ := hds acc hacc
  have hl : acc.length = ds.length := by rw [e.length, pm.length_eq]
  refine wpAny_bind (wpAny_newList ?_ (by rw [hl]; exact hn))
  have er2 : EachIs (fun v d => ∃ as, Reads (s1.heap.push { cls := .type "list", data := .seq acc.toArray }) v (id d) as ∧ s1.heap.objs.size ∉ as) acc ds' := e.mono fun v d rv => by
    obtain ⟨as, hr⟩ := er v d rv
    exact ⟨as, PyProof.Rows.Reads.keeps (fun b o eb => Heap.get?_push_of_some _ (hkp b o eb)) hr, fun hm => absurd (reads_lt d v as hr _ hm) (Nat.not_lt.mpr hle)⟩
  have hnew : (s1.heap.push { cls := .type "list", data := .seq acc.toArray }).get? s1.heap.objs.size = some (seqObj "list" acc.toArray 0) := Heap.get?_push_size _ rfl
  have hal' : AllAlike ds' := fun a ha b hb => hal a (pm.mem_iff.mp ha) b (pm.mem_iff.mp hb)
  have hk' : Sortable ds' := hk.imp (fun h d hd => h d (pm.mem_iff.mp hd)) fun h d hd => h d (pm.mem_iff.mp hd)
  refine wpAny_bind (wpAny_holding (list_sort_data (prog := prog) (w := w) (A := A.in1) (s := { s1 with heap := s1.heap.push { cls := .type "list", data := .seq acc.toArray } }) (enc := id) (R := R) (bs := ds') hnew e er2 (by rw [List.map_id]; exact hal') (by rw [List.map_id]; exact hk') (by rw [pm.length_eq]; exact hn) (fun d hd => hu d (pm.mem_iff.mp hd)) fun out hol ho2 => ?_))
  refine wpAny_pure ⟨_, rfl, ?_⟩
  obtain ⟨c, hc⟩ := sortedHeap_at (vs := acc) (out := out.toArray) hnew
  refine h _ s1.heap.objs.size out c ds' (fun b o eb => ?_) hg ho hle hc pm ho2
  have hb := Heap.lt_size (hkp b o eb)
  show (sortedHeap (s1.heap.push (seqObj "list" acc.toArray 0)) s1.heap.objs.size acc out.toArray).get? b = some o
  rw [sortedHeap_old (Nat.ne_of_lt hb) (by rw [size_push']; exact Nat.lt_succ_of_lt hb)]
  exact Heap.get?_push_of_some _ (hkp b o eb)
theorem each_perm {α β : Type} {R : α → β → Prop} : ∀ {as as' : List α} {bs : List β}, EachIs R as bs → as'.Perm as → ∃ bs', bs'.Perm bs ∧ EachIs R as' bs' := by
  intro as as' bs e p
  induction p generalizing bs with
  | nil => cases e; exact ⟨[], .refl _, .nil⟩
  | cons x _ ih =>
    cases e with
    | cons h t =>
      obtain ⟨bs', q, e'⟩ := ih t
      exact ⟨_ :: bs', q.cons _, .cons h e'⟩
  | swap x y l =>
    cases e with
    | cons h t =>
      cases t with
      | cons h2 t2 => exact ⟨_, .swap _ _ _, .cons h2 (.cons h t2)⟩
  | trans p1 p2 i1 i2 =>
    obtain ⟨b1, q1, e1⟩ := i2 e
    obtain ⟨b2, q2, e2⟩ := i1 e1
    exact ⟨b2, q2.trans q1, e2⟩
theorem call_sortedS (hc : X.calm = true) (hu : X.A.units + 64 < cLine) : CallR X (.builtin "sorted") (fun vs H Q => ∃ (F : Hp) (D : Addr) (L : List RowN), Same F H ∧ vs = [.ref D] ∧ H D = some (NSetO X.w D L) ∧ (∀ p ∈ L, Da F (.ref p.1) p.2.data) ∧ Srt (L.map fun p => p.2.data) ∧
    ∀ (D2 : Addr) us (ds' : List PyData), H D2 = none → ds'.Perm (L.map fun p => p.2.data) → Das F us (srtD ds') → Q (.ref D2) (upd H D2 (.lst us))) := by
  intro pins s σ H vs us Q I r h
  obtain ⟨F, D, L, sm, rfl, hD, hd, so, k⟩ := h
  obtain ⟨u, rfl, ru⟩ := vals1 r
  cases (show u = Value.ref D from ru)
  have R0 : NSet0 X.w s.heap D L := (I.hok D _ hD).1
  obtain ⟨es, ep, t, ⟨o, ho, hex, hdt⟩, hr, T, ld, hroom, hfew⟩ := R0.ex
  have hsz := rowsN_size hr
  refine wp_sortedC (R := RelD F) (ds := L.map fun p => p.2.data) (pre := fun out => out.Perm (L.map fun p => Value.ref p.1)) (fun R' hR => ?_) (fun out pm => ?_) (by rw [List.length_map, sizeLine_eq]; omega) (fun v d h => reld_reads I sm h) so.al so.so (srt_units hu so) fun s' D2 out c ds' keep hg hos hle hat pm ho2 => ?_
  · refine collect_set (A := X.A.in1) (by simpa using I.ok.hd hc) ⟨o, ho, hex.1, hdt⟩ (fitsN hr T (by omega)) (by unfold scanBound; omega) T.ris ld fun s' out h1 h2 h3 h4 h5 => hR s' out h1 h2 h3 h4 ?_
    have e : es.toList.map (·.2) = L.map fun p => Value.ref p.1 := by rw [hr]; unfold rowsN; rw [List.map_map]; rfl
    rwa [e] at h5
  · have e0 : EachIs (RelD F) (L.map fun p => Value.ref p.1) (L.map fun p => p.2.data) := each_of (by rw [List.length_map, List.length_map]) fun j a b ea eb => by
      rw [List.getElem?_map] at ea eb
      cases ep : L[j]? with
      | none => rw [ep] at ea; cases ea
      | some p =>
        rw [ep] at ea eb
        cases ea; cases eb
        exact ⟨.ref p.1, rfl, hd p (List.mem_of_getElem? ep)⟩
    exact each_perm e0 pm
  · obtain ⟨us, hv, hw⟩ := each_vals ho2
    have hn2 : H D2 = none := I.hok.fresh hle
    have hl : us.length ≤ sizeLine := by
      have h1 := hw.length
      rw [List.length_mergeSort, pm.length_eq, List.length_map] at h1
      rw [h1, sizeLine_eq]; omega
    have J : L2.Inv X pins σ (upd H D2 (.lst us)) { s with heap := s'.heap, gens := s'.gens, drawn := s'.drawn, toks := s'.toks } :=
      I.call (ch := []) (Un.laid keep hle hn2) (I.hok.laid keep hle ⟨hl, out, c, hv, hat⟩) (by rw [hg]; exact I.bare) (fun _ z => nomatch z)
    have e : s' = { s with heap := s'.heap, gens := s'.gens, drawn := s'.drawn, toks := s'.toks } := by
      cases s'; cases s; cases hos; rfl
    rw [e]
    exact ⟨.ref D2, _, J, rfl, k D2 us ds' hn2 pm hw⟩
theorem perm_of_map {α β : Type} {f : α → β} {as bs : List β} (p : as.Perm bs) : ∀ l : List α, bs = l.map f → ∃ k : List α, k.Perm l ∧ as = k.map f := by
  induction p with
  | nil =>
    intro l e
    cases l with
    | nil => exact ⟨[], .refl _, rfl⟩
    | cons _ _ => cases e
  | cons x _ ih =>
    intro l e
    cases l with
    | nil => cases e
    | cons y l =>
      obtain ⟨h1, h2⟩ := List.cons.inj e
      obtain ⟨k, q, rfl⟩ := ih l h2
      exact ⟨y :: k, q.cons _, by rw [h1]; rfl⟩
  | swap x y r =>
    intro l e
    match l, e with
    | a :: b :: l, e =>
      obtain ⟨h1, h2⟩ := List.cons.inj e
      obtain ⟨h3, h4⟩ := List.cons.inj h2
      exact ⟨b :: a :: l, .swap _ _ _, by rw [h1, h3, h4]; rfl⟩
  | trans p1 p2 i1 i2 =>
    intro l e
    obtain ⟨k2, q2, e2⟩ := i2 l e
    obtain ⟨k1, q1, e1⟩ := i1 k2 e2
    exact ⟨k1, q1.trans q2, e1⟩
/-- sorted(set(e)) -/
theorem evq_sortedSet {ks : List NestedKey} {ds : List PyData} (hc : X.calm = true) (hu : X.A.units + 64 < cLine) (he' : Ev X e S d S1) (hd : d = .list ds ∨ d = .tuple ds) (hds : ds = ks.map NestedKey.data) (hk : ∀ k ∈ ks, isTup k = true ∧ k.depth ≤ 8) (hf : ks.length < 64)
    (so : ∀ kl : List NestedKey, kl.Nodup → (∀ k, k ∈ kl ↔ k ∈ ks) → Srt (kl.map NestedKey.data)) (hm : X.mg "sorted" = none) (hm2 : X.mg "set" = none) (hg : Gl X "sorted" := by rfl) (hg2 : Gl X "set" := by rfl)
    (he : starEach [e] X.env = (false, eval e X.env) :: starEach [] X.env := by exact star_plain rfl) (hes : starEach [Expr.Call (.Name "set" np') [e] [] pos'] X.env = (false, eval (Expr.Call (.Name "set" np') [e] [] pos') X.env) :: starEach [] X.env := by exact star_plain rfl) (hpl : (backTo pos (starEach [] X.env)).any (·.1) = false := by exact back_plain rfl) (hpl2 : (backTo pos' (starEach [] X.env)).any (·.1) = false := by exact back_plain rfl) :
    EVQ X (.Call (.Name "sorted" np) [.Call (.Name "set" np') [e] [] pos'] [] pos) S fun ov S' => ∃ (p : Addr) (kl : List NestedKey), ov = .lst p (srtD (kl.map NestedKey.data)) ∧ kl.Nodup ∧ (∀ k, k ∈ kl ↔ k ∈ ks) ∧ S' = S1 := fun F H σ st Q q => by
  refine (pe_callB (call_sortedS hc hu) hg hm boot_sorted (pa_cons (pe_callTy (call_setN hc hu) hg2 hm2 (by decide +kernel) (pa_cons (peW X e) pa_nil he) (by decide) (by decide) he hpl2) pa_nil hes) (by decide) (by decide) hes hpl).wp ?_
  refine he'.use st fun v F1 H1 p1 w1 => ?_
  obtain ⟨l, us, rfl, hq, wl⟩ : ∃ l us, v = .ref l ∧ (Rd F1 l (.lst us) ∨ Rd F1 l (.tup us)) ∧ Das F1 us ds := by
    rcases hd with rfl | rfl
    · cases w1 with
      | @lst l us _ ql wl => exact ⟨l, us, rfl, .inl ql, wl⟩
    · cases w1 with
      | @tup l us _ ql wl => exact ⟨l, us, rfl, .inr ql, wl⟩
  refine ⟨F1, l, us, ks, p1.st.same, rfl, hq.imp (Rd.same p1.st.same) (Rd.same p1.st.same), by rw [← hds]; exact wl, hk, hf, fun D L hD nd hmem hL hl => ?_⟩
  have p2 := p1.trans ⟨p1.st.laid (o := NSetO X.w D L) hD, .laid hD, .refl⟩
  have e1 : (L.map fun p => p.2.data) = (L.map (·.2)).map NestedKey.data := by rw [List.map_map]; rfl
  refine ⟨F1, D, L, p2.st.same, rfl, upd_same, hL, by rw [e1]; exact so _ nd hmem, fun D2 us2 ds' hD2 pm hw => ?_⟩
  rw [e1] at pm
  obtain ⟨kl, pk, rfl⟩ := perm_of_map pm _ rfl
  exact q _ _ _ _ S1 (Got.made p2 hD2 rfl (.lst upd_same hw)) ⟨D2, kl, rfl, pk.nodup_iff.mpr nd, fun k => (pk.mem_iff).trans (hmem k), rfl⟩
/-- sorted(set(terms)) -/
theorem evo_sortedSetT {us : List T} (hc : X.calm = true) (hu : X.A.units + 64 < cLine) (he' : Ev X e S d S1) (hd : d = .list (us.map T.enc) ∨ d = .tuple (us.map T.enc)) (hk : ∀ u ∈ us, u.depth ≤ 8) (hf : us.length < 64) {vs : List T} (hv : vs.Pairwise tlt) (hm' : ∀ t, t ∈ vs ↔ t ∈ us)
    (hm : X.mg "sorted" = none) (hm2 : X.mg "set" = none) (hg : Gl X "sorted" := by rfl) (hg2 : Gl X "set" := by rfl)
    (he : starEach [e] X.env = (false, eval e X.env) :: starEach [] X.env := by exact star_plain rfl) (hes : starEach [Expr.Call (.Name "set" np') [e] [] pos'] X.env = (false, eval (Expr.Call (.Name "set" np') [e] [] pos') X.env) :: starEach [] X.env := by exact star_plain rfl) (hpl : (backTo pos (starEach [] X.env)).any (·.1) = false := by exact back_plain rfl) (hpl2 : (backTo pos' (starEach [] X.env)).any (·.1) = false := by exact back_plain rfl) :
    EvO X (.Call (.Name "sorted" np) [.Call (.Name "set" np') [e] [] pos'] [] pos) S (fun p => .lst p (vs.map T.enc)) S1 := by
  have toT : ∀ kl : List NestedKey, (∀ k, k ∈ kl ↔ k ∈ us.map T.key) → ∃ ts : List T, kl = ts.map T.key := by
    intro kl h
    have : ∀ kl : List NestedKey, (∀ k ∈ kl, ∃ t : T, k = t.key) → ∃ ts : List T, kl = ts.map T.key := by
      intro kl
      induction kl with
      | nil => intro _; exact ⟨[], rfl⟩
      | cons k r ih =>
        intro h
        obtain ⟨t, rfl⟩ := h k List.mem_cons_self
        obtain ⟨ts, rfl⟩ := ih fun x hx => h x (List.mem_cons_of_mem _ hx)
        exact ⟨t :: ts, rfl⟩
    refine this kl fun k hk => ?_
    obtain ⟨t, _, e⟩ := List.mem_map.mp ((h k).mp hk)
    exact ⟨t, e.symm⟩
  have datas : ∀ ts : List T, (ts.map T.key).map NestedKey.data = ts.map T.enc := fun ts => by
    rw [List.map_map]; exact List.map_congr_left fun t _ => T.key_data t
  have mem : ∀ (ts : List T), (∀ k, k ∈ ts.map T.key ↔ k ∈ us.map T.key) → ∀ t, t ∈ ts ↔ t ∈ us := fun ts h t => by
    have one : ∀ l : List T, t.key ∈ l.map T.key ↔ t ∈ l := fun l => ⟨fun h => by
      obtain ⟨u, hu, e⟩ := List.mem_map.mp h
      rw [← T.key_inj e]; exact hu, fun h => List.mem_map_of_mem h⟩
    rw [← one ts, ← one us]; exact h _
  intro F H σ st Q q
  refine evq_sortedSet (ks := us.map T.key) hc hu he' hd (datas us).symm (fun k hk' => ?_) (by rw [List.length_map]; exact hf) (fun kl nd hkl => ?_) hm hm2 hg hg2 he hes hpl hpl2 F H σ st Q fun v ov F' H' S' g r => ?_
  · obtain ⟨t, ht, rfl⟩ := List.mem_map.mp hk'
    exact ⟨key_tup t, by rw [T.key_depth]; exact hk t ht⟩
  · obtain ⟨ts, rfl⟩ := toT kl hkl
    rw [datas]
    exact srt_terms fun t ht => Nat.le_trans (hk t ((mem ts hkl t).mp ht)) (by decide)
  · obtain ⟨p, kl, rfl, nd, hkl, rfl⟩ := r
    obtain ⟨ts, rfl⟩ := toT kl hkl
    refine q v _ F' H' S' g ⟨⟨p, ?_⟩, rfl⟩
    rw [datas, srtD_enc]
    have nd' : ts.Nodup := nodup_of_map nd
    have : srtT ts = vs := sorted_ext tlt_irrefl tlt_trans (srtT_pairwise nd') hv fun t => by rw [srtT_mem, mem ts hkl t, hm' t]
    rw [this]
end
end SH
/-! SIr: sorted(d.values()). -/
namespace SH
open PySem PySem.Spec PyProof.Rows L2 PySem.W
def viewO (V d : Addr) : HO := .ext fun h => h.IsValuesView V d
theorem viewO_ok {P : Program} {w : World} {H : Hp} {h : Heap} {V d : Addr} (x : h.IsValuesView V d) : ObjOk P w H h V (viewO V d) := by
  have ⟨o, ho, r⟩ := x
  refine ⟨x, ⟨o, ho⟩, fun h1 h2 p k => ?_⟩
  have ⟨o', ho', r'⟩ := (show h1.IsValuesView V d from p)
  exact ⟨o', k o' ho', r'⟩
theorem meetsT_values {prog : Program} {w : World} (d : Addr) (hd : (d == sysModules) = false) :
    MeetsIn prog w (Builtin.«dict.values» ⟨[.ref d], []⟩) (fun _ R s => s.TypeIs (.ref d) "dict" ∧ R (.ok (.ret (.ref s.heap.objs.size))) { s with heap := s.heap.push { cls := .type "dict_values", data := .fields #[.ref d] } }) :=
  .of_wp fun A R s ⟨hT, h⟩ => by
    refine wpAny_bind ?_
    unfold Builtin.Dict.noArgs
    refine wpAny_bind (wpAny_notOrdered_dict hT ?_)
    show wpAny _ _ (pure d) _ _ s
    refine wpAny_pure ?_
    show wpAny _ _ (Builtin.Dict.showsAll d >>= _) _ _ s
    unfold Builtin.Dict.showsAll
    rw [if_neg (by rw [hd]; exact Bool.false_ne_true)]
    refine wpAny_bind (wpAny_pure ?_)
    exact wpAny_bind (wpAny_newObj_type (wpAny_pure ⟨_, rfl, h⟩))
section
variable {X : Cx} {F H : Hp} {σ : L2.St} {S S1 : ASt} {o e : Expr} {d : PyData} {pos pos' np np' apos cpos : Pos} {p : Addr} {kvs : List (NestedKey × PyData)}
theorem pe_bm0G {T id : String} {name : Str} {to : TE} {r : V → List V → Hp → VK → Prop} (TyP : V → Hp → Prop) (htp : ∀ (pins : List (Addr × Obj)) (s : Shared) (σ : L2.St) (H : Hp) (x : V) (v : Value), L2.Inv X pins σ H s → RelV x v → TyP x H → s.TypeIs v T ∧ ∀ a, v = .ref a → ∃ ob, s.heap.get? a = some ob ∧ ob.dict = none)
    (pa : PlainAttrs T) (slot : Slot T name id) (hty : typeOf (.builtin id) = pure (.type "method_descriptor")) (hm : MtR X id r) (ho : PE X o to)
    (hbase : attributeBase o name X.env (eval o X.env) = eval o X.env := by rfl) (hline : (apos.endLine == cpos.line) = true := by rfl) :
    PE X (.Call (.Attribute o name apos) [] [] cpos) (fun σ H Q => to σ H fun x H1 => TyP x H1 ∧ r x [] H1 Q) := by
  refine ⟨fun pins s σ H Q I h => ?_⟩
  refine wpAny_Call_method0_late hbase hline (thn (ho.run pins s σ H _ I h) fun v s1 ⟨x, H1, I1, r1, ty, q1⟩ => ?_)
  obtain ⟨h1, h2⟩ := htp pins s1 σ H1 x v I1 r1 ty
  exact ⟨T, id, pa, slot, hty, h1, h2, Calls.callWith_builtin rfl (PySem.evalArgs_none (hm pins s1 σ H1 x [] v [] Q I1 r1 .nil q1))⟩
theorem mt_valuesN : MtR X "dict.values" (fun x vs H Q => ∃ q xs, x = .ref q ∧ vs = [] ∧ TabAt X.prog X.w H q xs ∧ ∀ V, H V = none → Q (.ref V) (upd H V (viewO V q))) := by
  intro pins s σ H x vs v us Q I rx rv h
  obtain ⟨q, xs, rfl, rfl, t, k⟩ := h
  cases (show v = Value.ref q from rx)
  cases rv
  obtain ⟨hT, _⟩ := isTab_ty pins s σ H (.ref q) (.ref q) I rfl ⟨q, xs, rfl, t⟩
  refine call_meetsIn PySem.F.slot_dict_values hT PySem.F.entry_dict_values (PySem.F.args_dict_values_1 _) (meetsT_values q t.sys) ⟨hT, ?_⟩
  have hv : (s.heap.push { cls := .type "dict_values", data := .fields #[.ref q] }).IsValuesView s.heap.objs.size q := ⟨_, Heap.get?_push_size _ rfl, rfl, rfl⟩
  exact ⟨.ref s.heap.objs.size, _, I.laid (t' := s.toks) (fun b o e => Heap.get?_push_of_some _ e) (Nat.le_refl _) (viewO_ok hv), rfl, k _ (I.hok.fresh (Nat.le_refl _))⟩
/-- sorted(d.values()): the view -/
theorem call_sortedV (hu : X.A.units + 64 < cLine) (hh : X.A.handled = none) : CallR X (.builtin "sorted") (fun vs H Q => ∃ (F : Hp) (V q : Addr) (xs : List Ent) (kvs : List (NestedKey × PyData)), Same F H ∧ vs = [.ref V] ∧ H V = some (viewO V q) ∧ TabAt X.prog X.w H q xs ∧ Paired (EntOk F) kvs xs ∧ Srt (kvs.map (·.2)) ∧
    ∀ D us, H D = none → Das F us (srtD (kvs.map (·.2))) → Q (.ref D) (upd H D (.lst us))) := by
  intro pins s σ H vs us Q I r h
  obtain ⟨F, V, q, xs, kvs, sm, rfl, hV, t, pr, so, k⟩ := h
  obtain ⟨u, rfl, ru⟩ := vals1 r
  cases (show u = Value.ref V from ru)
  obtain ⟨⟨o, es, ep, e1, e2, e3, e4⟩, _, _⟩ := (show ObjOk X.prog X.w H s.heap q (.ext (tabOf q (xs.map (entryOfKey (nestedKind X.prog X.w))))) from I.hok q _ t.at_)
  have hview : s.heap.IsValuesView V q := (I.hok V _ hV).1
  have hsz : es.size = xs.length := by rw [← Array.length_toList, e4, List.length_map]
  have hkl := Paired.length pr
  refine wp_sorted (src_values (es := es) (ep := ep)) hh ⟨hview, o, e1, e2, e3⟩ (by rw [hsz]; exact t.few) (R := RelD F) (ds := kvs.map (·.2)) (fun acc hl hp => ?_) (fun v d h => reld_reads I sm h) so.al so.so (srt_units hu so) fun h' tk D out c keep hD hat hol ho => ?_
  · refine each_of (by rw [hl, hsz, List.length_map, hkl]) fun j v d ej ed => ?_
    obtain ⟨hj, rfl⟩ := hp j v ej
    rw [List.getElem?_map] at ed
    cases ek : kvs[j]? with
    | none => rw [ek] at ed; cases ed
    | some kv =>
      rw [ek] at ed
      cases ed
      obtain ⟨y, hy, ry⟩ := paired_get pr ek
      have e5 : es[j] = entryOfKey (nestedKind X.prog X.w) y := by
        have : es.toList[j]? = some es[j] := by rw [Array.getElem?_toList, Array.getElem?_eq_getElem hj]
        rw [e4, List.getElem?_map, hy] at this
        exact (Option.some.inj this).symm
      rw [e5]
      obtain ⟨z, r1, r2⟩ := ry.2.2.2
      exact ⟨z, r1, r2⟩
  · obtain ⟨us, hv, hw⟩ := each_vals ho
    have hz : us.length ≤ sizeLine := by rw [hv.length, hol, List.length_map, hkl]; exact t.few
    exact ⟨.ref D, _, inv_list I keep hD hat hv hz, rfl, k D us (I.hok.fresh hD) hw⟩
theorem evo_sortedV (hu : X.A.units + 64 < cLine) (hh : X.A.handled = none) (ho : EvR X o S (.dN p kvs) S) (so : Srt (kvs.map (·.2))) (hm : X.mg "sorted" = none) (hg : Gl X "sorted" := by rfl)
    (hbase : attributeBase o "values" X.env (eval o X.env) = eval o X.env := by rfl) (hline : (apos.endLine == cpos.line) = true := by rfl)
    (he : starEach [Expr.Call (.Attribute o "values" apos) [] [] cpos] X.env = (false, eval (Expr.Call (.Attribute o "values" apos) [] [] cpos) X.env) :: starEach [] X.env := by exact star_plain rfl) (hpl : (backTo pos (starEach [] X.env)).any (·.1) = false := by exact back_plain rfl) :
    EvO X (.Call (.Name "sorted" np) [.Call (.Attribute o "values" apos) [] [] cpos] [] pos) S (fun p => .lst p (srtD (kvs.map (·.2)))) S := fun F H σ st Q q => by
  refine (pe_callB (call_sortedV hu hh) hg hm boot_sorted (pa_cons (pe_bm0G (IsTab X) isTab_ty PySem.F.plainAttrs_dict PySem.F.slot_dict_values PySem.F.type_dict_values mt_valuesN (peW X o) hbase hline) pa_nil he) (by decide) (by decide) he hpl).wp ?_
  refine ho F H σ st _ fun v F1 H1 s1 => ?_
  obtain ⟨rfl, xs, t, r⟩ := own_dN s1.own
  refine ⟨⟨p, xs, rfl, t⟩, p, xs, rfl, rfl, t, fun V hV => ?_⟩
  have p2 := s1.stp.trans ⟨s1.st.laid (o := viewO V p) hV, .laid hV, .refl⟩
  refine ⟨F1, V, p, xs, kvs, p2.st.same, rfl, upd_same, t.keep (fun o ho => by unfold upd; rw [if_neg (fun e => by subst e; rw [hV] at ho; cases ho)]; exact ho), r, so, fun D us hD hw => ?_⟩
  exact q _ _ _ _ S (Got.made p2 hD rfl (.lst upd_same hw)) ⟨⟨D, rfl⟩, rfl⟩
end
end SH
/-! SIs: terms in groups. -/
namespace SH
open PySem PySem.Spec PyProof.Rows L2 PySem.W
/-! ### distinct terms in order -/
def dd : List T → List T
  | [] => []
  | u :: r => if u ∈ r then dd r else u :: dd r
theorem dd_mem {t : T} : ∀ {us : List T}, t ∈ dd us ↔ t ∈ us
  | [] => Iff.rfl
  | u :: r => by
    unfold dd
    split
    · rename_i h
      rw [dd_mem (us := r), List.mem_cons]
      exact ⟨.inr, fun k => k.elim (fun e => e ▸ h) id⟩
    · rw [List.mem_cons, List.mem_cons, dd_mem (us := r)]
theorem dd_nd : ∀ us : List T, (dd us).Nodup
  | [] => .nil
  | u :: r => by
    unfold dd
    split
    · exact dd_nd r
    · rename_i h
      exact List.nodup_cons.mpr ⟨fun k => h (dd_mem.mp k), dd_nd r⟩
def usT (us : List T) : List T := srtT (dd us)
theorem usT_sorted (us : List T) : (usT us).Pairwise tlt := srtT_pairwise (dd_nd us)
theorem usT_mem {us : List T} {t : T} : t ∈ usT us ↔ t ∈ us := by unfold usT; rw [srtT_mem, dd_mem]
theorem usT_ext {us vs : List T} (h : ∀ t, t ∈ us ↔ t ∈ vs) : usT us = usT vs :=
  sorted_ext tlt_irrefl tlt_trans (usT_sorted us) (usT_sorted vs) fun x => by rw [usT_mem, usT_mem]; exact h x
theorem dd_len : ∀ us : List T, (dd us).length ≤ us.length
  | [] => Nat.le_refl _
  | u :: r => by
    have := dd_len r
    unfold dd
    split <;> simp only [List.length_cons] <;> omega
theorem usT_len (us : List T) : (usT us).length ≤ us.length := by unfold usT; rw [srtT_len]; exact dd_len us
/-! ### groups -/
abbrev Grp := T × List T
def gstep (r : T → T → Bool) (gs : List Grp) (t : T) : List Grp := if gs.any (fun g => r g.1 t) then gs.map (fun g => if r g.1 t then (g.1, g.2 ++ [t]) else g) else gs ++ [(t, [])]
def gAll (r : T → T → Bool) (vs : List T) : List Grp := vs.foldl (gstep r) []
abbrev gD (g : Grp) : PyData := .tuple ((g.1 :: g.2).map T.enc)
abbrev gks (h : T → T) (gs : List Grp) : List (NestedKey × PyData) := gs.map fun g => ((h g.1).key, gD g)
/-- the groups' word: their firsts and all in them are of vs, their homes differ -/
structure GInv (vs : List T) (h : T → T) (gs : List Grp) : Prop where
  fst : ∀ g ∈ gs, g.1 ∈ vs
  all : ∀ g ∈ gs, ∀ t ∈ g.2, t ∈ vs
  nd : (gs.map fun g => h g.1).Nodup
theorem GInv.nil (vs : List T) (h : T → T) : GInv vs h [] := ⟨fun _ h => (by cases h), fun _ h => (by cases h), .nil⟩
theorem gstep_len (r : T → T → Bool) (gs : List Grp) (t : T) : (gstep r gs t).length ≤ gs.length + 1 := by
  unfold gstep
  split
  · rw [List.length_map]; omega
  · rw [List.length_append]; exact Nat.le_refl _
theorem gAll_len (r : T → T → Bool) (vs : List T) : (gAll r vs).length ≤ vs.length := by
  have go : ∀ (vs : List T) (gs : List Grp), (vs.foldl (gstep r) gs).length ≤ gs.length + vs.length := by
    intro vs
    induction vs with
    | nil => intro gs; exact Nat.le_refl _
    | cons t q ih =>
      intro gs
      have h1 := ih (gstep r gs t)
      have h2 := gstep_len r gs t
      rw [List.foldl_cons, List.length_cons]; omega
  have := go vs []
  simpa [gAll] using this
theorem gAll_glen (r : T → T → Bool) (vs : List T) : ∀ g ∈ gAll r vs, (g.1 :: g.2).length ≤ vs.length := by
  have go : ∀ (l : List T) (gs : List Grp) (n : Nat), (∀ g ∈ gs, (g.1 :: g.2).length ≤ n) → ∀ g ∈ l.foldl (gstep r) gs, (g.1 :: g.2).length ≤ n + l.length := by
    intro l
    induction l with
    | nil => intro gs n k; exact k
    | cons t q ih =>
      intro gs n k g hg
      have h1 := ih (gstep r gs t) (n + 1) (fun g hg => by
        unfold gstep at hg
        split at hg
        · obtain ⟨g0, h0, rfl⟩ := List.mem_map.mp hg
          have := k g0 h0
          split
          · show (g0.2 ++ [t]).length + 1 ≤ n + 1
            rw [List.length_append]
            have h2 : g0.2.length + 1 ≤ n := this
            simp only [List.length_cons, List.length_nil]; omega
          · omega
        · rcases List.mem_append.mp hg with hg | hg
          · have := k g hg; omega
          · rw [List.mem_singleton.mp hg]; show 0 + 1 ≤ n + 1; omega) g hg
      have e : (t :: q).length = q.length + 1 := rfl
      rw [e]; omega
  intro g hg
  have := go vs [] 0 (fun _ h => by cases h) g hg
  omega
theorem gAll_take (r : T → T → Bool) {vs : List T} {i : Nat} {t : T} (e : vs[i]? = some t) : gAll r (vs.take (i + 1)) = gstep r (gAll r (vs.take i)) t := by
  unfold gAll
  rw [List.take_add_one, e, List.foldl_append]; rfl
section
variable {vs : List T} {h : T → T} {gs : List Grp} {r : T → T → Bool}
theorem GInv.step (k : GInv vs h gs) (hr : ∀ a ∈ vs, ∀ b ∈ vs, r a b = decide (h a = h b)) {t : T} (ht : t ∈ vs) : GInv vs h (gstep r gs t) := by
  have hg : ∀ g ∈ gs, r g.1 t = decide (h g.1 = h t) := fun g hg => hr _ (k.fst g hg) _ ht
  unfold gstep
  split
  · refine ⟨fun g hg => ?_, fun g hg => ?_, ?_⟩
    · obtain ⟨g0, h0, rfl⟩ := List.mem_map.mp hg
      split <;> exact k.fst g0 h0
    · obtain ⟨g0, h0, rfl⟩ := List.mem_map.mp hg
      split
      · intro x hx
        rcases List.mem_append.mp hx with hx | hx
        · exact k.all g0 h0 x hx
        · rw [List.mem_singleton.mp hx]; exact ht
      · exact k.all g0 h0
    · rw [List.map_map]
      have : ((fun g : Grp => h g.1) ∘ fun g => if r g.1 t then (g.1, g.2 ++ [t]) else g) = fun g => h g.1 := by
        funext g
        show h (if r g.1 t then (g.1, g.2 ++ [t]) else g).1 = h g.1
        split <;> rfl
      rw [this]; exact k.nd
  · rename_i hn
    refine ⟨fun g hg => ?_, fun g hg => ?_, ?_⟩
    · rcases List.mem_append.mp hg with hg | hg
      · exact k.fst g hg
      · rw [List.mem_singleton.mp hg]; exact ht
    · rcases List.mem_append.mp hg with hg | hg
      · exact k.all g hg
      · rw [List.mem_singleton.mp hg]; intro x hx; cases hx
    · rw [List.map_append, List.nodup_append]
      refine ⟨k.nd, by simp, fun a ha b hb e => hn ?_⟩
      rw [List.map_cons, List.map_nil, List.mem_singleton] at hb
      obtain ⟨g, hg', e2⟩ := List.mem_map.mp ha
      rw [List.any_eq_true]
      refine ⟨g, hg', ?_⟩
      rw [hg g hg']
      exact decide_eq_true (e2.trans (e.trans hb))
theorem gks_get (k : GInv vs h gs) (hr : ∀ a ∈ vs, ∀ b ∈ vs, r a b = decide (h a = h b)) {t : T} (ht : t ∈ vs) :
    (gs.any (fun g => r g.1 t) = false ∧ nget (gks h gs) (h t).key = none) ∨ (gs.any (fun g => r g.1 t) = true ∧ ∃ g ∈ gs, h g.1 = h t ∧ nget (gks h gs) (h t).key = some (gD g)) := by
  have hg : ∀ g ∈ gs, r g.1 t = decide (h g.1 = h t) := fun g hg => hr _ (k.fst g hg) _ ht
  unfold nget
  cases e : (gks h gs).find? fun x => decide (x.1 = (h t).key) with
  | none =>
    refine .inl ⟨?_, rfl⟩
    rw [List.find?_eq_none] at e
    rw [Bool.eq_false_iff]
    intro q
    obtain ⟨g, hg', q⟩ := List.any_eq_true.mp q
    rw [hg g hg'] at q
    refine e _ (List.mem_map.mpr ⟨g, hg', rfl⟩) ?_
    rw [show h g.1 = h t from of_decide_eq_true q]; simp
  | some x =>
    have h1 := List.mem_of_find?_eq_some e
    have h2 : x.1 = (h t).key := by simpa using List.find?_some e
    obtain ⟨g, hg', rfl⟩ := List.mem_map.mp h1
    have h3 : h g.1 = h t := T.key_inj h2
    refine .inr ⟨List.any_eq_true.mpr ⟨g, hg', by rw [hg g hg']; exact decide_eq_true h3⟩, g, hg', h3, rfl⟩
theorem gks_put (k : GInv vs h gs) (hr : ∀ a ∈ vs, ∀ b ∈ vs, r a b = decide (h a = h b)) {t : T} (ht : t ∈ vs) {g : Grp} (hg : g ∈ gs) (e : h g.1 = h t) (hget : nget (gks h gs) (h t).key = some (gD g)) (any : gs.any (fun g => r g.1 t) = true) :
    nput (gks h gs) (h t).key (gD (g.1, g.2 ++ [t])) = gks h (gstep r gs t) := by
  unfold nput gstep
  rw [hget, if_pos any]
  show (gks h gs).map _ = _
  rw [List.map_map, gks, List.map_map]
  refine List.map_congr_left fun x hx => ?_
  show (if (h x.1).key = (h t).key then ((h x.1).key, gD (g.1, g.2 ++ [t])) else ((h x.1).key, gD x)) = ((h (if r x.1 t then (x.1, x.2 ++ [t]) else x).1).key, gD (if r x.1 t then (x.1, x.2 ++ [t]) else x))
  rw [hr _ (k.fst x hx) _ ht]
  by_cases q : h x.1 = h t
  · have : x = g := by
      have z := key_unique (l := gs.map fun g => (h g.1, g)) (x := (h x.1, x)) (y := (h g.1, g)) (by rw [List.map_map]; exact k.nd) (List.mem_map.mpr ⟨x, hx, rfl⟩) (List.mem_map.mpr ⟨g, hg, rfl⟩) (q.trans e.symm)
      exact congrArg Prod.snd z
    subst this
    rw [if_pos (by rw [q]), decide_eq_true q]; rfl
  · rw [if_neg (fun z => q (T.key_inj z)), decide_eq_false q]; rfl
theorem gks_new {t : T} (hget : nget (gks h gs) (h t).key = none) (any : gs.any (fun g => r g.1 t) = false) : nput (gks h gs) (h t).key (gD (t, [])) = gks h (gstep r gs t) := by
  unfold nput gstep
  rw [hget, any]
  show gks h gs ++ _ = gks h (gs ++ _)
  rw [gks, gks, List.map_append]; rfl
/-- in a row: as long as the first i are in -/
theorem GInv.fold (hr : ∀ a ∈ vs, ∀ b ∈ vs, r a b = decide (h a = h b)) : ∀ (l : List T) (gs : List Grp), (∀ t ∈ l, t ∈ vs) → GInv vs h gs → GInv vs h (l.foldl (gstep r) gs)
  | [], gs, _, k => k
  | t :: l, gs, m, k => GInv.fold hr l _ (fun x hx => m x (List.mem_cons_of_mem _ hx)) (k.step hr (m t List.mem_cons_self))
end
theorem gks_vals (h : T → T) (gs : List Grp) : (gks h gs).map (·.2) = gs.map gD := by rw [List.map_map]; rfl
theorem alike_encs : ∀ ts us : List T, alikeAll (ts.map T.enc) (us.map T.enc) = true
  | [], us => by cases us <;> simp [alikeAll]
  | t :: ts, [] => by simp [alikeAll]
  | t :: ts, u :: us => by simp [alikeAll, alike_enc, alike_encs ts us]
theorem gD_depth {g : Grp} {n : Nat} (h : ∀ t ∈ g.1 :: g.2, t.depth ≤ n) : (gD g).depth ≤ n + 1 := by
  show PyData.depthAll _ + 1 ≤ _
  have : ∀ l : List T, (∀ t ∈ l, t.depth ≤ n) → PyData.depthAll (l.map T.enc) ≤ n := by
    intro l
    induction l with
    | nil => intro _; exact Nat.zero_le _
    | cons t q ih =>
      intro h
      have h1 := ih fun x hx => h x (List.mem_cons_of_mem _ hx)
      have h2 := h t List.mem_cons_self
      show max t.enc.depth (PyData.depthAll (q.map T.enc)) ≤ n
      rw [T.enc_depth]; omega
  have := this _ h
  omega
theorem srt_groups {gs : List Grp} (h : ∀ g ∈ gs, ∀ t ∈ g.1 :: g.2, t.depth ≤ 8) : Srt (gs.map gD) := by
  refine ⟨fun d hd d' hd' => ?_, .inl fun d hd => ?_, fun d hd => ?_⟩
  · obtain ⟨g, hg, rfl⟩ := List.mem_map.mp hd
    obtain ⟨g', hg', rfl⟩ := List.mem_map.mp hd'
    show alikeAll _ _ = true
    exact alike_encs _ _
  · obtain ⟨g, hg, rfl⟩ := List.mem_map.mp hd
    exact ⟨g.1.enc, g.2.map T.enc, rfl⟩
  · obtain ⟨g, hg, rfl⟩ := List.mem_map.mp hd
    exact Nat.le_trans (gD_depth (h g hg)) (by decide)
/-- what groups tells -/
noncomputable def grpsD (E : List (T × T)) (us : List T) : List PyData := srtD ((gAll (congB E) (usT us)).map gD)
theorem grps_ok {E : List (T × T)} {us : List T} (h : ∀ t ∈ us, t.Ok ∧ t.depth ≤ 8) : SeqAt.shaped (.list (grpsD E us)) = true ∧ SeqAt.shaped (.tuple (grpsD E us)) = true ∧ plainD (.list (grpsD E us)) = true := by
  have mem : ∀ d ∈ grpsD E us, ∃ ts : List T, d = .tuple (ts.map T.enc) ∧ ∀ t ∈ ts, t.Ok ∧ t.depth ≤ 8 := fun d hd => by
    obtain ⟨g, hg, rfl⟩ := List.mem_map.mp (List.mem_mergeSort.mp hd)
    refine ⟨g.1 :: g.2, rfl, fun t ht => h t ?_⟩
    have all : ∀ g ∈ gAll (congB E) (usT us), ∀ t ∈ g.1 :: g.2, t ∈ usT us := by
      have go : ∀ (l : List T) (gs : List Grp), (∀ t ∈ l, t ∈ usT us) → (∀ g ∈ gs, ∀ t ∈ g.1 :: g.2, t ∈ usT us) → ∀ g ∈ l.foldl (gstep (congB E)) gs, ∀ t ∈ g.1 :: g.2, t ∈ usT us := by
        intro l
        induction l with
        | nil => intro gs _ k; exact k
        | cons x l ih =>
          intro gs m k
          refine ih _ (fun t ht => m t (List.mem_cons_of_mem _ ht)) fun g hg => ?_
          have hx := m x List.mem_cons_self
          unfold gstep at hg
          split at hg
          · obtain ⟨g0, h0, rfl⟩ := List.mem_map.mp hg
            split
            · intro t ht
              rcases List.mem_cons.mp ht with e | ht
              · exact k g0 h0 t (e ▸ List.mem_cons_self)
              · rcases List.mem_append.mp ht with ht | ht
                · exact k g0 h0 t (List.mem_cons_of_mem _ ht)
                · rw [List.mem_singleton.mp ht]; exact hx
            · exact k g0 h0
          · rcases List.mem_append.mp hg with hg | hg
            · exact k g hg
            · rw [List.mem_singleton.mp hg]
              intro t ht
              rw [List.mem_singleton.mp ht]; exact hx
      exact go _ [] (fun _ h => h) (fun _ h => by cases h)
    exact usT_mem.mp (all g hg t ht)
  have lay : ∀ l : List PyData, (∀ d ∈ l, ∃ ts : List T, d = .tuple (ts.map T.enc) ∧ ∀ t ∈ ts, t.Ok ∧ t.depth ≤ 8) → PyData.canLayAll0 l = true ∧ PyData.depthAll l ≤ 9 ∧ plainDs l = true := by
    intro l
    induction l with
    | nil => intro _; exact ⟨rfl, Nat.zero_le _, rfl⟩
    | cons d q ih =>
      intro k
      obtain ⟨h1, h2, h3⟩ := ih fun x hx => k x (List.mem_cons_of_mem _ hx)
      obtain ⟨ts, rfl, k2⟩ := k d List.mem_cons_self
      have c1 : PyData.canLayAll0 (ts.map T.enc) = true := canLay_list fun t ht => (k2 t ht).1
      have c2 : PyData.depthAll (ts.map T.enc) ≤ 8 := by
        clear k h1 h2 h3 c1
        induction ts with
        | nil => exact Nat.zero_le _
        | cons t r ih2 =>
          have h1 := ih2 fun x hx => k2 x (List.mem_cons_of_mem _ hx)
          have h2 := (k2 t List.mem_cons_self).2
          show max t.enc.depth _ ≤ 8
          rw [T.enc_depth]
          exact Nat.max_le.mpr ⟨h2, h1⟩
      have c3 : plainDs (ts.map T.enc) = true := by
        clear k h1 h2 h3 c1 c2 k2
        induction ts with
        | nil => rfl
        | cons t r ih2 => rw [List.map_cons, plainDs, plain_enc, ih2]; rfl
      refine ⟨?_, ?_, ?_⟩
      · rw [PyData.canLayAll0, h1, PyData.canLay0, c1]; rfl
      · show max (PyData.depthAll (ts.map T.enc) + 1) _ ≤ 9
        omega
      · rw [plainDs, h3, plainD, c3]; rfl
  obtain ⟨h1, h2, h3⟩ := lay _ mem
  refine ⟨shaped_mk (by rw [PyData.canLay0]; exact h1) ?_, shaped_mk (by rw [PyData.canLay0]; exact h1) ?_, by rw [plainD]; exact h3⟩
  · show PyData.depthAll _ + 1 ≤ 64
    omega
  · show PyData.depthAll _ + 1 ≤ 64
    omega
end SH
/-! SIt: reversed(tuple); told otherwise: the same. -/
namespace SH
open PySem PySem.Spec PyProof.Rows L2 PySem.W
section
variable {X : Cx} {S Sa : ASt} {tg e : Expr} {ds : List PyData} {p pos : Pos}
theorem it_revT (h : Ev X e S (.tuple ds) Sa) (hm : X.mg "reversed" = none) (hg : Gl X "reversed" := by rfl) (hs : starEach [e] X.env = (false, eval e X.env) :: starEach [] X.env := by exact star_plain rfl) : ItD X tg (.Call (.Name "reversed" p) [e] [] pos) S ds.reverse Sa := by
  refine ⟨_, RT.pi_revA hg hm (peW X e) hs, fun F H σ st R k => ?_⟩
  refine h.use st fun v F1 H1 p w => ?_
  cases w with
  | @tup a xs _ q r =>
    have hl := r.length
    refine ⟨a, xs, rfl, .inr ⟨.inl (Rd.same p.st.same q), k _ F1 H1 p ⟨fun F2 H2 i d s1 s2 e => ?_, fun F2 H2 s1 s2 => ?_⟩⟩⟩
    · have hi : i < ds.length := by
        have := (List.getElem?_eq_some_iff.mp e).1
        rwa [List.length_reverse] at this
      rw [List.getElem?_reverse hi] at e
      obtain ⟨v, h1, h2⟩ := r.get e
      have hq : SqT X.K H2 a xs := .inl (Rd.same (s1.trans s2) q)
      rw [← hl] at h1
      refine ⟨⟨by omega, xs, v, hq, h1⟩, fun x H' y => ?_⟩
      obtain ⟨rfl, y⟩ := y
      have := y xs hq
      rw [h1] at this; cases this
      exact ⟨F2, .inl ⟨rfl, rfl⟩, Da.mono s1 _ _ h2⟩
    · show xs.length ≤ ds.reverse.length
      rw [List.length_reverse, hl]; exact Nat.le_refl _
end
/-! ### told otherwise -/
theorem grps_ext {E E' : List (T × T)} (h : ∀ a b, congB E a b = congB E' a b) (us : List T) : grpsD E us = grpsD E' us := by
  have : congB E = congB E' := by funext a b; exact h a b
  unfold grpsD; rw [this]
theorem pl_ext {E E' : List (T × T)} (h : ∀ a b, congB E a b = congB E' a b) (t : T) : pl E t = pl E' t := by
  have hc : ∀ a b, Cong E a b ↔ Cong E' a b := fun a b => by rw [← congB_iff, ← congB_iff, h]
  have k := pl_of E t
  exact pl_fn ⟨(hc _ _).mp k.cg, k.hd, fun u hu c => k.min u hu ((hc _ _).mpr c)⟩
theorem nodup_len {α : Type} [DecidableEq α] : ∀ (l D : List α), l.Nodup → (∀ x ∈ l, x ∈ D) → l.length ≤ D.length
  | [], _, _, _ => Nat.zero_le _
  | x :: l, D, hn, hs => by
    obtain ⟨h1, h2⟩ := List.nodup_cons.mp hn
    have hx : x ∈ D := hs x List.mem_cons_self
    have ih := nodup_len l (D.erase x) h2 fun y hy => (List.mem_erase_of_ne fun e : y = x => h1 (e ▸ hy)).2 (hs y (List.mem_cons_of_mem _ hy))
    have e := List.length_erase_of_mem hx
    have hp : 0 < D.length := List.length_pos_of_mem hx
    rw [List.length_cons]; omega
theorem parts_le {us vs : List T} (h : ∀ u ∈ us, u ∈ parts vs) : (parts us).length ≤ (parts vs).length := nodup_len _ _ (parts_nodup us) fun t ht => by
  obtain ⟨u, hu, ht⟩ := parts_mem.mp ht
  obtain ⟨v, hv, hu2⟩ := parts_mem.mp (h u hu)
  refine parts_mem.mpr ⟨v, hv, ?_⟩
  have go : ∀ {v u t : T}, u ∈ v.all → t ∈ u.all → t ∈ v.all := fun {v} => by
    induction v with
    | t0 x => intro u t h ht; simp [T.all] at h; subst h; exact ht
    | t1 x a ih =>
      intro u t h ht
      simp only [T.all, List.mem_cons] at h
      rcases h with rfl | h
      · exact ht
      · simp only [T.all, List.mem_cons]; exact .inr (ih h ht)
    | t2 x a b ih ih2 =>
      intro u t h ht
      simp only [T.all, List.mem_cons, List.mem_append] at h
      rcases h with rfl | h | h
      · exact ht
      · simp only [T.all, List.mem_cons, List.mem_append]; exact .inr (.inl (ih h ht))
      · simp only [T.all, List.mem_cons, List.mem_append]; exact .inr (.inr (ih2 h ht))
  exact go hu2 ht
def atT {β : Type} (us : List T) (g : T → β) (z : β) (i : Nat) : β := ((us[i]?).map g).getD z
theorem fil_terms (q : T → Bool) (g : T → PyData) (us : List T) : ((us.map T.enc).zipIdx.filter fun x => atT us q false x.2).map (fun x => atT us g .none x.2) = (us.filter q).map g := by
  have go : ∀ (l : List T) (n : Nat), (∀ i, us[n + i]? = l[i]?) → (((l.map T.enc).zipIdx n).filter fun x => atT us q false x.2).map (fun x => atT us g .none x.2) = (l.filter q).map g := by
    intro l
    induction l with
    | nil => intro n _; rfl
    | cons t r ih =>
      intro n h
      have h0 := h 0
      have hr : ∀ i, us[n + 1 + i]? = r[i]? := fun i => by
        have := h (i + 1)
        rw [show n + (i + 1) = n + 1 + i by omega] at this
        rw [this]; rfl
      have e1 : atT us q false n = q t := by unfold atT; rw [show us[n]? = some t by simpa using h0]; rfl
      have e2 : atT us g .none n = g t := by unfold atT; rw [show us[n]? = some t by simpa using h0]; rfl
      rw [List.map_cons, List.zipIdx_cons, List.filter_cons, List.filter_cons]
      show List.map _ (if atT us q false n = true then _ else _) = _
      rw [e1]
      cases q t with
      | true =>
        rw [if_pos rfl, if_pos rfl, List.map_cons, List.map_cons, ih _ hr]
        show atT us g .none n :: _ = _
        rw [e2]
      | false => rw [if_neg Bool.false_ne_true, if_neg Bool.false_ne_true, ih _ hr]
  exact go us 0 fun i => by rw [Nat.zero_add]
end SH
/-! SIu: dicts whose keys are whole numbers or texts. -/
namespace SH
open PySem PySem.Spec PyProof.Rows L2 PySem.W
def kD : Key → PyData
  | .inl i => .int i
  | .inr x => .str x
def kget (kvs : List (Key × PyData)) (k : Key) : Option PyData := (kvs.find? fun x => decide (x.1 = k)).map (·.2)
def kput (kvs : List (Key × PyData)) (k : Key) (d : PyData) : List (Key × PyData) := if (kvs.any fun x => decide (x.1 = k)) = true then kvs.map (fun x => if x.1 = k then (x.1, d) else x) else kvs ++ [(k, d)]
abbrev EntK (F : Hp) (a : Key × PyData) (b : Key × V) : Prop := a.1 = b.1 ∧ Da F b.2 a.2
theorem da_key {F : Hp} {v : V} {k : Key} (h : Da F v (kD k)) : v = kV k := by
  cases k with
  | inl i => exact (show v = .int i by cases h; rfl)
  | inr x => exact (show v = .str x by cases h; rfl)
theorem kget_at {F : Hp} (k : Key) : ∀ {kvs : List (Key × PyData)} {ws : List (Key × V)}, Paired (EntK F) kvs ws → (kget kvs k = none ∧ valV ws k = none) ∨ ∃ d v, kget kvs k = some d ∧ valV ws k = some v ∧ Da F v d
  | _, _, .nil => .inl ⟨rfl, rfl⟩
  | (a, d) :: kvs, (b, v) :: ws, .cons r rs => by
    obtain ⟨e, h⟩ := r
    have e : a = b := e
    subst e
    by_cases q : a = k
    · exact .inr ⟨d, v, by simp [kget, q], by simp [valV, q], h⟩
    · have e1 : kget ((a, d) :: kvs) k = kget kvs k := by simp [kget, List.find?_cons, q]
      have e2 : valV ((a, v) :: ws) k = valV ws k := by simp [valV, List.find?_cons, q]
      rw [e1, e2]; exact kget_at k rs
theorem kput_pair {F : Hp} {k : Key} {d : PyData} {v : V} (hd : Da F v d) {kvs : List (Key × PyData)} {ws : List (Key × V)} (r : Paired (EntK F) kvs ws) : Paired (EntK F) (kput kvs k d) (putK ws k v) := by
  have any : (kvs.any fun x => decide (x.1 = k)) = ws.any fun x => decide (x.1 = k) := by
    induction r with
    | nil => rfl
    | cons h _ ih => rw [List.any_cons, List.any_cons, ih, h.1]
  have mp : Paired (EntK F) (kvs.map fun x => if x.1 = k then (x.1, d) else x) (ws.map fun x => if x.1 = k then (x.1, v) else x) := by
    clear any
    induction r with
    | nil => exact .nil
    | @cons a b _ _ h _ ih =>
      rw [List.map_cons, List.map_cons]
      refine .cons ?_ ih
      obtain ⟨h1, h2⟩ := h
      by_cases q : a.1 = k
      · rw [if_pos q, if_pos (h1.symm.trans q)]; exact ⟨h1, hd⟩
      · rw [if_neg q, if_neg (fun z => q (h1.trans z))]; exact ⟨h1, h2⟩
  have ap : Paired (EntK F) (kvs ++ [(k, d)]) (ws ++ [(k, v)]) := by
    clear any mp
    induction r with
    | nil => exact .cons ⟨rfl, hd⟩ .nil
    | cons h _ ih => exact .cons h ih
  unfold kput putK
  rw [any]
  split
  · exact mp
  · exact ap
theorem keysK_eq {F : Hp} {kvs : List (Key × PyData)} {ws : List (Key × V)} (r : Paired (EntK F) kvs ws) : (kvs.map fun x => kD x.1) = ws.map fun x => kD x.1 := by
  induction r with
  | nil => rfl
  | cons h _ ih => rw [List.map_cons, List.map_cons, ih, h.1]
theorem kput_len (kvs : List (Key × PyData)) (k : Key) (d : PyData) : (kput kvs k d).length ≤ kvs.length + 1 := by
  unfold kput
  split
  · rw [List.length_map]; omega
  · rw [List.length_append]; exact Nat.le_refl _
section
variable {X : Cx} {F H : Hp} {σ : L2.St} {S S1 S2 : ASt} {a b e o i : Expr} {es : List Expr} {d : PyData} {pos pos' np : Pos} {p : Addr} {kvs : List (Key × PyData)} {k : Key}
theorem own_dK {v : V} (o : XOwn X F H v (.dK p kvs)) : v = .ref p ∧ ∃ ws, H p = some (.dK ws) ∧ Paired (EntK F) kvs ws := by
  cases o with
  | dK q r => exact ⟨rfl, _, q, r⟩
/-- d[k], there -/
theorem ev_getK (hu : X.A.units + 64 < cLine) (ho : EvR X o S (.dK p kvs) S) (hi : Ev X i S (kD k) S) (hh : Has S (.dK p kvs)) (hg : kget kvs k = some d) (hs : NoSl i := by intro _ _; rfl) : Ev X (.Subscript o i pos) S d S := by
  refine .ofPE (pe_dget (by omega) (peW X o) (peW X i) hs) fun F H σ st Q q => ?_
  refine ho F H σ st _ fun v F1 H1 s1 => hi.use s1.st fun u F2 H2 p2 w2 => ?_
  obtain ⟨rfl, _⟩ := own_dK s1.own
  obtain ⟨v2, o2⟩ := hh.own p2.st
  obtain ⟨_, ws, t, r⟩ := own_dK o2
  rcases kget_at k r with ⟨h1, _⟩ | ⟨d', z, h1, h2, h3⟩
  · rw [hg] at h1; cases h1
  · rw [hg] at h1; cases h1
    refine ⟨p, z, rfl, ?_, q z F2 H2 (s1.stp.trans p2) h3⟩
    rw [da_key w2, ← h2]; exact .k t
/-- k in d -/
theorem inK_core (hu : X.A.units + 64 < cLine) (ha : Ev X a S (kD k) S) (hb : EvR X b S (.dK p kvs) S) : ∀ F H σ, XOk X F H σ S → ∀ Q : VK, (∀ F' H', Stp X.prog X.w F H S F' H' σ S → Q (.bl (kget kvs k).isSome) H') →
    tDIn (fun σ H Q => WPe X a σ H Q) (fun σ H Q => WPe X b σ H Q) σ H Q := fun F H σ st Q q => by
  refine ha.use st fun v F1 H1 p1 w1 => hb F1 H1 σ p1.st _ fun u F2 H2 s2 => ?_
  obtain ⟨rfl, ws, t, r⟩ := own_dK s2.own
  have e : (valV ws k).isSome = (kget kvs k).isSome := by
    rcases kget_at k r with ⟨h1, h2⟩ | ⟨_, _, h1, h2, _⟩ <;> rw [h1, h2] <;> rfl
  refine ⟨p, valV ws k, rfl, by rw [da_key w1]; exact .k t, ?_⟩
  rw [e]
  exact q F2 H2 (p1.trans s2.stp)
/-- d[k] = v -/
theorem s_setK {value : Expr} {D : AE} {S' : ASt} (hu : X.A.units + 64 < cLine) (hv : Ev X value S d S1) (ho : EvR X o S1 (.dK p kvs) S1) (hi : Ev X i S1 (kD k) S1) (pl : Place S1 (.dK p kvs) (.dK p (kput kvs k d)) S') (q : D.nx S') (hz : kvs.length < sizeLine)
    (hs : swapsWith value (some (.Subscript o i pos')) pos.line X.env = pure false := by rfl) : SH.S1 X (.Assign [.Subscript o i pos'] value pos) S D := fun F H σ st D' kk => by
  refine (ps_dput (by omega) (peW X o) (peW X i) (peW X value) hs).wp ?_
  refine hv.use st fun v F1 H1 p1 w1 => ho F1 H1 σ p1.st _ fun u F2 H2 s2 => hi.use s2.st fun y F3 H3 p3 w3 => ?_
  obtain ⟨rfl, _⟩ := own_dK s2.own
  obtain ⟨v2, o2⟩ := pl.has.own p3.st
  obtain ⟨_, ws, t, r⟩ := own_dK o2
  have hl := Paired.length r
  have wv := Da.mono p3.aft.ff _ _ (Da.mono s2.aft.ff _ _ w1)
  have pp := (p1.thn s2.stp).thn p3
  refine ⟨p, upd H3 p (.dK (putK ws k v)), rfl, by rw [da_key w3]; exact .k t (by omega), ?_⟩
  refine kk.nx σ F3 _ _ (pp.thn (pl.poke p3.st (by simp [foot]) (fun b => by simp [foot]) (by simp [foot]) fun z oz => ?_)) q
  obtain ⟨rfl, ws', t', r'⟩ := own_dK oz
  rw [t] at t'; cases t'
  exact .dK upd_same (kput_pair wv r)
/-- sorted(d), a dict's keys -/
theorem call_sortedK (hu : X.A.units + 64 < cLine) (hh : X.A.handled = none) : CallR X (.builtin "sorted") (fun vs H Q => ∃ (F : Hp) (q : Addr) (ws : List (Key × V)), Same F H ∧ vs = [.ref q] ∧ H q = some (.dK ws) ∧ Srt (ws.map fun x => kD x.1) ∧
    ∀ D us, H D = none → Das F us (srtD (ws.map fun x => kD x.1)) → Q (.ref D) (upd H D (.lst us))) := by
  intro pins s σ H vs us Q I r h
  obtain ⟨F, q, ws, sm, rfl, hq, so, k⟩ := h
  obtain ⟨u, rfl, ru⟩ := vals1 r
  cases (show u = Value.ref q from ru)
  obtain ⟨z, hsys, vs, kv, hd⟩ := dk_of I.hok hq
  obtain ⟨es, ep, raw, hsz, hkey⟩ := hd.raw
  have hl := KV.length kv
  refine wp_sorted (src_keys (es := es) (ep := ep) hsys) hh raw (by rw [hsz, ← hl]; exact z) (R := RelD F) (ds := ws.map fun x => kD x.1) (fun acc hlen hp => ?_) (fun v d h => reld_reads I sm h) so.al so.so (srt_units hu so) fun h' tk D out c keep hD hat hol ho => ?_
  · refine each_of (by rw [hlen, hsz, List.length_map, hl]) fun j v d ej ed => ?_
    obtain ⟨hj, rfl⟩ := hp j v ej
    rw [List.getElem?_map] at ed
    obtain ⟨x, ex, rfl⟩ := Option.map_eq_some_iff.mp ed
    have hks := KV.keys kv
    have e1 : (vs.map (·.1))[j]? = some x.1 := by rw [← hks, List.getElem?_map, ex]; rfl
    rw [List.getElem?_map] at e1
    obtain ⟨y, ey, e2⟩ := Option.map_eq_some_iff.mp e1
    have hk := (hkey j hj y.1 y.2 ey).1
    rw [e2] at hk
    cases hx : x.1 with
    | inl n =>
      rw [hx] at hk
      obtain ⟨t, e3⟩ := Value.isInt_shape (show Value.isInt n es[j].key = true from hk)
      rw [e3]
      exact ⟨.int n, ⟨t, rfl⟩, .int n⟩
    | inr y2 =>
      rw [hx] at hk
      obtain ⟨t, e3⟩ := Value.isStrOf_shape (show Value.isStrOf y2 es[j].key = true from hk)
      rw [e3]
      exact ⟨.str y2, ⟨t, rfl⟩, .str y2⟩
  · obtain ⟨us, hv, hw⟩ := each_vals ho
    have hz : us.length ≤ sizeLine := by rw [hv.length, hol, List.length_map]; exact z
    exact ⟨.ref D, _, inv_list I keep hD hat hv hz, rfl, k D us (I.hok.fresh hD) hw⟩
theorem evo_sortedK (hu : X.A.units + 64 < cLine) (hh : X.A.handled = none) (ho : EvR X e S (.dK p kvs) S) (so : Srt (kvs.map fun x => kD x.1)) (hm : X.mg "sorted" = none) (hg : Gl X "sorted" := by rfl) (he : starEach [e] X.env = (false, eval e X.env) :: starEach [] X.env := by exact star_plain rfl) (hpl : (backTo pos (starEach [] X.env)).any (·.1) = false := by exact back_plain rfl) :
    EvO X (.Call (.Name "sorted" np) [e] [] pos) S (fun p => .lst p (srtD (kvs.map fun x => kD x.1))) S := fun F H σ st Q q => by
  refine (pe_callB (call_sortedK hu hh) hg hm boot_sorted (pa_cons (peW X e) pa_nil he) (by decide) (by decide) he hpl).wp ?_
  refine ho F H σ st _ fun v F1 H1 s1 => ?_
  obtain ⟨rfl, ws, t, r⟩ := own_dK s1.own
  have ek := keysK_eq r
  refine ⟨F1, p, ws, s1.st.same, rfl, t, by rw [← ek]; exact so, fun D us hD hw => ?_⟩
  rw [← ek] at hw
  exact q _ _ _ _ S (Got.made s1.stp hD rfl (.lst upd_same hw)) ⟨⟨D, rfl⟩, rfl⟩
end
/-! ### whole numbers in order -/
theorem srt_ints (is : List Int) : Srt (is.map PyData.int) := by
  refine ⟨AllAlike.of fun a b => rfl, .inr fun d hd => ?_, fun d hd => ?_⟩
  · obtain ⟨i, _, rfl⟩ := List.mem_map.mp hd
    exact ⟨(by intro z; cases z), fun xs => (by intro z; cases z)⟩
  · obtain ⟨i, _, rfl⟩ := List.mem_map.mp hd
    exact Nat.zero_le _
end SH
/-! SIv: sorted(set(whole numbers)). -/
namespace SH
open PySem PySem.Spec PyProof.Rows L2 PySem.W
section
variable {P : Program} {w : World} {A : Around} {E : Value → Shared → Prop} {s : Shared}

set_option maxRecDepth 100000 in
set_option maxHeartbeats 3200000 in
/-- set(xs), xs a list -/
theorem call_setI_list {l : Addr} {items : Array Value} (ks : List Int) {Q : Value → Shared → Prop} (hh : A.handled = none) (hl : s.heap.IsList l items) (hit : IntsAre items.toList ks) (hfew : ks.length + 1 < scanBound)
    (h : ∀ (h' : Heap) (tk c : Nat), SetR w h' s.heap.objs.size (fun j => decide (j ∈ ks)) c → c ≤ ks.length → (∀ b o, s.heap.get? b = some o → h'.get? b = some o) → Q (.ref s.heap.objs.size) { s with heap := h', toks := tk }) :
    wpAny (model P w) A (call (.type "set") [.ref l]) Q E s := by
  have hisz : items.size = ks.length := by
    have q := IntsAre.length hit
    rwa [Array.length_toList] at q
  obtain ⟨c, tl, hmro⟩ := F.called_set.mro
  have hmade := F.called_set.made
  have hsub := F.called_set.sub
  refine wpAny_call (codeAny_of_tree ?_)
  show wpAny _ _ (callAny (.type "set") _) _ _ _
  refine wpAny_pure ⟨Code.quiet_builtin _ (by decide +kernel), codeAny_builtin F.entry_type_call ?_⟩
  rw [Around.under_plain (weight_type_call_type "set" [.ref l] []) rfl]
  have h1 := F.called_set.notType
  have h2 := F.called_set.canCreate
  have hct := F.typeCall_set_1 (.ref l)
  repeat (any_goals (first | assumption | wp_step))
  refine codeAny_mono (code_set_led1 (.ref l) (E := E) (Q₁ := fun obj s₁ => obj = .ref s.heap.objs.size ∧ s₁ = { s with heap := s.heap.push (newSetO w) }) ⟨rfl, rfl⟩) fun r s₁ hr => ?_
  cases r with
  | error e => exact hr
  | ok fl =>
    cases fl with
    | ret obj =>
      obtain ⟨rfl, rfl⟩ := hr
      have hS : (s.heap.push (newSetO w)).get? s.heap.objs.size = some (newSetO w) := Heap.get?_push_size _ rfl
      have hT : Shared.TypeIs { s with heap := s.heap.push (newSetO w) } (.ref s.heap.objs.size) "set" := ⟨_, hS, rfl⟩
      have hli := F.called_set.init.lookup
      have hbi := F.called_set.init.bind (.ref s.heap.objs.size)
      repeat (any_goals (first | assumption | wp_step))
      refine codeAny_mono (codeAny_call_builtin (R := wants (fun r s₂ => r = .none ∧ ∃ h' tk c, s₂ = { s with heap := h', toks := tk } ∧ SetR w h' s.heap.objs.size (fun j => decide (j ∈ ks)) c ∧ c ≤ ks.length ∧
          (∀ b o, s.heap.get? b = some o → h'.get? b = some o)) E) F.called_set.init.plain F.entry_set_init (check_set_init_1 hT ?_)) fun r₂ s₂ hr₂ => ?_
      · obtain ⟨ol, hol, hcl, nl, hdl⟩ := hl
        obtain ⟨ocls, odict, odata, oslots⟩ := ol
        simp only at hcl hdl
        subst hcl; subst hdl
        have hol' : (s.heap.push (newSetO w)).get? l = some { cls := .type "list", dict := odict, data := .seq items nl, slots := oslots } := Heap.get?_push_of_some _ hol
        have hsls := F.sub_list_set
        have hslf := F.sub_list_frozenset
        have hne : (Value.type "list" == Value.type "dict") = false := by decide
        have hl1 : (s.heap.push (newSetO w)).IsList l items := ⟨_, hol', rfl, nl, rfl⟩
        unfold Builtin.«set.__init__» noKeywords Builtin.Frozenset.updateFrom
        generalize hPI : pyIter = PI
        wp_walk
        subst hPI
        refine wpAny_pyIter_list hl1 ?_
        refine wpAny_bind (wpAny_runValue ?_)
        have hlS : l < s.heap.objs.size := Heap.lt_size hol
        have hh3 : A.in1.in1.in1.handled = none := by simp [hh]
        have hz1 : (s.heap.push (newSetO w)).objs.size = s.heap.objs.size + 1 := Heap.size_push ..
        have hneI : l ≠ (s.heap.push (newSetO w)).objs.size := by
          rw [Heap.size_push]; exact Nat.ne_of_lt (Nat.lt_succ_of_lt hlS)
        have hSf : s.heap.objs.size ∉ [(s.heap.push (newSetO w)).objs.size, l] := by
          rw [Heap.size_push]; simp only [List.mem_cons, List.mem_singleton, List.not_mem_nil, or_false, not_or]
          exact ⟨Nat.ne_of_lt (Nat.lt_succ_self _), Nat.ne_of_gt hlS⟩
        have hval : ∀ (i : Nat) (v : Value), items[i]? = some v → ∃ k t, ks[i]? = some k ∧ v = .int k t := fun i v hv => by
          have hi : i < ks.length := by rw [← hisz]; exact (Array.getElem?_eq_some_iff.mp hv).1
          obtain ⟨t, e⟩ := PyProof.Rows.IntsAre.int_at hit i v (by rw [Array.getElem?_toList]; exact hv)
          refine ⟨ks[i], t, List.getElem?_eq_getElem hi, ?_⟩
          rw [e, List.getD_eq_getElem?_getD, List.getElem?_eq_getElem hi] <;> rfl
        refine set_update_ints ((Walks.list hh3 _ l hneI items).toS) s.heap.objs.size hSf ks hisz hfew hval (items.size - 0) 0 _ (by omega) (Nat.zero_le _)
          ⟨⟨_, Heap.get?_push_size _ rfl, rfl, rfl⟩, (hl1.push _)⟩ ⟨0, Nat.le_refl 0, setR_new_at (Heap.get?_push_of_some _ hS)⟩ ?hR
        case hR =>
          intro s' c' hm hc' hS'
          obtain ⟨h', g2, d', tk', os'⟩ := s'
          have eg : g2 = s.gens := hm.gens
          have ed : d' = s.drawn := hm.drawn
          have eo : os' = s.os := hm.os
          subst eg; subst ed; subst eo
          show wpAny _ _ _ _ _ _
          refine wpAny_pure ?_
          show wpAny _ _ (ret Value.none) _ _ _
          rw [hisz] at hc'
          refine wpAny_pure ⟨rfl, h', tk', c', rfl, hS', hc', fun b o e => ?_⟩
          have hb0 : b < s.heap.objs.size := Heap.lt_size e
          refine hm.heap b o ?_ (Heap.get?_push_of_some _ (Heap.get?_push_of_some _ e))
          simp only [List.mem_cons, List.mem_singleton, List.not_mem_nil, or_false, not_or]
          exact ⟨Nat.ne_of_lt hb0, by rw [Heap.size_push]; exact Nat.ne_of_lt (Nat.lt_succ_of_lt hb0)⟩
      · cases r₂ with
        | error e => exact hr₂
        | ok fl₂ =>
          cases fl₂ with
          | ret r =>
            obtain ⟨rfl, h', tk, c', rfl, hS', g', hk'⟩ := hr₂
            repeat (any_goals (first | assumption | wp_step))
            exact h _ _ _ hS' g' hk'
          | _ => exact hr₂.elim
    | _ => exact hr.elim
end
section
variable {X : Cx} {F H : Hp} {σ : L2.St} {S S1 : ASt} {e : Expr} {pos pos' np np' : Pos}
theorem ints_are {F : Hp} : ∀ {is : List Int} {xs : List V} {us : List Value}, Vals xs us → Das F xs (is.map PyData.int) → IntsAre us is
  | [], _, _, r, h => by cases h; cases r; exact .nil
  | i :: is, _, _, r, h => by
    cases h with
    | cons h1 h2 =>
      cases r with
      | cons r1 r2 =>
        cases h1
        obtain ⟨t, rfl⟩ := (show ∃ t, _ = Value.int i t from r1)
        exact .cons i t (ints_are r2 h2)
theorem call_setI (hc : X.calm = true) : CallR X (.type "set") (fun vs H Q => ∃ (F : Hp) (l : Addr) (xs : List V) (is : List Int), Same F H ∧ vs = [.ref l] ∧ Rd H l (.lst xs) ∧ Das F xs (is.map PyData.int) ∧ is.length < 64 ∧
    ∀ (D : Addr) (c : Nat), H D = none → c ≤ is.length → Q (.ref D) (upd H D (SetO X.w D (fun j => decide (j ∈ is)) c))) := by
  intro pins s σ H vs us Q I r h
  obtain ⟨F, l, xs, is, sm, rfl, hq, w, hf, k⟩ := h
  obtain ⟨u, rfl, ru⟩ := vals1 r
  cases (show u = Value.ref l from ru)
  obtain ⟨_, its, n, rv, e1⟩ := hq.ok I.hok
  refine call_setI_list (P := X.prog) (w := X.w) (items := its.toArray) is (I.ok.hd hc) ⟨_, e1, rfl, n, rfl⟩ (by simpa using ints_are rv w) (by unfold scanBound; omega) fun h' tk c R hcl keep => ?_
  exact ⟨.ref _, _, I.laid (t' := tk) keep (Nat.le_refl _) (setO_new R), rfl, k _ c (I.hok.fresh (Nat.le_refl _)) hcl⟩
theorem das_intsV {F : Hp} : ∀ ns : List Int, Das F (ns.map V.int) (ns.map PyData.int)
  | [] => .nil
  | n :: r => .cons (.int n) (das_intsV r)
/-- sorted(set(e)), e a list of whole numbers -/
theorem evo_sortedSetI {is vs : List Int} (hc : X.calm = true) (he' : Ev X e S (.list (is.map PyData.int)) S1) (hf : is.length < 64) (hv : vs.Pairwise (· < ·)) (hm' : ∀ i, i ∈ vs ↔ i ∈ is)
    (hm : X.mg "sorted" = none) (hm2 : X.mg "set" = none) (hg : Gl X "sorted" := by rfl) (hg2 : Gl X "set" := by rfl)
    (he : starEach [e] X.env = (false, eval e X.env) :: starEach [] X.env := by exact star_plain rfl) (hes : starEach [Expr.Call (.Name "set" np') [e] [] pos'] X.env = (false, eval (Expr.Call (.Name "set" np') [e] [] pos') X.env) :: starEach [] X.env := by exact star_plain rfl) (hpl : (backTo pos (starEach [] X.env)).any (·.1) = false := by exact back_plain rfl) (hpl2 : (backTo pos' (starEach [] X.env)).any (·.1) = false := by exact back_plain rfl) :
    EvO X (.Call (.Name "sorted" np) [.Call (.Name "set" np') [e] [] pos'] [] pos) S (fun p => .lst p (vs.map PyData.int)) S1 := fun F H σ st Q q => by
  refine (pe_callB (cr_sortedSet hc) hg hm boot_sorted (pa_cons (pe_callTy (call_setI hc) hg2 hm2 (by decide +kernel) (pa_cons (peW X e) pa_nil he) (by decide) (by decide) he hpl2) pa_nil hes) (by decide) (by decide) hes hpl).wp ?_
  refine he'.use st fun v F1 H1 p1 w1 => ?_
  cases w1 with
  | @lst l us _ ql wl =>
    refine ⟨F1, l, us, is, p1.st.same, rfl, Rd.same p1.st.same ql, wl, hf, fun D c hD hcl => ?_⟩
    have p2 := p1.trans ⟨p1.st.laid (o := SetO X.w D (fun j => decide (j ∈ is)) c) hD, .laid hD, .refl⟩
    refine ⟨D, _, c, rfl, upd_same, by omega, fun ns D2 hp hmem hl hD2 => ?_⟩
    have e : ns = vs := sorted_ext (lt := fun a b : Int => a < b) (fun a => Int.lt_irrefl a) (fun _ _ _ h1 h2 => Int.lt_trans h1 h2) hp hv fun i => by rw [hmem i, decide_eq_true_iff, hm' i]
    rw [e]
    exact q _ _ _ _ S1 (Got.made p2 hD2 rfl (.lst upd_same (das_intsV vs))) ⟨⟨D2, rfl⟩, rfl⟩
end
end SH
/-! SIw: x in a tuple; ways. -/
namespace SH
open PySem PySem.Spec PyProof.Rows L2 PySem.W
section
variable {X : Cx} {d : PyData}
theorem op_inTD (hu : X.A.units + 65 < cLine) : OpR X (compareOp .In) (fun x y H Q => ∃ d ds, Dp X.K H x d ∧ Dp X.K H y (.tuple ds) ∧ SeqAt.shaped d = true ∧ SeqAt.shaped (.tuple ds) = true ∧ Q (.bl (ds.any fun z => PyData.eqv z d)) H) := by
  intro pins s σ H x y v u Q I rx ry h
  obtain ⟨d, ds, hd, he, sd, se, q⟩ := h
  obtain ⟨as, r1⟩ := Dp.reads I d x v hd rx
  obtain ⟨bs, r2⟩ := Dp.reads I (.tuple ds) y u he ry
  exact SeqAt.in_tuple_reads r2 r1 (SeqAt.canLay_of_shaped se) (SeqAt.canLay_of_shaped sd) (room_in_shaped sd hu) ⟨.bl _, H, I, rfl, q⟩
theorem op_notInTD (hu : X.A.units + 65 < cLine) : OpR X (compareOp .NotIn) (fun x y H Q => ∃ d ds, Dp X.K H x d ∧ Dp X.K H y (.tuple ds) ∧ SeqAt.shaped d = true ∧ SeqAt.shaped (.tuple ds) = true ∧ Q (.bl (!ds.any fun z => PyData.eqv z d)) H) := by
  intro pins s σ H x y v u Q I rx ry h
  obtain ⟨d, ds, hd, he, sd, se, q⟩ := h
  obtain ⟨as, r1⟩ := Dp.reads I d x v hd rx
  obtain ⟨bs, r2⟩ := Dp.reads I (.tuple ds) y u he ry
  exact SeqAt.notIn_tuple_reads r2 r1 (SeqAt.canLay_of_shaped se) (SeqAt.canLay_of_shaped sd) (room_in_shaped sd hu) ⟨.bl _, H, I, rfl, q⟩
theorem o_inT {ds : List PyData} (hu : X.A.units + 65 < cLine) (s1 : SeqAt.shaped d = true) (s2 : SeqAt.shaped (.tuple ds) = true) : OpD X (compareOp .In) d (.tuple ds) (.bool (ds.any fun z => PyData.eqv z d)) :=
  ⟨_, op_inTD hu, fun F H σ S v u st h1 h2 Q k => ⟨d, ds, Da.dp _ _ (Da.mono st.same _ _ h1), Da.dp _ _ (Da.mono st.same _ _ h2), s1, s2, k _ F H (.refl st) (.bl _)⟩⟩
theorem o_notInT {ds : List PyData} (hu : X.A.units + 65 < cLine) (s1 : SeqAt.shaped d = true) (s2 : SeqAt.shaped (.tuple ds) = true) : OpD X (compareOp .NotIn) d (.tuple ds) (.bool (!ds.any fun z => PyData.eqv z d)) :=
  ⟨_, op_notInTD hu, fun F H σ S v u st h1 h2 Q k => ⟨d, ds, Da.dp _ _ (Da.mono st.same _ _ h1), Da.dp _ _ (Da.mono st.same _ _ h2), s1, s2, k _ F H (.refl st) (.bl _)⟩⟩
end
/-! ### ways -/
inductive Sp where
  | told (k s : Nat)
  | parts (ws : List (List Sp))
abbrev Wy := List Sp
mutual
def Sp.enc : Sp → PyData
  | .told k s => .tuple [.str "told", .int (k : Nat), .int (s : Nat)]
  | .parts ws => .tuple [.str "parts", .tuple (encWs ws)]
def encW : List Sp → List PyData
  | [] => []
  | s :: r => s.enc :: encW r
def encWs : List (List Sp) → List PyData
  | [] => []
  | w :: r => .tuple (encW w) :: encWs r
end
theorem encW_map (w : Wy) : encW w = w.map Sp.enc := by
  induction w with
  | nil => simp [encW]
  | cons s r ih => rw [encW, ih]; rfl
theorem encWs_map (ws : List Wy) : encWs ws = ws.map fun w => .tuple (encW w) := by
  induction ws with
  | nil => simp [encWs]
  | cons w r ih => rw [encWs, ih]; rfl
mutual
def Sp.dep : Sp → Nat
  | .told _ _ => 1
  | .parts ws => depWs ws + 1
def depW : List Sp → Nat
  | [] => 0
  | s :: r => max s.dep (depW r)
def depWs : List (List Sp) → Nat
  | [] => 0
  | w :: r => max (depW w) (depWs r)
end
theorem depW_mem {w : Wy} {s : Sp} (h : s ∈ w) : s.dep ≤ depW w := by
  induction w with
  | nil => cases h
  | cons x r ih =>
    rw [depW]
    rcases List.mem_cons.mp h with rfl | h
    · omega
    · have := ih h; omega
theorem depWs_mem {ws : List Wy} {w : Wy} (h : w ∈ ws) : depW w ≤ depWs ws := by
  induction ws with
  | nil => cases h
  | cons x r ih =>
    rw [depWs]
    rcases List.mem_cons.mp h with rfl | h
    · omega
    · have := ih h; omega
/-! steps that can be taken, with n pairs told -/
mutual
def Sp.Good (n : Nat) : Sp → Prop
  | .told k s => k < n ∧ s < 2
  | .parts ws => goodWs n ws
def goodW (n : Nat) : List Sp → Prop
  | [] => True
  | s :: r => s.Good n ∧ goodW n r
def goodWs (n : Nat) : List (List Sp) → Prop
  | [] => True
  | w :: r => goodW n w ∧ goodWs n r
end
theorem goodW_mem {n : Nat} {w : Wy} (h : goodW n w) : ∀ s ∈ w, s.Good n := by
  induction w with
  | nil => intro s hs; cases hs
  | cons x r ih =>
    rw [goodW] at h
    intro s hs
    rcases List.mem_cons.mp hs with rfl | hs
    · exact h.1
    · exact ih h.2 s hs
theorem goodWs_mem {n : Nat} {ws : List Wy} (h : goodWs n ws) : ∀ w ∈ ws, goodW n w := by
  induction ws with
  | nil => intro s hs; cases hs
  | cons x r ih =>
    rw [goodWs] at h
    intro s hs
    rcases List.mem_cons.mp hs with rfl | hs
    · exact h.1
    · exact ih h.2 s hs
/-- a term with other parts -/
def T.re : T → List T → T
  | .t1 h _, [a] => .t1 h a
  | .t2 h _ _, [a, b] => .t2 h a b
  | t, _ => t
def sideOf (p : T × T) (s : Nat) : T := if s = 0 then p.1 else p.2
mutual
def stepS (E : List (T × T)) : Sp → T → Option T
  | .told k s, t => match E[k]? with
    | some p => if sideOf p s = t then some (sideOf p (1 - s)) else none
    | none => none
  | .parts ws, t => if ws.length = t.ps.length then (if none ∈ eachS E ws t.ps then none else some (t.re ((eachS E ws t.ps).filterMap id))) else none
def leadsS (E : List (T × T)) : List Sp → T → Option T
  | [], t => some t
  | s :: w, t => match stepS E s t with
    | none => none
    | some u => leadsS E w u
def eachS (E : List (T × T)) : List (List Sp) → List T → List (Option T)
  | w :: ws, p :: ps => leadsS E w p :: eachS E ws ps
  | _, _ => []
end
theorem eachS_len (E : List (T × T)) : ∀ (ws : List Wy) (ps : List T), ws.length = ps.length → (eachS E ws ps).length = ws.length
  | [], _, _ => by simp [eachS]
  | w :: ws, [], h => by simp at h
  | w :: ws, p :: ps, h => by rw [eachS, List.length_cons, List.length_cons, eachS_len E ws ps (by simpa using h)]
/-- what is no None is a term -/
theorem somes {l : List (Option T)} (h : none ∉ l) : ∃ ts : List T, l = ts.map some ∧ l.filterMap id = ts := by
  induction l with
  | nil => exact ⟨[], rfl, rfl⟩
  | cons o r ih =>
    cases o with
    | none => exact absurd List.mem_cons_self h
    | some t =>
      obtain ⟨ts, e1, e2⟩ := ih fun k => h (List.mem_cons_of_mem _ k)
      exact ⟨t :: ts, by rw [e1]; rfl, by show (match id (some t) with | none => r.filterMap id | some b => b :: r.filterMap id) = _; rw [e2]; rfl⟩
theorem re_enc {t : T} {l : List T} (h : l.length = t.ps.length) : (t.re l).enc = .tuple ([.str t.hd] ++ l.map T.enc) := by
  cases t with
  | t0 x => cases l with
    | nil => rfl
    | cons _ _ => simp [T.ps] at h
  | t1 x a => match l, h with
    | [b], _ => rfl
    | [], h => simp [T.ps] at h
    | _ :: _ :: _, h => simp [T.ps] at h
  | t2 x a b => match l, h with
    | [c, d], _ => rfl
    | [], h => simp [T.ps] at h
    | [_], h => simp [T.ps] at h
    | _ :: _ :: _ :: _, h => simp [T.ps] at h
theorem re_ok {t : T} {l : List T} {n : Nat} (h : l.length = t.ps.length) (ht : t.Ok) (hl : ∀ u ∈ l, u.Ok ∧ u.depth ≤ n) : (t.re l).Ok ∧ (t.re l).depth ≤ n + 1 := by
  cases t with
  | t0 x => exact ⟨ht, by simp [T.re, T.depth]⟩
  | t1 x a => match l, h with
    | [b], _ =>
      have := hl b (by simp)
      exact ⟨⟨ht.1, this.1⟩, by show b.depth + 1 ≤ _; omega⟩
    | [], h => simp [T.ps] at h
    | _ :: _ :: _, h => simp [T.ps] at h
  | t2 x a b => match l, h with
    | [c, d], _ =>
      have h1 := hl c (by simp)
      have h2 := hl d (by simp)
      exact ⟨⟨ht.1, h1.1, h2.1⟩, by show max c.depth d.depth + 1 ≤ _; omega⟩
    | [], h => simp [T.ps] at h
    | [_], h => simp [T.ps] at h
    | _ :: _ :: _ :: _, h => simp [T.ps] at h
/-! what a way leads to is no deeper than the term, or than the way and a side -/
mutual
theorem stepS_ok {E : List (T × T)} {m : Nat} (hE : ∀ p ∈ E, (p.1.Ok ∧ p.1.depth ≤ m) ∧ p.2.Ok ∧ p.2.depth ≤ m) : ∀ (s : Sp) (t u : T), t.Ok → stepS E s t = some u → u.Ok ∧ u.depth ≤ max t.depth (s.dep + m)
  | .told k s, t, u, ht, h => by
    rw [stepS] at h
    cases e : E[k]? with
    | none => rw [e] at h; cases h
    | some p =>
      rw [e] at h
      have hp := hE p (List.mem_of_getElem? e)
      simp only at h
      split at h
      · cases h
        unfold sideOf
        split
        · exact ⟨hp.1.1, by have := hp.1.2; omega⟩
        · exact ⟨hp.2.1, by have := hp.2.2; omega⟩
      · cases h
  | .parts ws, t, u, ht, h => by
    rw [stepS] at h
    split at h
    · rename_i hl
      split at h
      · cases h
      · rename_i hn
        cases h
        obtain ⟨ts, e1, e2⟩ := somes hn
        rw [e2]
        have hlen : ts.length = t.ps.length := by
          have := eachS_len E ws t.ps hl
          rw [e1, List.length_map] at this
          omega
        have h1 := eachS_ok hE ws t.ps (fun p hp => all_ok ht (ps_all hp))
        rw [e1] at h1
        rw [Sp.dep]
        have h2 : ∀ u ∈ ts, u.Ok ∧ u.depth ≤ max (t.depth - 1) (depWs ws + m) := fun u hu => by
          obtain ⟨k1, p, hp, k2⟩ := h1 u (List.mem_map_of_mem hu)
          have := T.ps_depth hp
          exact ⟨k1, by omega⟩
        obtain ⟨r1, r2⟩ := re_ok hlen ht h2
        refine ⟨r1, ?_⟩
        have : 1 ≤ t.depth := by cases t <;> simp only [T.depth] <;> omega
        omega
    · cases h
theorem leadsS_ok {E : List (T × T)} {m : Nat} (hE : ∀ p ∈ E, (p.1.Ok ∧ p.1.depth ≤ m) ∧ p.2.Ok ∧ p.2.depth ≤ m) : ∀ (w : List Sp) (t u : T), t.Ok → leadsS E w t = some u → u.Ok ∧ u.depth ≤ max t.depth (depW w + m)
  | [], t, u, ht, h => by
    rw [leadsS] at h; cases h
    exact ⟨ht, by omega⟩
  | s :: w, t, u, ht, h => by
    rw [leadsS] at h
    cases e : stepS E s t with
    | none => rw [e] at h; cases h
    | some v =>
      rw [e] at h
      obtain ⟨h1, h2⟩ := stepS_ok hE s t v ht e
      obtain ⟨h3, h4⟩ := leadsS_ok hE w v u h1 h
      rw [depW]
      exact ⟨h3, by omega⟩
theorem eachS_ok {E : List (T × T)} {m : Nat} (hE : ∀ p ∈ E, (p.1.Ok ∧ p.1.depth ≤ m) ∧ p.2.Ok ∧ p.2.depth ≤ m) : ∀ (ws : List (List Sp)) (ps : List T), (∀ p ∈ ps, p.Ok) → ∀ u, some u ∈ eachS E ws ps → u.Ok ∧ ∃ p ∈ ps, u.depth ≤ max p.depth (depWs ws + m)
  | [], _, _, u, h => by simp [eachS] at h
  | w :: ws, [], _, u, h => by simp [eachS] at h
  | w :: ws, p :: ps, hp, u, h => by
    rw [eachS] at h
    rw [depWs]
    rcases List.mem_cons.mp h with e | h
    · obtain ⟨h1, h2⟩ := leadsS_ok hE w p u (hp p List.mem_cons_self) e.symm
      exact ⟨h1, p, List.mem_cons_self, by omega⟩
    · obtain ⟨h1, q, hq, h2⟩ := eachS_ok hE ws ps (fun q hq => hp q (List.mem_cons_of_mem _ hq)) u h
      exact ⟨h1, q, List.mem_cons_of_mem _ hq, by omega⟩
end
end SH
/-! SIx: the numbers that a way uses. -/
namespace SH
open PySem PySem.Spec PyProof.Rows L2 PySem.W
mutual
def numsS : Sp → List Nat
  | .told k _ => [k]
  | .parts ws => numsWs ws
def numsW : List Sp → List Nat
  | [] => []
  | s :: r => numsS s ++ numsW r
def numsWs : List (List Sp) → List Nat
  | [] => []
  | w :: r => numsW w ++ numsWs r
end
theorem numsW_app : ∀ (a b : Wy), numsW (a ++ b) = numsW a ++ numsW b
  | [], b => by rw [numsW]; rfl
  | s :: a, b => by rw [List.cons_append, numsW, numsW, numsW_app a b, List.append_assoc]
theorem numsWs_app : ∀ (a b : List Wy), numsWs (a ++ b) = numsWs a ++ numsWs b
  | [], b => by rw [numsWs]; rfl
  | s :: a, b => by rw [List.cons_append, numsWs, numsWs, numsWs_app a b, List.append_assoc]
theorem numsW_one (s : Sp) : numsW [s] = numsS s := by rw [numsW, numsW, List.append_nil]
theorem numsWs_one (w : Wy) : numsWs [w] = numsW w := by rw [numsWs, numsWs, List.append_nil]
theorem numsW_take {w : Wy} {i : Nat} {s : Sp} (e : w[i]? = some s) : numsW (w.take (i + 1)) = numsW (w.take i) ++ numsS s := by
  rw [List.take_add_one, e, numsW_app]
  show _ ++ numsW [s] = _
  rw [numsW_one]
theorem numsWs_take {ws : List Wy} {i : Nat} {w : Wy} (e : ws[i]? = some w) : numsWs (ws.take (i + 1)) = numsWs (ws.take i) ++ numsW w := by
  rw [List.take_add_one, e, numsWs_app]
  show _ ++ numsWs [w] = _
  rw [numsWs_one]
/-! ### distinct numbers -/
def iins (is : List Int) (n : Nat) : List Int := if (n : Int) ∈ is then is else is ++ [(n : Int)]
def iinsL (is : List Int) (ns : List Nat) : List Int := ns.foldl iins is
abbrev ikv (is : List Int) : List (Key × PyData) := is.map fun i => (.inl i, .bool true)
theorem iinsL_app (is : List Int) (a b : List Nat) : iinsL is (a ++ b) = iinsL (iinsL is a) b := by unfold iinsL; rw [List.foldl_append]
theorem kput_ikv (is : List Int) (n : Nat) : kput (ikv is) (.inl (n : Int)) (.bool true) = ikv (iins is n) := by
  have any : ((ikv is).any fun x => decide (x.1 = (.inl (n : Int) : Key))) = decide ((n : Int) ∈ is) := by
    induction is with
    | nil => rfl
    | cons i r ih =>
      rw [ikv, List.map_cons, List.any_cons, ih]
      by_cases e : i = (n : Int)
      · subst e; simp
      · have h1 : decide ((Sum.inl i : Key) = .inl (n : Int)) = false := decide_eq_false fun z => e (Sum.inl.inj z)
        rw [h1, Bool.false_or, Bool.eq_iff_iff, decide_eq_true_iff, decide_eq_true_iff, List.mem_cons]
        exact ⟨.inr, fun h => h.elim (fun z => absurd z.symm e) id⟩
  unfold kput iins
  rw [any]
  by_cases h : (n : Int) ∈ is
  · rw [if_pos h, if_pos (decide_eq_true h)]
    conv => rhs; rw [← List.map_id (ikv is)]
    refine List.map_congr_left fun x hx => ?_
    obtain ⟨i, _, rfl⟩ := List.mem_map.mp hx
    show (if (Sum.inl i : Key) = _ then ((Sum.inl i : Key), PyData.bool true) else _) = _
    split <;> rfl
  · rw [if_neg h, if_neg (by simpa using h), ikv, ikv, List.map_append]; rfl
theorem iins_nd {is : List Int} (h : is.Nodup) (n : Nat) : (iins is n).Nodup := by
  unfold iins
  split
  · exact h
  · rename_i hn
    rw [List.nodup_append]
    refine ⟨h, by simp, fun a ha b hb e => hn ?_⟩
    rw [List.mem_singleton.mp hb] at e
    rw [← e]; exact ha
theorem iins_mem {is : List Int} {n : Nat} {i : Int} : i ∈ iins is n ↔ i ∈ is ∨ i = (n : Int) := by
  unfold iins
  split
  · rename_i h
    exact ⟨.inl, fun k => k.elim id fun e => e ▸ h⟩
  · rw [List.mem_append, List.mem_singleton]
theorem iinsL_nd : ∀ (ns : List Nat) {is : List Int}, is.Nodup → (iinsL is ns).Nodup
  | [], _, h => h
  | n :: r, _, h => iinsL_nd r (iins_nd h n)
theorem iinsL_mem {i : Int} : ∀ (ns : List Nat) {is : List Int}, i ∈ iinsL is ns ↔ i ∈ is ∨ ∃ n ∈ ns, i = (n : Int)
  | [], is => by simp [iinsL]
  | n :: r, is => by
    show i ∈ iinsL (iins is n) r ↔ _
    rw [iinsL_mem r, iins_mem]
    constructor
    · rintro ((h | h) | ⟨m, hm, e⟩)
      · exact .inl h
      · exact .inr ⟨n, List.mem_cons_self, h⟩
      · exact .inr ⟨m, List.mem_cons_of_mem _ hm, e⟩
    · rintro (h | ⟨m, hm, e⟩)
      · exact .inl (.inl h)
      · rcases List.mem_cons.mp hm with rfl | hm
        · exact .inl (.inr e)
        · exact .inr ⟨m, hm, e⟩
theorem iinsL_len : ∀ (ns : List Nat) (is : List Int), (iinsL is ns).length ≤ is.length + ns.length
  | [], is => Nat.le_refl _
  | n :: r, is => by
    have h1 := iinsL_len r (iins is n)
    have h2 : (iins is n).length ≤ is.length + 1 := by
      unfold iins
      split
      · omega
      · rw [List.length_append]; exact Nat.le_refl _
    show (iinsL (iins is n) r).length ≤ _
    rw [List.length_cons]; omega
/-- in order -/
def srtI (is : List Int) : List Int := is.mergeSort fun a b => decide (a ≤ b)
theorem srtD_int (is : List Int) : srtD (is.map PyData.int) = (srtI is).map PyData.int := by
  unfold srtD srtI
  rw [List.map_mergeSort]
  intro a _ b _
  have := congrFun (congrFun (dataLe_int (β := Int) id) a) b
  exact this.symm
theorem srtI_mem {is : List Int} {i : Int} : i ∈ srtI is ↔ i ∈ is := List.mem_mergeSort
theorem srtI_len (is : List Int) : (srtI is).length = is.length := List.length_mergeSort ..
theorem srtI_sorted {is : List Int} (nd : is.Nodup) : (srtI is).Pairwise (· < ·) := by
  have h1 : (srtI is).Pairwise fun a b => decide (a ≤ b) = true := List.pairwise_mergeSort (fun a b c h1 h2 => by rw [decide_eq_true_iff] at *; omega) (fun a b => by
    rw [Bool.or_eq_true, decide_eq_true_iff, decide_eq_true_iff]; omega) is
  have h2 : (srtI is).Nodup := (List.mergeSort_perm is _).nodup_iff.mpr nd
  refine List.Pairwise.imp₂ (fun {a b} (h : decide (a ≤ b) = true) (k : a ≠ b) => ?_) h1 h2
  have := of_decide_eq_true h
  omega
/-- the numbers of a way, each once, in order -/
def uI (ns : List Nat) : List Int := srtI (iinsL [] ns)
theorem uI_sorted (ns : List Nat) : (uI ns).Pairwise (· < ·) := srtI_sorted (iinsL_nd ns .nil)
theorem uI_mem {ns : List Nat} {i : Int} : i ∈ uI ns ↔ ∃ n ∈ ns, i = (n : Int) := by
  unfold uI; rw [srtI_mem, iinsL_mem]; simp
theorem uI_len (ns : List Nat) : (uI ns).length ≤ ns.length := by
  unfold uI
  rw [srtI_len]
  have := iinsL_len ns []
  simpa using this
end SH
/-! SIy: the law's own steps, drawn by cells. -/
namespace SH
open PySem PySem.Spec PyProof.Rows L2 PySem.W
def laTold (m : Nat) (c : Int) : Sp := .told (lmix c 9871 (m : Int)).toNat (lmix c 9859 2).toNat
def laMany (c : Int) : Nat := (1 + lmix c 9883 5 % 2).toNat
def laStep (m : Nat) : Nat → Int → Sp
  | 0, c => if 0 < m then laTold m c else .parts ((List.range (laMany c)).map fun _ => [])
  | l + 1, c => if 0 < m ∧ lmix c 9883 5 < 3 then laTold m c else .parts ((List.range (laMany c)).map fun k => if 0 < lmix (c + (k : Nat)) 9857 3 then [laStep m l (c * 3 + 7 * (k : Nat) + 1)] else [])
theorem laMany_le (c : Int) : laMany c ≤ 2 := by
  have := Int.emod_lt_of_pos (lmix c 9883 5) (by decide : (0 : Int) < 2)
  unfold laMany; omega
theorem goodW_of {n : Nat} {y : Wy} (h : ∀ s ∈ y, s.Good n) : goodW n y := by
  induction y with
  | nil => rw [goodW]; exact True.intro
  | cons s r ih => rw [goodW]; exact ⟨h s List.mem_cons_self, ih fun x hx => h x (List.mem_cons_of_mem _ hx)⟩
theorem goodWs_of {n : Nat} {ws : List Wy} (h : ∀ y ∈ ws, goodW n y) : goodWs n ws := by
  induction ws with
  | nil => rw [goodWs]; exact True.intro
  | cons s r ih => rw [goodWs]; exact ⟨h s List.mem_cons_self, ih fun x hx => h x (List.mem_cons_of_mem _ hx)⟩
theorem depW_le {n : Nat} {y : Wy} (h : ∀ s ∈ y, s.dep ≤ n) : depW y ≤ n := by
  induction y with
  | nil => rw [depW]; exact Nat.zero_le _
  | cons s r ih => rw [depW]; exact Nat.max_le.mpr ⟨h s List.mem_cons_self, ih fun x hx => h x (List.mem_cons_of_mem _ hx)⟩
theorem depWs_le {n : Nat} {ws : List Wy} (h : ∀ y ∈ ws, depW y ≤ n) : depWs ws ≤ n := by
  induction ws with
  | nil => rw [depWs]; exact Nat.zero_le _
  | cons s r ih => rw [depWs]; exact Nat.max_le.mpr ⟨h s List.mem_cons_self, ih fun x hx => h x (List.mem_cons_of_mem _ hx)⟩
theorem numsW_le {n : Nat} {y : Wy} (h : ∀ s ∈ y, (numsS s).length ≤ n) : (numsW y).length ≤ n * y.length := by
  induction y with
  | nil => rw [numsW]; exact Nat.le_refl _
  | cons s r ih =>
    have h1 := h s List.mem_cons_self
    have h2 := ih fun x hx => h x (List.mem_cons_of_mem _ hx)
    rw [numsW, List.length_append, List.length_cons, Nat.mul_succ]; omega
theorem numsWs_le {n : Nat} {ws : List Wy} (h : ∀ y ∈ ws, (numsW y).length ≤ n) : (numsWs ws).length ≤ n * ws.length := by
  induction ws with
  | nil => rw [numsWs]; exact Nat.le_refl _
  | cons s r ih =>
    have h1 := h s List.mem_cons_self
    have h2 := ih fun x hx => h x (List.mem_cons_of_mem _ hx)
    rw [numsWs, List.length_append, List.length_cons, Nat.mul_succ]; omega
theorem laTold_good {m : Nat} (hm : 0 < m) (c : Int) : (laTold m c).Good m := by
  have h1 := lmix_lt (c := c) (p := 9871) (m := (m : Int)) (by omega)
  have h2 := lmix_nn (c := c) (p := 9871) (m := (m : Int)) (by omega)
  have h3 := lmix_lt (c := c) (p := 9859) (m := 2) (by decide)
  have h4 := lmix_nn (c := c) (p := 9859) (m := 2) (by decide)
  unfold laTold
  rw [Sp.Good]; omega
theorem laStep_facts (m : Nat) : ∀ (l : Nat) (c : Int), (laStep m l c).Good m ∧ (laStep m l c).dep ≤ l + 1 ∧ (numsS (laStep m l c)).length ≤ 2 ^ l
  | 0, c => by
    rw [laStep]
    split
    · rename_i h
      refine ⟨laTold_good h c, ?_, ?_⟩
      · unfold laTold; rw [Sp.dep]; exact Nat.le_refl _
      · unfold laTold; rw [numsS]; exact Nat.le_refl _
    · refine ⟨?_, ?_, ?_⟩
      · rw [Sp.Good]
        refine goodWs_of fun y hy => ?_
        obtain ⟨k, _, rfl⟩ := List.mem_map.mp hy
        rw [goodW]; exact True.intro
      · rw [Sp.dep]
        have : depWs ((List.range (laMany c)).map fun _ => ([] : Wy)) ≤ 0 := depWs_le fun y hy => by
          obtain ⟨k, _, rfl⟩ := List.mem_map.mp hy
          rw [depW]; exact Nat.le_refl _
        omega
      · rw [numsS]
        have := numsWs_le (n := 0) (ws := (List.range (laMany c)).map fun _ => ([] : Wy)) fun y hy => by
          obtain ⟨k, _, rfl⟩ := List.mem_map.mp hy
          rw [numsW]; exact Nat.le_refl _
        omega
  | l + 1, c => by
    have ih := fun c => laStep_facts m l c
    have p2 : 2 ^ (l + 1) = 2 ^ l * 2 := Nat.pow_succ ..
    have p1 : 1 ≤ 2 ^ l := Nat.one_le_two_pow
    rw [laStep]
    split
    · rename_i h
      refine ⟨laTold_good h.1 c, ?_, ?_⟩
      · unfold laTold; rw [Sp.dep]; omega
      · unfold laTold; rw [numsS, List.length_singleton]; omega
    · have all : ∀ y ∈ (List.range (laMany c)).map (fun (k : Nat) => if 0 < lmix (c + (k : Nat)) 9857 3 then [laStep m l (c * 3 + 7 * (k : Nat) + 1)] else []), goodW m y ∧ depW y ≤ l + 1 ∧ (numsW y).length ≤ 2 ^ l := fun y hy => by
        obtain ⟨k, _, rfl⟩ := List.mem_map.mp hy
        split
        · obtain ⟨h1, h2, h3⟩ := ih (c * 3 + 7 * (k : Nat) + 1)
          refine ⟨goodW_of fun s hs => by rw [List.mem_singleton.mp hs]; exact h1, depW_le fun s hs => by rw [List.mem_singleton.mp hs]; exact h2, ?_⟩
          rw [numsW_one]; exact h3
        · refine ⟨by rw [goodW]; exact True.intro, by rw [depW]; exact Nat.zero_le _, by rw [numsW]; exact Nat.zero_le _⟩
      refine ⟨?_, ?_, ?_⟩
      · rw [Sp.Good]; exact goodWs_of fun y hy => (all y hy).1
      · rw [Sp.dep]
        have := depWs_le fun y hy => (all y hy).2.1
        omega
      · rw [numsS]
        have h1 := numsWs_le fun y hy => (all y hy).2.2
        have h2 := laMany_le c
        rw [List.length_map, List.length_range] at h1
        have h3 : 2 ^ l * laMany c ≤ 2 ^ l * 2 := Nat.mul_le_mul_left _ h2
        omega
def ct_astep (n : Nat) : Ct := fun args Q => ∃ (E : List (T × T)) (c : Int) (l : Nat), args = [.dat (toldD E), .dat (.int c), .dat (.int (l : Nat))] ∧ E.length ≤ 1000 ∧ l ≤ n ∧ Q (.dat (laStep E.length l c).enc) args
theorem mo_astep (n : Nat) : ∀ args Q Q', (∀ r a, Q r a → Q' r a) → ct_astep n args Q → ct_astep n args Q' := fun _ _ _ f ⟨E, c, l, e, h1, h2, k⟩ => ⟨E, c, l, e, h1, h2, f _ _ k⟩
end SH
/-! SIz: worlds, in plain Lean. -/
namespace SH
open PySem PySem.Spec PyProof.Rows L2 PySem.W
/-! ### rows of a world: a head, the parts' values, a value -/
abbrev WR := Str × List Nat × Nat
def numK (n : Nat) : NestedKey := .num (n : Nat)
def numD (n : Nat) : PyData := .int (n : Nat)
def wkey2 (x : Str) (l : List Nat) : NestedKey := .tup [.text x, .tup (l.map numK)]
def wkey (r : WR) : NestedKey := .tup [.text r.1, .tup (r.2.1.map numK), numK r.2.2]
def wD2 (x : Str) (l : List Nat) : PyData := .tuple [.str x, .tuple (l.map numD)]
def wD (r : WR) : PyData := .tuple [.str r.1, .tuple (r.2.1.map numD), numD r.2.2]
theorem nums_data (l : List Nat) : NestedKey.datas (l.map numK) = l.map numD := by
  induction l with
  | nil => rfl
  | cons n r ih => rw [List.map_cons, List.map_cons, ← ih]; rfl
theorem wkey2_data (x : Str) (l : List Nat) : (wkey2 x l).data = wD2 x l := by
  show PyData.tuple [.str x, .tuple (NestedKey.datas (l.map numK))] = _
  rw [nums_data]; rfl
theorem wkey_data (r : WR) : (wkey r).data = wD r := by
  show PyData.tuple [.str r.1, .tuple (NestedKey.datas (r.2.1.map numK)), .int (r.2.2 : Nat)] = _
  rw [nums_data]; rfl
theorem numK_inj {a b : Nat} (h : numK a = numK b) : a = b := by
  unfold numK at h
  injection h with h
  exact Int.ofNat.inj h
theorem numsK_inj : ∀ {a b : List Nat}, a.map numK = b.map numK → a = b
  | [], [], _ => rfl
  | [], _ :: _, h => by cases h
  | _ :: _, [], h => by cases h
  | a :: as, b :: bs, h => by
    rw [List.map_cons, List.map_cons] at h
    obtain ⟨h1, h2⟩ := List.cons.inj h
    rw [numK_inj h1, numsK_inj h2]
theorem wkey2_inj {x y : Str} {l m : List Nat} (h : wkey2 x l = wkey2 y m) : x = y ∧ l = m := by
  unfold wkey2 at h
  simp only [NestedKey.tup.injEq, List.cons.injEq, NestedKey.text.injEq, and_true] at h
  exact ⟨h.1, numsK_inj h.2⟩
theorem wkey_inj {r q : WR} (h : wkey r = wkey q) : r = q := by
  unfold wkey at h
  simp only [NestedKey.tup.injEq, List.cons.injEq, NestedKey.text.injEq, and_true] at h
  obtain ⟨h1, h2, h3⟩ := h
  obtain ⟨x, l, n⟩ := r
  obtain ⟨y, m, k⟩ := q
  rw [show x = y from h1, show l = m from numsK_inj h2, show n = k from numK_inj h3]
theorem nums_depth (l : List Nat) : NestedKey.depthAll (l.map numK) = 0 := by
  induction l with
  | nil => rfl
  | cons n r ih => show max 0 (NestedKey.depthAll (r.map numK)) = 0; rw [ih]; rfl
theorem wkey_depth (r : WR) : (wkey r).depth ≤ 8 := by
  show max 0 (max (NestedKey.depthAll (r.2.1.map numK) + 1) (max 0 0)) + 1 ≤ 8
  rw [nums_depth]; decide
theorem wkey2_depth (x : Str) (l : List Nat) : (wkey2 x l).depth ≤ 8 := by
  show max 0 (max (NestedKey.depthAll (l.map numK) + 1) 0) + 1 ≤ 8
  rw [nums_depth]; decide
/-! ### their order -/
theorem num_toks : ∀ (l m : List Nat) (r q : List (Int ⊕ List Nat)), keyToksAll (l.map numD) ++ r = keyToksAll (m.map numD) ++ q → l = m ∧ r = q
  | [], [], r, q, h => ⟨rfl, by simpa [keyToksAll] using h⟩
  | [], _ :: _, r, q, h => by simp [keyToksAll] at h
  | _ :: _, [], r, q, h => by simp [keyToksAll] at h
  | a :: l, b :: m, r, q, h => by
    rw [List.map_cons, List.map_cons, keyToksAll, keyToksAll] at h
    have e1 : ∀ n, keyToks (numD n) = [.inl (n : Int)] := fun n => by unfold numD; rw [keyToks]
    rw [e1, e1] at h
    simp only [List.cons_append, List.nil_append, List.append_assoc, List.cons.injEq, Sum.inl.injEq, true_and] at h
    obtain ⟨h1, h2⟩ := num_toks l m r q h.2
    exact ⟨by rw [Int.ofNat.inj h.1, h1], h2⟩
theorem wtoks_inj {r q : WR} (h : keyToks (wD r) = keyToks (wD q)) : r = q := by
  have k : ∀ r : WR, keyToks (wD r) = .inl 1 :: .inr r.1.cps.toList :: .inl 1 :: (keyToksAll (r.2.1.map numD) ++ [.inl 1, .inl (r.2.2 : Int), .inl 0]) := fun r => by
    unfold wD numD; simp [keyToks, keyToksAll]
  rw [k, k] at h
  simp only [List.cons.injEq, Sum.inr.injEq, true_and] at h
  obtain ⟨h1, h2⟩ := num_toks _ _ _ _ h.2
  simp only [List.cons.injEq, Sum.inl.injEq, true_and, and_true] at h2
  obtain ⟨x, l, n⟩ := r
  obtain ⟨y, m, j⟩ := q
  have e1 : x = y := by rw [sOf_of x, sOf_of y, show x.cps.toList = y.cps.toList from h.1]
  have e2 : l = m := h1
  have e3 : n = j := Int.ofNat.inj h2
  rw [e1, e2, e3]
def wlt (a b : WR) : Prop := dlt (wD a) (wD b)
theorem wlt_irrefl (a : WR) : ¬ wlt a a := dlt_irrefl _
theorem wlt_trans (a b c : WR) : wlt a b → wlt b c → wlt a c := dlt_trans
abbrev srtW (rs : List WR) : List WR := rs.mergeSort (dataLe false wD)
theorem srtD_w (rs : List WR) : srtD (rs.map wD) = (srtW rs).map wD := by
  unfold srtD srtW
  rw [List.map_mergeSort]
  intro a _ b _; rfl
theorem srtW_mem {rs : List WR} {r : WR} : r ∈ srtW rs ↔ r ∈ rs := List.mem_mergeSort
theorem srtW_len (rs : List WR) : (srtW rs).length = rs.length := List.length_mergeSort _
theorem srtW_pairwise {rs : List WR} (nd : rs.Nodup) : (srtW rs).Pairwise wlt := by
  have h1 : (srtW rs).Pairwise fun a b => dataLe false wD a b = true := List.pairwise_mergeSort (fun a b c => (sortLe_total (listOrd itemOrd) false fun b => keyToks (wD b)).trans a b c) (fun a b => by rw [Bool.or_eq_true]; exact (sortLe_total (listOrd itemOrd) false fun b => keyToks (wD b)).total a b) rs
  have h2 : (srtW rs).Nodup := (List.mergeSort_perm rs _).nodup_iff.mpr nd
  refine (h1.and h2).imp fun {a b} ⟨h3, h4⟩ => ?_
  have h5 : ¬ wlt b a := by
    have h6 : (!dataLt (wD b) (wD a)) = true := h3
    unfold wlt dlt
    simpa using h6
  exact Classical.byContradiction fun h6 => h4 (wtoks_inj (dlt_total h6 h5))
theorem srtW_eq {rs qs : List WR} (n1 : rs.Nodup) (h : qs.Pairwise wlt) (hm : ∀ r, r ∈ rs ↔ r ∈ qs) : srtW rs = qs :=
  sorted_ext wlt_irrefl wlt_trans (srtW_pairwise n1) h fun r => by rw [srtW_mem]; exact hm r
theorem wnodup {rs : List WR} (h : rs.Pairwise wlt) : rs.Nodup := List.Pairwise.imp (fun {a b} (h : wlt a b) (e : a = b) => wlt_irrefl b (e ▸ h)) h
theorem nums_alike : ∀ l m : List Nat, alikeAll (l.map numD) (m.map numD) = true
  | [], _ => by simp [alikeAll]
  | _ :: _, [] => by simp [alikeAll]
  | a :: l, b :: m => by
    rw [List.map_cons, List.map_cons, alikeAll, nums_alike l m]
    unfold numD; simp [alike]
theorem numsD_depth (l : List Nat) : PyData.depthAll (l.map numD) = 0 := by
  induction l with
  | nil => rfl
  | cons n r ih => show max 0 (PyData.depthAll (r.map numD)) = 0; rw [ih]; rfl
theorem wD_depth (r : WR) : (wD r).depth = 2 := by
  show max 0 (max (PyData.depthAll (r.2.1.map numD) + 1) (max 0 0)) + 1 = 2
  rw [numsD_depth]; rfl
theorem wD2_depth (x : Str) (l : List Nat) : (wD2 x l).depth = 2 := by
  show max 0 (max (PyData.depthAll (l.map numD) + 1) 0) + 1 = 2
  rw [numsD_depth]; rfl
theorem srt_w (rs : List WR) : Srt (rs.map wD) := by
  refine ⟨fun d hd d' hd' => ?_, .inl fun d hd => ?_, fun d hd => ?_⟩
  · obtain ⟨r, _, rfl⟩ := List.mem_map.mp hd
    obtain ⟨q, _, rfl⟩ := List.mem_map.mp hd'
    unfold wD
    rw [alike, alikeAll, alikeAll, alikeAll, alike, alike, nums_alike]
    unfold numD; simp [alike, alikeAll]
  · obtain ⟨r, _, rfl⟩ := List.mem_map.mp hd
    exact ⟨_, _, rfl⟩
  · obtain ⟨r, _, rfl⟩ := List.mem_map.mp hd
    rw [wD_depth]; decide
/-! ### as data -/
theorem nums_lay (l : List Nat) : PyData.canLayAll0 (l.map numD) = true := by
  induction l with
  | nil => rfl
  | cons n r ih =>
    rw [List.map_cons, PyData.canLayAll0, ih]
    unfold numD; rw [PyData.canLay0]; rfl
theorem nums_shaped (l : List Nat) : SeqAt.shaped (.tuple (l.map numD)) = true := shaped_mk (by rw [PyData.canLay0, nums_lay]) (by
  show PyData.depthAll (l.map numD) + 1 ≤ 64
  rw [numsD_depth]; decide)
theorem nums_plain (l : List Nat) : plainDs (l.map numD) = true := by
  induction l with
  | nil => rfl
  | cons n r ih => rw [List.map_cons, plainDs, ih]; rfl
theorem numD_inj {a b : Nat} (h : numD a = numD b) : a = b := by
  unfold numD at h
  injection h with h
  exact Int.ofNat.inj h
theorem numsD_inj : ∀ {a b : List Nat}, a.map numD = b.map numD → a = b
  | [], [], _ => rfl
  | [], _ :: _, h => by cases h
  | _ :: _, [], h => by cases h
  | a :: as, b :: bs, h => by
    rw [List.map_cons, List.map_cons] at h
    obtain ⟨h1, h2⟩ := List.cons.inj h
    rw [numD_inj h1, numsD_inj h2]
theorem nums_eqv (l m : List Nat) : PyData.eqv (.tuple (l.map numD)) (.tuple (m.map numD)) = decide (l = m) :=
  eqv_dec (f := fun l : List Nat => PyData.tuple (l.map numD)) (fun l => nums_plain l) (fun a b h => numsD_inj (by injection h)) l m
theorem wD_plain (r : WR) : plainD (wD r) = true := by
  show plainDs [.str r.1, .tuple (r.2.1.map numD), numD r.2.2] = true
  rw [plainDs, plainDs, plainDs, plainD, plainD, nums_plain]; rfl
theorem wDs_plain (rs : List WR) : plainDs (rs.map wD) = true := by
  induction rs with
  | nil => rfl
  | cons n r ih => rw [List.map_cons, plainDs, ih, wD_plain]; rfl
theorem wDs_shaped {rs : List WR} (h : ∀ r ∈ rs, isHd r.1 = true) : SeqAt.shaped (.list (rs.map wD)) = true := by
  have both : PyData.canLayAll0 (rs.map wD) = true ∧ PyData.depthAll (rs.map wD) ≤ 2 := by
    induction rs with
    | nil => exact ⟨rfl, Nat.zero_le _⟩
    | cons r q ih =>
      obtain ⟨h1, h2⟩ := ih fun x hx => h x (List.mem_cons_of_mem _ hx)
      have e := isHd_ok (h r List.mem_cons_self)
      refine ⟨?_, ?_⟩
      · rw [List.map_cons, PyData.canLayAll0, h1]
        unfold wD numD
        rw [PyData.canLay0, PyData.canLayAll0, PyData.canLayAll0, PyData.canLayAll0, PyData.canLay0, PyData.canLay0, PyData.canLay0, show PyData.canLayAll0 (r.2.1.map fun n : Nat => PyData.int (n : Nat)) = true from nums_lay _, e]; rfl
      · show max (wD r).depth (PyData.depthAll (q.map wD)) ≤ 2
        rw [wD_depth]; omega
  exact shaped_mk (by rw [PyData.canLay0]; exact both.1) (by
    show PyData.depthAll (rs.map wD) + 1 ≤ 64
    omega)
/-! ### what a world says -/
def wfind (rs : List WR) (x : Str) (l : List Nat) : Nat := ((rs.find? fun r => decide (r.1 = x) && decide (r.2.1 = l)).map (·.2.2)).getD 0
def wval (rs : List WR) : T → Nat
  | .t0 x => wfind rs x []
  | .t1 x a => wfind rs x [wval rs a]
  | .t2 x a b => wfind rs x [wval rs a, wval rs b]
theorem wval_eq (rs : List WR) (t : T) : wval rs t = wfind rs t.hd (t.ps.map (wval rs)) := by cases t <;> rfl
abbrev worldD (n : Nat) (rs : List WR) : PyData := .tuple [numD n, .tuple (rs.map wD)]
structure WOk (n : Nat) (rs : List WR) : Prop where
  pos : 1 ≤ n
  hd : ∀ r ∈ rs, isHd r.1 = true
  ar : ∀ r ∈ rs, r.2.1.length ≤ 2
  vs : ∀ r ∈ rs, ∀ v ∈ r.2.1, v < n
  vl : ∀ r ∈ rs, r.2.2 < n
  srt : rs.Pairwise wlt
  fn : (rs.map fun r => (r.1, r.2.1)).Nodup
  few : rs.length < 64
/-! ### the dicts on the way -/
def rkv (rs : List WR) : List (NestedKey × PyData) := rs.map fun r => (wkey r, .bool true)
def insW (r : WR) (rs : List WR) : List WR := if r ∈ rs then rs else rs ++ [r]
theorem nget_rkv (rs : List WR) (r : WR) : nget (rkv rs) (wkey r) = if r ∈ rs then some (.bool true) else none := by
  unfold nget
  induction rs with
  | nil => rfl
  | cons q l ih =>
    rw [rkv, List.map_cons, List.find?_cons]
    by_cases e : q = r
    · subst e; simp
    · have h : decide (wkey q = wkey r) = false := decide_eq_false fun z => e (wkey_inj z)
      rw [h]
      have e2 : (r ∈ q :: l) ↔ r ∈ l := by rw [List.mem_cons]; exact ⟨fun z => z.resolve_left fun z => e z.symm, .inr⟩
      simp only [e2]
      exact ih
theorem nput_rkv (r : WR) (rs : List WR) : nput (rkv rs) (wkey r) (.bool true) = rkv (insW r rs) := by
  have e := nget_rkv rs r
  unfold insW nput
  rw [e]
  split
  · rename_i h
    show List.map _ (rkv rs) = rkv rs
    unfold rkv
    rw [List.map_map]
    refine List.map_congr_left fun q _ => ?_
    show (if wkey q = wkey r then (wkey q, PyData.bool true) else (wkey q, .bool true)) = _
    split <;> rfl
  · rename_i h
    show rkv rs ++ [(wkey r, .bool true)] = rkv (rs ++ [r])
    unfold rkv
    rw [List.map_append]; rfl
theorem insW_mem {r q : WR} {rs : List WR} : q ∈ insW r rs ↔ q = r ∨ q ∈ rs := by
  unfold insW
  split
  · rename_i h
    exact ⟨.inr, fun k => k.elim (fun z => z ▸ h) id⟩
  · rw [List.mem_append, List.mem_singleton]; exact or_comm
theorem insW_nodup {r : WR} {rs : List WR} (nd : rs.Nodup) : (insW r rs).Nodup := by
  unfold insW
  split
  · exact nd
  · rename_i h
    rw [List.nodup_append]
    exact ⟨nd, by simp, fun x hx y hy z => by simp only [List.mem_singleton] at hy; subst hy z; exact h hx⟩
theorem insW_len (r : WR) (rs : List WR) : (insW r rs).length ≤ rs.length + 1 := by
  unfold insW
  split
  · omega
  · rw [List.length_append, List.length_singleton]; exact Nat.le_refl _
def nkv (l : List T) : List (NestedKey × PyData) := gkv l fun t => numD (l.idxOf t)
theorem nget_nkv {l : List T} {t : T} (h : t ∈ l) : nget (nkv l) t.key = some (numD (l.idxOf t)) := nget_gkv h
theorem nget_nkv_none {l : List T} {t : T} (h : t ∉ l) : nget (nkv l) t.key = none := nget_gkv_none h
theorem nkv_nd {l : List T} (nd : l.Nodup) : ((nkv l).map (·.1)).Nodup := by
  unfold nkv gkv
  rw [List.map_map]
  exact List.pairwise_map.mpr (nd.imp fun {a b} h z => h (T.key_inj z))
theorem nput_nkv {l : List T} {t : T} (h : t ∉ l) : nput (nkv l) t.key (numD l.length) = nkv (l ++ [t]) := by
  unfold nput
  rw [nget_nkv_none h]
  show nkv l ++ [(t.key, numD l.length)] = nkv (l ++ [t])
  unfold nkv gkv
  rw [List.map_append]
  congr 1
  · refine List.map_congr_left fun u hu => ?_
    show (u.key, numD (l.idxOf u)) = (u.key, numD ((l ++ [t]).idxOf u))
    rw [List.idxOf_append, if_pos hu]
  · show [(t.key, numD l.length)] = [(t.key, numD ((l ++ [t]).idxOf t))]
    rw [List.idxOf_append, if_neg h]
    simp
/-- the table of a world -/
def tkw (rs : List WR) : List (NestedKey × PyData) := rs.map fun r => (wkey2 r.1 r.2.1, numD r.2.2)
theorem nget_tkw (rs : List WR) (x : Str) (l : List Nat) : (nget (tkw rs) (wkey2 x l)).getD (.int 0) = numD (wfind rs x l) := by
  unfold nget wfind
  induction rs with
  | nil => rfl
  | cons q r ih =>
    rw [tkw, List.map_cons, List.find?_cons, List.find?_cons]
    by_cases e : q.1 = x ∧ q.2.1 = l
    · obtain ⟨rfl, rfl⟩ := e
      simp
    · have h : decide (wkey2 q.1 q.2.1 = wkey2 x l) = false := decide_eq_false fun z => e (wkey2_inj z)
      have h2 : (decide (q.1 = x) && decide (q.2.1 = l)) = false := by
        rw [← Bool.decide_and]; exact decide_eq_false e
      rw [h, h2]; exact ih
theorem nput_tkw {rs : List WR} {r : WR} (h : (r.1, r.2.1) ∉ rs.map fun r => (r.1, r.2.1)) : nput (tkw rs) (wkey2 r.1 r.2.1) (numD r.2.2) = tkw (rs ++ [r]) := by
  have e : nget (tkw rs) (wkey2 r.1 r.2.1) = none := by
    unfold nget
    rw [Option.map_eq_none_iff, List.find?_eq_none]
    intro x hx
    obtain ⟨q, hq, rfl⟩ := List.mem_map.mp hx
    simp only [decide_eq_true_eq]
    intro z
    obtain ⟨z1, z2⟩ := wkey2_inj z
    exact h (List.mem_map.mpr ⟨q, hq, by rw [z1, z2]⟩)
  unfold nput
  rw [e]
  show tkw rs ++ [(wkey2 r.1 r.2.1, numD r.2.2)] = _
  unfold tkw
  rw [List.map_append]; rfl
/-! ### the world that is made -/
structure HN (ts : List T) (h : T → T) (l : List T) : Prop where
  nd : l.Nodup
  all : ∀ t ∈ ts, h t ∈ l
  sub : ∀ u ∈ l, ∃ t ∈ ts, u = h t
theorem HN.nil (h : T → T) : HN [] h [] := ⟨.nil, fun _ h => (by cases h), fun _ h => (by cases h)⟩
theorem HN.step {ts l : List T} {h : T → T} (k : HN ts h l) (t : T) : HN (ts ++ [t]) h (insT (h t) l) where
  nd := insT_nodup k.nd
  all := fun u hu => by
    rw [insT_mem]
    rcases List.mem_append.mp hu with hu | hu
    · exact .inr (k.all u hu)
    · rw [List.mem_singleton.mp hu]; exact .inl rfl
  sub := fun u hu => by
    rcases insT_mem.mp hu with rfl | hu
    · exact ⟨t, by simp, rfl⟩
    · obtain ⟨v, hv, e⟩ := k.sub u hu
      exact ⟨v, List.mem_append_left _ hv, e⟩
def rowOf (g : T → Nat) (t : T) : WR := (t.hd, t.ps.map g, g t)
structure RwIs (g : T → Nat) (ts : List T) (rs : List WR) : Prop where
  nd : rs.Nodup
  mem : ∀ r, r ∈ rs ↔ ∃ t ∈ ts, r = rowOf g t
theorem RwIs.nil (g : T → Nat) : RwIs g [] [] := ⟨.nil, fun r => ⟨fun h => (by cases h), fun ⟨_, h, _⟩ => (by cases h)⟩⟩
theorem RwIs.step {g : T → Nat} {ts : List T} {rs : List WR} (k : RwIs g ts rs) (t : T) : RwIs g (ts ++ [t]) (insW (rowOf g t) rs) := ⟨insW_nodup k.nd, fun r => by
  rw [insW_mem, k.mem]
  constructor
  · rintro (rfl | ⟨u, hu, e⟩)
    · exact ⟨t, by simp, rfl⟩
    · exact ⟨u, List.mem_append_left _ hu, e⟩
  · rintro ⟨u, hu, e⟩
    rcases List.mem_append.mp hu with hu | hu
    · exact .inr ⟨u, hu, e⟩
    · rw [List.mem_singleton.mp hu] at e; exact .inl e⟩
theorem idx_inj {l : List T} {a b : T} (ha : a ∈ l) (hb : b ∈ l) (e : l.idxOf a = l.idxOf b) : a = b := by
  have h1 := List.getElem_idxOf (List.idxOf_lt_length_of_mem ha)
  have h2 := List.getElem_idxOf (List.idxOf_lt_length_of_mem hb)
  rw [← h1, ← h2]
  simp only [e]
theorem world_ok {E : List (T × T)} {ts l : List T} {h : T → T} {rs : List WR} (dec : ∀ a ∈ ts, ∀ b ∈ ts, decide (h a = h b) = congB E a b) (c : ClosedT ts) (ok : ∀ t ∈ ts, t.Ok) (hn : HN ts h l) (rw' : RwIs (fun t => l.idxOf (h t)) ts rs) (few : ts.length < 64) :
    WOk (max l.length 1) (srtW rs) ∧ ∀ a ∈ ts, ∀ b ∈ ts, decide (wval (srtW rs) a = wval (srtW rs) b) = congB E a b := by
  generalize hg : (fun t => l.idxOf (h t)) = g at rw'
  have gdef : ∀ t, g t = l.idxOf (h t) := fun t => by rw [← hg]
  have gl : ∀ t ∈ ts, g t < l.length := fun t ht => by rw [gdef]; exact List.idxOf_lt_length_of_mem (hn.all t ht)
  have gi : ∀ a ∈ ts, ∀ b ∈ ts, (g a = g b ↔ Cong E a b) := fun a ha b hb => by
    rw [← congB_iff, ← dec a ha b hb, decide_eq_true_iff, gdef, gdef]
    exact ⟨idx_inj (hn.all a ha) (hn.all b hb), fun e => by rw [e]⟩
  have key : ∀ t ∈ ts, ∀ u ∈ ts, t.hd = u.hd → t.ps.map g = u.ps.map g → g t = g u := fun t ht u hu e1 e2 => by
    rw [gi t ht u hu]
    have pt := c t ht
    have pu := c u hu
    cases t with
    | t0 x =>
      cases u with
      | t0 y => cases (show x = y from e1); exact .refl _
      | t1 y a => simp [T.ps] at e2
      | t2 y a b => simp [T.ps] at e2
    | t1 x a =>
      cases u with
      | t0 y => simp [T.ps] at e2
      | t1 y b =>
        cases (show x = y from e1)
        simp only [T.ps, List.map_cons, List.map_nil, List.cons.injEq, and_true] at e2
        exact .c1 ((gi a (pt a (by simp [T.ps])) b (pu b (by simp [T.ps]))).mp e2)
      | t2 y a b => simp [T.ps] at e2
    | t2 x a a2 =>
      cases u with
      | t0 y => simp [T.ps] at e2
      | t1 y b => simp [T.ps] at e2
      | t2 y b b2 =>
        cases (show x = y from e1)
        simp only [T.ps, List.map_cons, List.map_nil, List.cons.injEq, and_true] at e2
        exact .c2 ((gi a (pt a (by simp [T.ps])) b (pu b (by simp [T.ps]))).mp e2.1) ((gi a2 (pt a2 (by simp [T.ps])) b2 (pu b2 (by simp [T.ps]))).mp e2.2)
  have mem : ∀ r, r ∈ srtW rs ↔ ∃ t ∈ ts, r = rowOf g t := fun r => by rw [srtW_mem]; exact rw'.mem r
  have pw := srtW_pairwise rw'.nd
  have fnd : ∀ t ∈ ts, wfind (srtW rs) t.hd (t.ps.map g) = g t := fun t ht => by
    unfold wfind
    cases e : (srtW rs).find? fun r => decide (r.1 = t.hd) && decide (r.2.1 = t.ps.map g) with
    | none =>
      rw [List.find?_eq_none] at e
      have := e (rowOf g t) ((mem _).mpr ⟨t, ht, rfl⟩)
      simp [rowOf] at this
    | some r =>
      have h1 := List.mem_of_find?_eq_some e
      have h2 := List.find?_some e
      obtain ⟨u, hu, rfl⟩ := (mem r).mp h1
      rw [Bool.and_eq_true, decide_eq_true_iff, decide_eq_true_iff] at h2
      exact key u hu t ht h2.1 h2.2
  have val : ∀ t : T, t ∈ ts → wval (srtW rs) t = g t := fun t => by
    induction t with
    | t0 x => intro ht; exact fnd _ ht
    | t1 x a ih =>
      intro ht
      have pa := c _ ht a (by simp [T.ps])
      rw [wval_eq, ← fnd _ ht]
      show wfind _ _ [wval _ a] = wfind _ _ [g a]
      rw [ih pa]
    | t2 x a b ih ih2 =>
      intro ht
      have pa := c _ ht a (by simp [T.ps])
      have pb := c _ ht b (by simp [T.ps])
      rw [wval_eq, ← fnd _ ht]
      show wfind _ _ [wval _ a, wval _ b] = wfind _ _ [g a, g b]
      rw [ih pa, ih2 pb]
  refine ⟨⟨Nat.le_max_right _ _, fun r hr => ?_, fun r hr => ?_, fun r hr v hv => ?_, fun r hr => ?_, pw, ?_, ?_⟩, fun a ha b hb => ?_⟩
  · obtain ⟨t, ht, rfl⟩ := (mem r).mp hr
    exact T.hd_ok (ok t ht)
  · obtain ⟨t, ht, rfl⟩ := (mem r).mp hr
    show (t.ps.map g).length ≤ 2
    rw [List.length_map]; exact t.ps_le
  · obtain ⟨t, ht, rfl⟩ := (mem r).mp hr
    obtain ⟨p, hp, rfl⟩ := List.mem_map.mp (show v ∈ t.ps.map g from hv)
    exact Nat.lt_of_lt_of_le (gl p (c t ht p hp)) (Nat.le_max_left _ _)
  · obtain ⟨t, ht, rfl⟩ := (mem r).mp hr
    exact Nat.lt_of_lt_of_le (gl t ht) (Nat.le_max_left _ _)
  · refine List.pairwise_map.mpr (List.Pairwise.imp_of_mem (fun {r q} hr hq hne e => ?_) (wnodup pw))
    obtain ⟨t, ht, rfl⟩ := (mem r).mp hr
    obtain ⟨u, hu, rfl⟩ := (mem q).mp hq
    have e1 : t.hd = u.hd := congrArg Prod.fst e
    have e2 : t.ps.map g = u.ps.map g := congrArg Prod.snd e
    exact hne (by unfold rowOf; rw [e1, e2, key t ht u hu e1 e2])
  · rw [srtW_len]
    refine Nat.lt_of_le_of_lt ?_ few
    have := nodup_len rs (ts.map (rowOf g)) rw'.nd fun r hr => by
      obtain ⟨t, ht, rfl⟩ := (rw'.mem r).mp hr
      exact List.mem_map_of_mem ht
    rwa [List.length_map] at this
  · rw [val a ha, val b hb, ← dec a ha b hb, Bool.eq_iff_iff, decide_eq_true_iff, decide_eq_true_iff, gi a ha b hb, ← congB_iff, ← dec a ha b hb, decide_eq_true_iff]
end SH
/-! SIA: len of a dict and of a set; a call with a new thing lent; worlds' contracts. -/
namespace SH
open PySem PySem.Spec PyProof.Rows L2 PySem.W
section
variable {X : Cx} {F H : Hp} {σ : L2.St} {S S1 S2 : ASt} {e e2 o : Expr} {d d2 : PyData} {pos pos' np np' : Pos} {p : Addr} {kvs : List (NestedKey × PyData)}
theorem call_lenN : CallR X (.builtin "len") (fun vs H Q => ∃ (F : Hp) (q : Addr) (xs : List Ent), Same F H ∧ vs = [.ref q] ∧ TabAt X.prog X.w H q xs ∧ KeysOk F xs ∧ Q (.int ((xs.length : Nat) : Int)) H) := by
  intro pins s σ H vs us Q I r h
  obtain ⟨F, q, xs, sm, rfl, t, ks, k⟩ := h
  obtain ⟨u, rfl, ru⟩ := vals1 r
  cases (show u = Value.ref q from ru)
  refine call_len_dictH t.sys (dict_of I sm t ks) (by have := t.few; rw [sizeLine_eq] at this; omega) ?_
  exact ⟨.int ((xs.length : Nat) : Int), H, I.tok _, ⟨_, rfl⟩, k⟩
theorem ev_lenN (ho : EvR X e S (.dN p kvs) S) (hm : X.mg "len" = none) (hg : Gl X "len" := by rfl) (he : starEach [e] X.env = (false, eval e X.env) :: starEach [] X.env := by exact star_plain rfl) (hpl : (backTo pos (starEach [] X.env)).any (·.1) = false := by exact back_plain rfl) :
    Ev X (.Call (.Name "len" np) [e] [] pos) S (.int (kvs.length : Nat)) S := by
  refine .ofPE (pe_callB call_lenN hg hm PySem.boot_len (pa_cons (peW X e) pa_nil he) (by decide) (by decide) he hpl) fun F H σ st Q k => ?_
  refine ho F H σ st _ fun v F1 H1 s1 => ?_
  obtain ⟨rfl, xs, t, r⟩ := own_dN s1.own
  refine ⟨F1, p, xs, s1.st.same, rfl, t, keys_of r, ?_⟩
  rw [← Paired.length r]
  exact k _ _ _ s1.stp (.int _)
theorem call_lenS : CallR X (.builtin "len") (fun vs H Q => ∃ (D : Addr) (L : List RowN), vs = [.ref D] ∧ H D = some (NSetO X.w D L) ∧ Q (.int ((L.length : Nat) : Int)) H) := by
  intro pins s σ H vs us Q I r h
  obtain ⟨D, L, rfl, hD, k⟩ := h
  obtain ⟨u, rfl, ru⟩ := vals1 r
  cases (show u = Value.ref D from ru)
  have R0 : NSet0 X.w s.heap D L := (I.hok D _ hD).1
  obtain ⟨es, ep, t, ⟨o, ho, hex, hdt⟩, hr, T, ld, hroom, hfew⟩ := R0.ex
  have hsz := rowsN_size hr
  refine call_len_set ho hex hdt (fitsN hr T (by omega)) (by omega) ?_
  rw [hsz]
  exact ⟨.int ((L.length : Nat) : Int), H, I.tok _, ⟨_, rfl⟩, k⟩
/-- len(set(e)), no two alike -/
theorem ev_lenSet {ks : List NestedKey} {ds : List PyData} (hc : X.calm = true) (hu : X.A.units + 64 < cLine) (he' : Ev X e S d S1) (hd : d = .list ds ∨ d = .tuple ds) (hds : ds = ks.map NestedKey.data) (hk : ∀ k ∈ ks, isTup k = true ∧ k.depth ≤ 8) (hf : ks.length < 64) (nd : ks.Nodup)
    (hm : X.mg "len" = none) (hm2 : X.mg "set" = none) (hg : Gl X "len" := by rfl) (hg2 : Gl X "set" := by rfl)
    (he : starEach [e] X.env = (false, eval e X.env) :: starEach [] X.env := by exact star_plain rfl) (hes : starEach [Expr.Call (.Name "set" np') [e] [] pos'] X.env = (false, eval (Expr.Call (.Name "set" np') [e] [] pos') X.env) :: starEach [] X.env := by exact star_plain rfl) (hpl : (backTo pos (starEach [] X.env)).any (·.1) = false := by exact back_plain rfl) (hpl2 : (backTo pos' (starEach [] X.env)).any (·.1) = false := by exact back_plain rfl) :
    Ev X (.Call (.Name "len" np) [.Call (.Name "set" np') [e] [] pos'] [] pos) S (.int (ks.length : Nat)) S1 := by
  refine .ofPE (pe_callB call_lenS hg hm PySem.boot_len (pa_cons (pe_callTy (call_setN hc hu) hg2 hm2 (by decide +kernel) (pa_cons (peW X e) pa_nil he) (by decide) (by decide) he hpl2) pa_nil hes) (by decide) (by decide) hes hpl) fun F H σ st Q q => ?_
  refine he'.use st fun v F1 H1 p1 w1 => ?_
  obtain ⟨l, us, rfl, hq, wl⟩ : ∃ l us, v = .ref l ∧ (Rd F1 l (.lst us) ∨ Rd F1 l (.tup us)) ∧ Das F1 us ds := by
    rcases hd with rfl | rfl
    · cases w1 with
      | @lst l us _ ql wl => exact ⟨l, us, rfl, .inl ql, wl⟩
    · cases w1 with
      | @tup l us _ ql wl => exact ⟨l, us, rfl, .inr ql, wl⟩
  refine ⟨F1, l, us, ks, p1.st.same, rfl, hq.imp (Rd.same p1.st.same) (Rd.same p1.st.same), by rw [← hds]; exact wl, hk, hf, fun D L hD nd2 hmem hL hl => ?_⟩
  have p2 := p1.trans ⟨p1.st.laid (o := NSetO X.w D L) hD, .laid hD, .refl⟩
  have e1 : L.length = ks.length := by
    rw [← List.length_map (f := (·.2)) (as := L)]
    exact Nat.le_antisymm (nodup_len _ _ nd2 fun x hx => (hmem x).mp hx) (nodup_len _ _ nd fun x hx => (hmem x).mpr hx)
  refine ⟨D, L, rfl, upd_same, ?_⟩
  rw [e1]
  exact q _ _ _ p2 (.int _)
/-- f(a new thing, a datum): the thing is let go behind the call -/
theorem ev_callF {x : Str} {k : Nat} {ct : Ct} {mk : Addr → OV} (G : Fc X.prog X.w X.K X.mg X.base x k 2 ct) (hr : Room k X.A) (h1 : EvO X e S mk S) (h2 : Ev X e2 S d2 S) (hc : ∀ p, ct [mk p, .dat d2] fun r _ => r = .dat d) (hg : Gl X x := by rfl) (hdb : (x == ("__debug__" : Str)) = false := by decide)
    (he : starEach [e, e2] X.env = (false, eval e X.env) :: starEach [e2] X.env := by exact star_plain rfl) (he2 : starEach [e2] X.env = (false, eval e2 X.env) :: starEach [] X.env := by exact star_plain rfl) (hpl : (backTo pos (starEach [e2] X.env)).any (·.1) = false := by exact back_plain rfl) :
    Ev X (.Call (.Name x np) [e, e2] [] pos) S d S := .of fun F H σ st Q q => by
  obtain ⟨⟨f, fd, ps, hF, hB, hk, hm⟩, mono⟩ := G
  refine (pe_call hF hr hg hm hk hB .nil pass0 (pa_cons (peW X e) (pa_cons (peW X e2) pa_nil he2) he) hdb he hpl).wp ?_
  refine h1 F H σ st _ fun v ov F1 H1 Sa g ⟨⟨p, e1⟩, e2⟩ => ?_
  subst e1 e2
  refine h2.use g.st fun u F2 H2 p2 w2 => ?_
  have tr := g.own.tracked
  have own2 : XOwn X F2 H2 v (mk p) := g.own.keep p2.aft.ff fun b hb o eo => p2.aft.kp b o eo (g.new b hb).2
  have fr2 : ∀ b ∈ foot (mk p), F2 b = none := fun b hb => by
    obtain ⟨o, eo⟩ := tr b hb
    rw [p2.aft.nf b o eo (g.new b hb).2]; exact (g.new b hb).1
  have at0 : footAt (args0 [mk p, .dat d2]) 0 = foot (mk p) := rfl
  have atS : ∀ i, footAt (args0 [mk p, .dat d2]) (i + 1) = [] := fun i => by
    cases i with
    | zero => rfl
    | succ i => rfl
  have inA : ∀ b, inFeet (args0 [mk p, .dat d2]) b → b ∈ foot (mk p) := fun b ⟨i, h⟩ => by
    cases i with
    | zero => exact h
    | succ i => rw [atS] at h; cases h
  have stA : StOk X.prog X.w F2 H2 [some v, some u] (args0 [mk p, .dat d2]) := by
    refine ⟨p2.st.same, rfl, fun i ov h => ?_, fun i => ?_, fun i j b hij hb hb2 => ?_, fun b hb => fr2 b (inA b hb)⟩
    · match i, h with
      | 0, h => cases h; exact ⟨v, rfl, own2⟩
      | 1, h => cases h; exact ⟨u, rfl, .dat w2⟩
    · cases i with
      | zero => exact g.nd
      | succ i => rw [atS]; exact .nil
    · cases i with
      | zero =>
        cases j with
        | zero => exact absurd rfl hij
        | succ j => rw [atS] at hb2; cases hb2
      | succ i => rw [atS] at hb; cases hb
  refine ⟨F2, [mk p, .dat d2], rfl, stA, mono _ _ _ (fun r a h v' F3 H3 g3 => ?_) (hc p)⟩
  subst h
  have nin : ∀ b, inFeet Sa b → ¬ inFeet (args0 [mk p, .dat d2]) b := fun b hb z => (g.new b (inA b z)).2 hb
  have st3 : XOk X F3 H3 σ Sa := p2.st.keep g3.aft.ff g3.st.same (fun b hb => by
    obtain ⟨o, eo⟩ := p2.st.foot_tracked hb
    rw [g3.aft.nf b o eo (nin b hb)]; exact p2.st.free b hb) fun b o hb eo => g3.aft.kp b o eo (nin b hb)
  have a12 := g.aft.trans g.gr p2.aft
  refine q v' F3 H3 ⟨st3, a12.trans (fun b hb => g.grv b (inA b hb)) g3.aft, .refl⟩ ?_
  cases g3.own with
  | dat w => exact w
/-- f(a datum of which R is known) -/
theorem ev_call1Q {x : Str} {k : Nat} {ct : Ct} {R : PyData → Prop} (G : Fc X.prog X.w X.K X.mg X.base x k 1 ct) (hr : Room k X.A) (h1 : EVQ X e S fun ov S' => ∃ d1, ov = .dat d1 ∧ R d1 ∧ S' = S) (hc : ∀ d1, R d1 → ct [.dat d1] fun r _ => r = .dat d) (hg : Gl X x := by rfl) (hdb : (x == ("__debug__" : Str)) = false := by decide)
    (he : starEach [e] X.env = (false, eval e X.env) :: starEach [] X.env := by exact star_plain rfl) (hpl : (backTo pos (starEach [] X.env)).any (·.1) = false := by exact back_plain rfl) : Ev X (.Call (.Name x np) [e] [] pos) S d S := fun F H σ st Q q => by
  obtain ⟨⟨f, fd, ps, hF, hB, hk, hm⟩, mono⟩ := G
  refine (pe_call hF hr hg hm hk hB .nil pass0 (pa_cons (peW X e) pa_nil he) hdb he hpl).wp ?_
  refine h1 F H σ st _ fun v ov F1 H1 Sa g ⟨d1, e1, hR, e2⟩ => ?_
  subst e1 e2
  have w : Da F1 v d1 := by
    cases g.own with
    | dat w => exact w
  have rel : ArRel F1 σ [v] [.d d1] := .cons w .nil
  refine ⟨F1, [.dat d1], rfl, g.st.ars (ars := [.d d1]) rel .nil (fun i h => by cases h), mono _ _ _ (fun r a h v' F' H' g' => ?_) (hc d1 hR)⟩
  subst h
  have e : putBack Sa [.d d1] a = Sa := by cases a <;> rfl
  exact q v' (.dat d) F' H' _ (.thn g.stp (.back g.st rel .nil (fun i h => by cases h) g')) ⟨rfl, e⟩
theorem set_self {i : Nat} {x : Option OV} (h : S[i]? = some x) : S.set i x = S := by
  apply List.ext_getElem?
  intro j
  by_cases e : i = j
  · subst e
    rw [h, List.getElem?_set_self (List.getElem?_eq_some_iff.mp h).1]
  · rw [List.getElem?_set_ne e]
/-- sorted(set(rows)) -/
theorem evo_sortedSetW {rs qs : List WR} (hc : X.calm = true) (hu : X.A.units + 64 < cLine) (he' : Ev X e S d S1) (hd : d = .list (rs.map wD) ∨ d = .tuple (rs.map wD)) (hf : rs.length < 64) (hq : qs.Pairwise wlt) (hm' : ∀ r, r ∈ qs ↔ r ∈ rs)
    (hm : X.mg "sorted" = none) (hm2 : X.mg "set" = none) (hg : Gl X "sorted" := by rfl) (hg2 : Gl X "set" := by rfl)
    (he : starEach [e] X.env = (false, eval e X.env) :: starEach [] X.env := by exact star_plain rfl) (hes : starEach [Expr.Call (.Name "set" np') [e] [] pos'] X.env = (false, eval (Expr.Call (.Name "set" np') [e] [] pos') X.env) :: starEach [] X.env := by exact star_plain rfl) (hpl : (backTo pos (starEach [] X.env)).any (·.1) = false := by exact back_plain rfl) (hpl2 : (backTo pos' (starEach [] X.env)).any (·.1) = false := by exact back_plain rfl) :
    EvO X (.Call (.Name "sorted" np) [.Call (.Name "set" np') [e] [] pos'] [] pos) S (fun p => .lst p (qs.map wD)) S1 := by
  have toW : ∀ kl : List NestedKey, (∀ k ∈ kl, ∃ r : WR, k = wkey r) → ∃ ts : List WR, kl = ts.map wkey := by
    intro kl
    induction kl with
    | nil => intro _; exact ⟨[], rfl⟩
    | cons k r ih =>
      intro h
      obtain ⟨t, rfl⟩ := h k List.mem_cons_self
      obtain ⟨ts, rfl⟩ := ih fun x hx => h x (List.mem_cons_of_mem _ hx)
      exact ⟨t :: ts, rfl⟩
  have toW' : ∀ kl : List NestedKey, (∀ k, k ∈ kl ↔ k ∈ rs.map wkey) → ∃ ts : List WR, kl = ts.map wkey := fun kl h => toW kl fun k hk => by
    obtain ⟨t, _, e⟩ := List.mem_map.mp ((h k).mp hk)
    exact ⟨t, e.symm⟩
  have datas : ∀ ts : List WR, (ts.map wkey).map NestedKey.data = ts.map wD := fun ts => by
    rw [List.map_map]; exact List.map_congr_left fun t _ => wkey_data t
  have mem : ∀ (ts : List WR), (∀ k, k ∈ ts.map wkey ↔ k ∈ rs.map wkey) → ∀ t, t ∈ ts ↔ t ∈ rs := fun ts h t => by
    have one : ∀ l : List WR, wkey t ∈ l.map wkey ↔ t ∈ l := fun l => ⟨fun h => by
      obtain ⟨u, hu, e⟩ := List.mem_map.mp h
      rw [← wkey_inj e]; exact hu, fun h => List.mem_map_of_mem h⟩
    rw [← one ts, ← one rs]; exact h _
  intro F H σ st Q q
  refine evq_sortedSet (ks := rs.map wkey) hc hu he' hd (datas rs).symm (fun k hk' => ?_) (by rw [List.length_map]; exact hf) (fun kl nd hkl => ?_) hm hm2 hg hg2 he hes hpl hpl2 F H σ st Q fun v ov F' H' S' g r => ?_
  · obtain ⟨t, ht, rfl⟩ := List.mem_map.mp hk'
    exact ⟨rfl, wkey_depth t⟩
  · obtain ⟨ts, rfl⟩ := toW' kl hkl
    rw [datas]
    exact srt_w ts
  · obtain ⟨p, kl, rfl, nd, hkl, rfl⟩ := r
    obtain ⟨ts, rfl⟩ := toW' kl hkl
    refine q v _ F' H' S' g ⟨⟨p, ?_⟩, rfl⟩
    rw [datas, srtD_w]
    have nd' : ts.Nodup := nodup_of_map nd
    rw [srtW_eq nd' hq fun t => by rw [hm' t]; exact mem ts hkl t]
end
/-! ### contracts -/
theorem wfind_at {rs : List WR} {x : Str} {l : List Nat} {i : Nat} {r : WR} (h : rs[i]? = some r) (hno : ∀ q ∈ rs.take i, ¬ (q.1 = x ∧ q.2.1 = l)) (e : r.1 = x ∧ r.2.1 = l) : wfind rs x l = r.2.2 := by
  unfold wfind
  induction rs generalizing i with
  | nil => simp at h
  | cons a q ih =>
    rw [List.find?_cons]
    cases i with
    | zero =>
      simp only [List.getElem?_cons_zero, Option.some.injEq] at h
      subst h
      simp [e.1, e.2]
    | succ i =>
      have h0 := hno a (by simp)
      have h2 : (decide (a.1 = x) && decide (a.2.1 = l)) = false := by
        rw [← Bool.decide_and]; exact decide_eq_false h0
      rw [h2]
      exact ih (by simpa using h) fun z hz => hno z (by rw [List.take_succ_cons]; exact List.mem_cons_of_mem _ hz)
theorem wfind_none {rs : List WR} {x : Str} {l : List Nat} (hno : ∀ q ∈ rs, ¬ (q.1 = x ∧ q.2.1 = l)) : wfind rs x l = 0 := by
  unfold wfind
  have : (rs.find? fun r => decide (r.1 = x) && decide (r.2.1 = l)) = none := by
    rw [List.find?_eq_none]
    intro q hq
    rw [← Bool.decide_and, decide_eq_true_iff]
    exact hno q hq
  rw [this]; rfl
def ct_value (n : Nat) : Ct := fun args Q => ∃ (m : Nat) (rs : List WR) (t : T), args = [.dat (worldD m rs), .dat t.enc] ∧ t.depth ≤ n ∧ Q (.dat (numD (wval rs t))) args
theorem mo_value (n : Nat) : ∀ args Q Q', (∀ r a, Q r a → Q' r a) → ct_value n args Q → ct_value n args Q' := fun _ _ _ h ⟨m, rs, t, e, z, q⟩ => ⟨m, rs, t, e, z, h _ _ q⟩
def ct_lvalue (n : Nat) : Ct := fun args Q => ∃ (p : Addr) (rs : List WR) (t : T), args = [.dN p (tkw rs), .dat t.enc] ∧ t.depth ≤ n ∧ Q (.dat (numD (wval rs t))) args
theorem mo_lvalue (n : Nat) : ∀ args Q Q', (∀ r a, Q r a → Q' r a) → ct_lvalue n args Q → ct_lvalue n args Q' := fun _ _ _ h ⟨m, rs, t, e, z, q⟩ => ⟨m, rs, t, e, z, h _ _ q⟩
def ct_table : Ct := fun args Q => ∃ (m : Nat) (rs : List WR), args = [.dat (worldD m rs)] ∧ WOk m rs ∧ ∀ p, Q (.dN p (tkw rs)) args
theorem mo_table : ∀ args Q Q', (∀ r a, Q r a → Q' r a) → ct_table args Q → ct_table args Q' := fun _ _ _ h ⟨m, rs, e, z, q⟩ => ⟨m, rs, e, z, fun p => h _ _ (q p)⟩
def ct_isworld : Ct := fun args Q => ∃ (m : Nat) (rs : List WR), args = [.dat (worldD m rs)] ∧ WOk m rs ∧ Q (.dat (.bool true)) args
theorem mo_isworld : ∀ args Q Q', (∀ r a, Q r a → Q' r a) → ct_isworld args Q → ct_isworld args Q' := fun _ _ _ h ⟨m, rs, e, z, q⟩ => ⟨m, rs, e, z, h _ _ q⟩
def ct_row : Ct := fun args Q => ∃ (m : Nat) (r : WR), args = [.dat (wD r), .dat (numD m)] ∧ r.2.1.length ≤ 2 ∧ (∀ v ∈ r.2.1, v < m) ∧ r.2.2 < m ∧ Q (.dat (.bool true)) args
theorem mo_row : ∀ args Q Q', (∀ r a, Q r a → Q' r a) → ct_row args Q → ct_row args Q' := fun _ _ _ h ⟨m, r, e, z, z2, z3, q⟩ => ⟨m, r, e, z, z2, z3, h _ _ q⟩
def ct_world : Ct := fun args Q => ∃ (E : List (T × T)) (us : List T), args = [.dat (toldD E), .dat (.tuple (us.map T.enc))] ∧ Sm E us ∧ (tsOf E us).length < 64 ∧
  ∀ (m : Nat) (rs : List WR), WOk m rs → (∀ a ∈ tsOf E us, ∀ b ∈ tsOf E us, decide (wval rs a = wval rs b) = congB E a b) → (tsOf E us = [] → m = 1 ∧ rs = []) → Q (.dat (worldD m rs)) args
theorem mo_world : ∀ args Q Q', (∀ r a, Q r a → Q' r a) → ct_world args Q → ct_world args Q' := fun _ _ _ h ⟨E, us, e, z, z2, q⟩ => ⟨E, us, e, z, z2, fun m rs h1 h2 h3 => h _ _ (q m rs h1 h2 h3)⟩
def ct_lacking : Ct := fun args Q => ∃ (ns : List Int) (hs : List Str) (us : List T) (m : Nat) (rs : List WR), args = [.dat (dInts ns), .dat (dStrs hs), .dat (.list (us.map T.enc)), .dat (worldD m rs)] ∧ ns.length ≤ 1000 ∧ HsOk hs ∧ us.length ≤ 8 ∧ us ≠ [] ∧ (∀ t ∈ us, t.Ok ∧ t.depth ≤ 7) ∧ WOk m rs ∧ Q (.dat (.bool true)) args
theorem mo_lacking : ∀ args Q Q', (∀ r a, Q r a → Q' r a) → ct_lacking args Q → ct_lacking args Q' := fun _ _ _ h ⟨ns, hs, us, m, rs, e, z1, z2, z3, z4, z5, z6, q⟩ => ⟨ns, hs, us, m, rs, e, z1, z2, z3, z4, z5, z6, h _ _ q⟩
theorem ev_lval {X : Cx} {S : ASt} {e : Expr} {u : T} {pos np py : Pos} {k n : Nat} {p : Addr} {rs : List WR} {y : Str} (G : Fc X.prog X.w X.K X.mg X.base "_law_value" k 2 (ct_lvalue n)) (hr : Room k X.A) (i : Nat) (hS : S[i]? = some (some (.dN p (tkw rs)))) (h : Ev X e S u.enc S) (hd : u.depth ≤ n) (hN : X.N[i]? = some y := by rfl) (hv : Vis X.env.scope y := by first | exact Or.inl rfl | exact Or.inr (Or.inl rfl) | exact Or.inr (Or.inr rfl))
    (hdb : (y == ("__debug__" : Str)) = false := by decide) (hcd : (y == ("__classdict__" : Str)) = false := by decide) (hs : starEach [.Name y py, e] X.env = (false, eval (.Name y py) X.env) :: starEach [e] X.env := by rfl) (hs2 : starEach [e] X.env = (false, eval e X.env) :: starEach [] X.env := by exact star_plain rfl) (hg : Gl X "_law_value" := by rfl) (hpl : (backTo pos (starEach [e] X.env)).any (·.1) = false := by exact back_plain rfl) :
    Ev X (.Call (.Name "_law_value" np) [.Name y py, e] [] pos) S (numD (wval rs u)) S := by
  refine Ev.to (ev_callB (ars := [.b i, .d u.enc]) (as' := [.dN p (tkw rs), .dat u.enc]) G hr (ab_b i (ab_d h ab_nil hs2) hS hN hv hdb hcd hs) ?_ rfl (by simp [slotsOf]) (fun j hj => ?_) hg (by decide) hs hpl) rfl ?_
  · have e1 : [Ar.b i, Ar.d u.enc].map (arOV S) = [.dN p (tkw rs), .dat u.enc] := by rw [List.map_cons, arOV_b hS]; rfl
    rw [e1]
    exact ⟨p, rs, u, rfl, hd, rfl, rfl⟩
  · have : j = i := by simpa [slotsOf] using hj
    rw [this]; exact ⟨_, hS⟩
  · show S.set i (some (.dN p (tkw rs))) = S
    exact set_self hS
/-! ### few terms -/
def inn : T → List T
  | .t0 _ => []
  | .t1 x a => .t1 x a :: inn a
  | .t2 x a b => .t2 x a b :: (inn a ++ inn b)
def nms : T → List Str
  | .t0 x => [x]
  | .t1 _ a => nms a
  | .t2 _ a b => nms a ++ nms b
theorem all_inn : ∀ {t u : T}, u ∈ t.all → u ∈ inn t ∨ ∃ x ∈ nms t, u = .t0 x := by
  intro t
  induction t with
  | t0 x => intro u h; simp [T.all] at h; exact .inr ⟨x, by simp [nms], h⟩
  | t1 x a ih =>
    intro u h
    simp only [T.all, List.mem_cons] at h
    rcases h with rfl | h
    · exact .inl (by simp [inn])
    · rcases ih h with h | ⟨y, hy, e⟩
      · exact .inl (by simp [inn, h])
      · exact .inr ⟨y, by simpa [nms] using hy, e⟩
  | t2 x a b ih ih2 =>
    intro u h
    simp only [T.all, List.mem_cons, List.mem_append] at h
    rcases h with rfl | h | h
    · exact .inl (by simp [inn])
    · rcases ih h with h | ⟨y, hy, e⟩
      · exact .inl (by simp [inn, h])
      · exact .inr ⟨y, by simp [nms, hy], e⟩
    · rcases ih2 h with h | ⟨y, hy, e⟩
      · exact .inl (by simp [inn, h])
      · exact .inr ⟨y, by simp [nms, hy], e⟩
abbrev n3 (hs : List Str) : List Str := [hat hs 0, hat hs 1, hat hs 2]
theorem lterm_nms (hs : List Str) : ∀ (n : Nat) (s : Int), ∀ x ∈ nms (lterm hs n s), x ∈ n3 hs := by
  have h3 : ∀ s : Int, hat hs (lmix s 9967 3).toNat ∈ n3 hs := fun s => by
    have a1 := lmix_lt (c := s) (p := 9967) (m := 3) (by decide)
    have a2 := lmix_nn (c := s) (p := 9967) (m := 3) (by decide)
    have : (lmix s 9967 3).toNat = 0 ∨ (lmix s 9967 3).toNat = 1 ∨ (lmix s 9967 3).toNat = 2 := by omega
    rcases this with e | e | e <;> rw [e] <;> simp
  intro n
  induction n with
  | zero => intro s x hx; rw [lterm] at hx; simp only [nms, List.mem_singleton] at hx; subst hx; exact h3 s
  | succ n ih =>
    intro s x hx
    unfold lterm at hx
    split at hx
    · simp only [nms, List.mem_singleton] at hx; subst hx; exact h3 s
    · split at hx
      · exact ih _ x hx
      · rcases List.mem_append.mp hx with hx | hx
        · exact ih _ x hx
        · exact ih _ x hx
theorem lterm_inn (hs : List Str) : ∀ (n : Nat) (s : Int), (inn (lterm hs n s)).length + 1 ≤ 2 ^ n := by
  intro n
  induction n with
  | zero => intro s; rw [lterm]; exact Nat.le_refl 1
  | succ n ih =>
    intro s
    have hp : 2 ^ (n + 1) = 2 * 2 ^ n := by rw [Nat.pow_succ]; omega
    unfold lterm
    split
    · show 0 + 1 ≤ _; rw [hp]; have := Nat.one_le_two_pow (n := n); omega
    · split
      · have := ih (s * 3 + 1)
        simp only [inn, List.length_cons]
        omega
      · have h1 := ih (s * 3 + 1)
        have h2 := ih (s * 5 + 2)
        simp only [inn, List.length_cons, List.length_append]
        omega
theorem ltower_nms (hs : List Str) : ∀ n, ∀ x ∈ nms (ltower hs n), x ∈ n3 hs
  | 0, x, hx => by simp only [ltower, nms, List.mem_singleton] at hx; subst hx; simp
  | n + 1, x, hx => ltower_nms hs n x hx
theorem ltower_inn (hs : List Str) : ∀ n, (inn (ltower hs n)).length = n
  | 0 => rfl
  | n + 1 => by simp only [ltower, inn, List.length_cons, ltower_inn hs n]
theorem lpair_few (hs : List Str) (c : Int) : (∀ x ∈ nms (lpair hs c).1, x ∈ n3 hs) ∧ (∀ x ∈ nms (lpair hs c).2, x ∈ n3 hs) ∧ (inn (lpair hs c).1 ++ inn (lpair hs c).2).length ≤ 8 := by
  have a1 := lmix_lt (c := c) (p := 9901) (m := 5) (by decide)
  have a2 := lmix_lt (c := c) (p := 9887) (m := 5) (by decide)
  unfold lpair
  split
  · refine ⟨ltower_nms hs _, ltower_nms hs _, ?_⟩
    rw [List.length_append, ltower_inn, ltower_inn]
    omega
  · refine ⟨lterm_nms hs _ _, lterm_nms hs _ _, ?_⟩
    have h1 := lterm_inn hs 2 c
    have h2 := lterm_inn hs 1 (c * 7 + 3)
    rw [List.length_append]
    simp only [] at h1 h2 ⊢
    omega
theorem flat_len {α β : Type} (f : α → List β) {n : Nat} : ∀ {l : List α}, (∀ a ∈ l, (f a).length ≤ n) → (l.flatMap f).length ≤ n * l.length
  | [], _ => by simp
  | a :: l, h => by
    have h1 := h a List.mem_cons_self
    have h2 := flat_len f (l := l) fun x hx => h x (List.mem_cons_of_mem _ hx)
    rw [List.flatMap_cons, List.length_append, List.length_cons, Nat.mul_succ]
    omega
theorem lterms_few (ns : List Int) (hs : List Str) : (tsOf (ltold ns hs) (lterms ns hs (ltold ns hs))).length < 64 := by
  have lE := ltold_len ns hs
  have hE : ∀ p ∈ ltold ns hs, (∀ x ∈ nms p.1, x ∈ n3 hs) ∧ (∀ x ∈ nms p.2, x ∈ n3 hs) ∧ (inn p.1 ++ inn p.2).length ≤ 8 := fun p hp => by
    obtain ⟨c, _, rfl⟩ := List.mem_map.mp hp
    exact lpair_few hs c
  generalize ltold ns hs = E at lE hE
  have lc := lcut_len ns 5 7
  let D : List T := (n3 hs).map .t0 ++ E.flatMap (fun p => inn p.1 ++ inn p.2) ++ (lcut ns 5 7).flatMap (fun c => inn (lterm hs 2 c)) ++ lfirst hs E ++ inn (ltower hs (lcell ns 9 % 5).toNat)
  have hD : D.length < 64 := by
    have h1 := flat_len (fun p : T × T => inn p.1 ++ inn p.2) (n := 8) (l := E) fun p hp => (hE p hp).2.2
    have h2 := flat_len (fun c : Int => inn (lterm hs 2 c)) (n := 3) (l := lcut ns 5 7) fun c _ => by have := lterm_inn hs 2 c; omega
    have h3 : (lfirst hs E).length ≤ 4 := lfirst_len hs E
    have h4 : (inn (ltower hs (lcell ns 9 % 5).toNat)).length ≤ 4 := by
      rw [ltower_inn]
      have := Int.emod_lt_of_pos (lcell ns 9) (by decide : (0 : Int) < 5)
      omega
    show (_ ++ _ ++ _ ++ _ ++ _ : List T).length < 64
    rw [List.length_append, List.length_append, List.length_append, List.length_append, List.length_map]
    simp only [List.length_cons, List.length_nil]
    omega
  refine Nat.lt_of_le_of_lt (nodup_len _ D (parts_nodup _) fun t ht => ?_) hD
  obtain ⟨u, hu, ht⟩ := parts_mem.mp ht
  have nm : ∀ x ∈ n3 hs, T.t0 x ∈ D := fun x hx => by
    refine List.mem_append_left _ (List.mem_append_left _ (List.mem_append_left _ (List.mem_append_left _ (List.mem_map_of_mem hx))))
  have side : ∀ p ∈ E, ∀ u, (u = p.1 ∨ u = p.2) → ∀ t ∈ u.all, t ∈ D := fun p hp u hu t ht => by
    obtain ⟨h1, h2, _⟩ := hE p hp
    rcases all_inn ht with h | ⟨x, hx, rfl⟩
    · refine List.mem_append_left _ (List.mem_append_left _ (List.mem_append_left _ (List.mem_append_right _ (List.mem_flatMap.mpr ⟨p, hp, ?_⟩))))
      rcases hu with rfl | rfl
      · exact List.mem_append_left _ h
      · exact List.mem_append_right _ h
    · refine nm x ?_
      rcases hu with rfl | rfl
      · exact h1 x hx
      · exact h2 x hx
  rcases List.mem_append.mp hu with hu | hu
  · unfold lterms at hu
    rcases List.mem_append.mp hu with hu | hu
    · rcases List.mem_append.mp hu with hu | hu
      · obtain ⟨c, hc, rfl⟩ := List.mem_map.mp hu
        rcases all_inn ht with h | ⟨x, hx, rfl⟩
        · exact List.mem_append_left _ (List.mem_append_left _ (List.mem_append_right _ (List.mem_flatMap.mpr ⟨c, hc, h⟩)))
        · exact nm x (lterm_nms hs 2 c x hx)
      · by_cases e : t = u
        · subst e; exact List.mem_append_left _ (List.mem_append_right _ hu)
        · cases E with
          | nil => cases hu
          | cons p r =>
            have sp := side p List.mem_cons_self
            have n1 : T.t0 (hat hs 1) ∈ D := nm _ (by simp)
            simp only [lfirst, List.mem_cons, List.not_mem_nil, or_false] at hu
            rcases hu with rfl | rfl | rfl | rfl
            · exact sp _ (.inl rfl) t ht
            · simp only [T.all, List.mem_cons] at ht
              exact sp _ (.inr rfl) t (ht.resolve_left e)
            · simp only [T.all, List.mem_cons, List.mem_append, List.not_mem_nil, or_false] at ht
              rcases ht.resolve_left e with ht | rfl
              · exact sp _ (.inl rfl) t ht
              · exact n1
            · simp only [T.all, List.mem_cons, List.mem_append, List.not_mem_nil, or_false] at ht
              rcases ht.resolve_left e with ht | rfl
              · exact sp _ (.inr rfl) t ht
              · exact n1
    · simp only [List.mem_cons, List.not_mem_nil, or_false] at hu
      rcases hu with rfl | rfl
      · rcases all_inn ht with h | ⟨x, hx, rfl⟩
        · exact List.mem_append_right _ h
        · exact nm x (ltower_nms hs _ x hx)
      · simp only [T.all, List.mem_singleton] at ht
        subst ht
        exact nm _ (by simp)
  · obtain ⟨p, hp, q⟩ := List.mem_flatMap.mp hu
    simp only [List.mem_cons, List.not_mem_nil, or_false] at q
    exact side p hp u q t ht
end SH
/-! SIB: dicts with text keys: get, setdefault, dict(pairs), sorted(items); plain tuples. -/
namespace SH
open PySem PySem.Spec PyProof.Rows L2 PySem.W
abbrev kvDK (x : Key × PyData) : PyData := .tuple [kD x.1, x.2]
section
variable {X : Cx} {F H : Hp} {σ : L2.St} {S S1 : ASt} {o i e : Expr} {d : PyData} {pos np apos cpos : Pos} {p : Addr} {kvs : List (Key × PyData)} {k : Key}
/-- d.get(k, v) -/
theorem ev_getDK {dv r : PyData} (hu : X.A.units + 64 < cLine) (ho : EvR X o S (.dK p kvs) S) (hi : Ev X i S (kD k) S) (he : Ev X e S dv S) (hh : Has S (.dK p kvs)) (hr : (kget kvs k).getD dv = r) (m : M2 X o "get" apos i e cpos := by exact ⟨rfl, rfl, rfl, rfl⟩) :
    Ev X (.Call (.Attribute o "get" apos) [i, e] [] cpos) S r S := by
  refine .ofPE (pe_dget2 (by omega) (peW X o) (peW X i) (peW X e) m) fun F H σ st Q q => ?_
  refine ho F H σ st _ fun v F1 H1 s1 => ?_
  obtain ⟨rfl, ws1, t1, _⟩ := own_dK s1.own
  refine ⟨p, rfl, .inl ⟨_, .inl t1⟩, hi.use s1.st fun u F2 H2 p2 w2 => he.use p2.st fun z F3 H3 p3 w3 => ?_⟩
  obtain ⟨v2, o2⟩ := hh.own p3.st
  obtain ⟨_, ws, t, r0⟩ := own_dK o2
  have pp := (s1.stp.trans p2).trans p3
  rcases kget_at k r0 with ⟨h1, h2⟩ | ⟨d', z', h1, h2, h3⟩
  · rw [h1] at hr
    refine ⟨none, by rw [da_key w2, ← h2]; exact .k t, q z F3 H3 pp ?_⟩
    exact (show dv = r from hr) ▸ w3
  · rw [h1] at hr
    refine ⟨some z', by rw [da_key w2, ← h2]; exact .k t, q z' F3 H3 pp ?_⟩
    exact (show d' = r from hr) ▸ h3
/-- d.setdefault(k, v) -/
theorem ev_setdK {dv r : PyData} {S' : ASt} (ho : EvR X o S (.dK p kvs) S) (hi : Ev X i S (kD k) S) (he : Ev X e S dv S) (pl : Place S (.dK p kvs) (.dK p (kput kvs k r)) S') (hself : kget kvs k = some r → S' = S) (hr : (kget kvs k).getD dv = r) (hz : kvs.length < sizeLine) (m : M2 X o "setdefault" apos i e cpos := by exact ⟨rfl, rfl, rfl, rfl⟩) :
    Ev X (.Call (.Attribute o "setdefault" apos) [i, e] [] cpos) S r S' := by
  refine .ofPE (pe_dsetd (peW X o) (peW X i) (peW X e) m) fun F H σ st Q q => ?_
  refine ho F H σ st _ fun v F1 H1 s1 => ?_
  obtain ⟨rfl, ws1, t1, _⟩ := own_dK s1.own
  refine ⟨p, rfl, .inl ⟨_, .inl t1⟩, hi.use s1.st fun u F2 H2 p2 w2 => he.use p2.st fun z F3 H3 p3 w3 => ?_⟩
  obtain ⟨v2, o2⟩ := pl.has.own p3.st
  obtain ⟨_, ws, t, r0⟩ := own_dK o2
  have pp := (s1.stp.trans p2).trans p3
  have hl := Paired.length r0
  refine ⟨ws, k, t, da_key w2, by omega, fun v hv => ?_, fun hn => ?_⟩
  · rcases kget_at k r0 with ⟨_, h2⟩ | ⟨d', z', h1, h2, h3⟩
    · rw [hv] at h2; cases h2
    · rw [hv] at h2; cases h2
      rw [h1] at hr
      have hr' : d' = r := hr
      subst hr'
      have es := hself h1
      subst es
      exact q v F3 H3 pp h3
  · rcases kget_at k r0 with ⟨h1, h2⟩ | ⟨d', z', h1, h2, h3⟩
    · rw [h1] at hr
      have hr' : dv = r := hr
      subst hr'
      refine q z F3 _ (pp.thn (pl.poke p3.st (by simp [foot]) (fun b => by simp [foot]) (by simp [foot]) fun x ox => ?_)) w3
      obtain ⟨rfl, ws', t', r'⟩ := own_dK ox
      rw [t] at t'; cases t'
      exact .dK upd_same (kput_pair w3 r0)
    · rw [hn] at h2; cases h2
/-! ### sorted(d.items()) -/
def itmO (V d : Addr) : HO := .ext fun h => h.IsItemsView V d
theorem itmO_ok {P : Program} {w : World} {H : Hp} {h : Heap} {V d : Addr} (x : h.IsItemsView V d) : ObjOk P w H h V (itmO V d) := by
  have ⟨o, ho, r⟩ := x
  exact ⟨x, ⟨o, ho⟩, fun h1 h2 ⟨o', ho', r'⟩ k => ⟨o', k o' ho', r'⟩⟩
def IsDk (x : V) (H : Hp) : Prop := ∃ q ws, x = .ref q ∧ H q = some (.dK ws)
theorem isDk_ty (pins : List (Addr × Obj)) (s : Shared) (σ : L2.St) (H : Hp) (x : V) (v : Value) (I : L2.Inv X pins σ H s) (r : RelV x v) (h : IsDk x H) : s.TypeIs v "dict" ∧ ∀ a, v = .ref a → ∃ ob, s.heap.get? a = some ob ∧ ob.dict = none := by
  obtain ⟨q, ws, rfl, t⟩ := h
  cases (show v = Value.ref q from r)
  obtain ⟨h1, h2, _⟩ := isD_at I (.inl ⟨ws, .inl t⟩)
  exact ⟨h1, h2⟩
theorem mt_itemsK : MtR X "dict.items" (fun x vs H Q => ∃ q ws, x = .ref q ∧ vs = [] ∧ H q = some (.dK ws) ∧ ∀ V, H V = none → Q (.ref V) (upd H V (itmO V q))) := by
  intro pins s σ H x vs v us Q I rx rv h
  obtain ⟨q, ws, rfl, rfl, t, k⟩ := h
  cases (show v = Value.ref q from rx)
  cases rv
  obtain ⟨hz, hs0, vs, kv, hdo⟩ := dk_of I.hok t
  refine call_meetsIn PySem.F.slot_dict_items hdo.typeIs PySem.F.entry_dict_items (PySem.F.args_dict_items_1 _) (meets_dict_items (mixKind X.prog X.w) q hs0) ⟨⟨vs, hdo⟩, ?_⟩
  have hv : (s.heap.push { cls := .type "dict_items", data := .fields #[.ref q] }).IsItemsView s.heap.objs.size q := ⟨_, Heap.get?_push_size _ rfl, rfl, rfl⟩
  exact ⟨.ref s.heap.objs.size, _, I.laid (t' := s.toks) (fun b o e => Heap.get?_push_of_some _ e) (Nat.le_refl _) (itmO_ok hv), rfl, k _ (I.hok.fresh (Nat.le_refl _))⟩
/-- the tuples that were made are tracked -/
theorem items_tracked {pins : List (Addr × Obj)} {s : Shared} {h' : Heap} {tk : Nat} {ws : List (Key × V)} {vs : List (Key × Value)} {as : List Addr} (I : L2.Inv X pins σ H s) (kv : KV ws vs)
    (hk : ∀ b o, s.heap.get? b = some o → h'.get? b = some o) (hl : as.length = vs.length) (hG : PySem.W.KdxG (mixKind X.prog X.w) vs s.heap.objs.size h' as) :
    as.Nodup ∧ (∀ t ∈ as, H t = none) ∧ L2.Inv X pins σ (LiI.putT H as ws) { s with heap := h', toks := tk } := by
  have lk : ws.length = vs.length := Paired.length kv
  have nd : as.Nodup := List.Pairwise.imp (fun {a b} (h : a < b) => Nat.ne_of_lt h) hG.rise
  have new : ∀ t ∈ as, H t = none := fun t ht => I.hok.fresh (Nat.le_of_lt (hG.above t ht))
  have atP := LiI.putT_at as ws H (by omega) nd
  have off : ∀ b, b ∉ as → LiI.putT H as ws b = H b := fun b h1 => LiI.putT_off as ws _ h1
  have low : ∀ b o, s.heap.get? b = some o → b ∉ as := fun b o e z => absurd (Heap.lt_size e) (Nat.not_lt.mpr (Nat.le_of_lt (hG.above b z)))
  have kp : ∀ b u, H b = some u → (LiI.putT H as ws) b = some u := fun b u e => by
    rw [off b (fun z => by rw [new b z] at e; cases e)]
    exact e
  refine ⟨nd, new, ?_⟩
  refine I.call' (ch := []) rfl ⟨fun b o q _ _ _ => hk b o q, fun b o q _ _ _ => ⟨o.slots, hk b o q⟩, fun b o q n _ => ?_, fun b o q _ => ⟨o, hk b o q⟩, fun b xs q => kp b _ q, fun b o u q => kp b _ q, fun b ps q => ⟨#[], by rw [kp b _ q]; simp⟩⟩ (fun b u q => ?_) I.bare fun b z => by simp at z
  · rw [off b (low b o q)]
    exact n
  · by_cases hb : b ∈ as
    · obtain ⟨j, pk, e1, e2, e3⟩ := LiI.paired_ix atP hb
      rw [e3] at q
      cases q
      obtain ⟨key, k, x, f1, f2, f3⟩ := hG.pairs j b e1
      obtain ⟨qv, g1, g2, g3⟩ := LiI.paired_get kv e2
      rw [f1] at g1
      cases g1
      have rk : RelV (kV pk.1) key := by
        rw [g2]
        exact relV_key (show keyIs k key = true from f2)
      exact ⟨by show 2 ≤ sizeLine; decide, [key, x], .cons rk (.cons g3 .nil), ⟨_, f3, rfl, _, rfl⟩⟩
    · rw [off b hb] at q
      exact (I.hok b u q).stay (fun d v _ y => hk d v y) (fun d y => kp d _ y) fun d xs y => kp d _ y
theorem putT_some : ∀ (as : List Addr) (ws : List (Key × V)) (H : Hp) (b : Addr) (o : HO), (∀ t ∈ as, H t = none) → H b = some o → LiI.putT H as ws b = some o := fun as ws H b o hn e => by
  rw [LiI.putT_off as ws _ (fun z => by rw [hn b z] at e; cases e)]; exact e
theorem stp_putT {P : Program} {w : World} : ∀ (as : List Addr) (ws : List (Key × V)) {F H : Hp}, as.Nodup → (∀ t ∈ as, H t = none) → StOk P w F H σ S → Stp P w F H S (LiI.putT F as ws) (LiI.putT H as ws) σ S
  | [], _, _, _, _, _, st => .refl st
  | _ :: _, [], _, _, _, _, st => .refl st
  | a :: as, x :: ws, F, H, nd, hn, st => by
    have nd' := List.nodup_cons.mp nd
    have p1 := Stp.frozen (o := .tup [kV x.1, x.2]) st (hn a List.mem_cons_self)
    refine p1.trans (stp_putT as ws nd'.2 (fun t ht => ?_) p1.st)
    rw [upd_ne (fun z : t = a => nd'.1 (by rw [← z]; exact ht))]
    exact hn t (List.mem_cons_of_mem _ ht)
theorem wp_sortedX {prog : Program} {w : World} {A : Around} {E : Value → Shared → Prop} {s : Shared} {r : Addr} {Q : Value → Shared → Prop} {ds : List PyData} {Pc : Shared → List Value → Prop}
    (C : ∀ (R' : List Value → Shared → Prop), (∀ s1 out, Pc s1 out → R' out s1) → wpAny (model prog w) A.in1 (collect (.ref r)) R' E s) (hn : ds.length ≤ sizeLine)
    (hal : AllAlike ds) (hk : Sortable ds) (hu : ∀ d ∈ ds, A.in1.units + 1 + d.depth < cLine)
    (hP : ∀ s1 out, Pc s1 out → ∃ R : Value → PyData → Prop, EachIs R out ds ∧ (∀ v d, R v d → ∃ as, Reads s1.heap v d as) ∧
      ∀ (s' : Shared) (D : Addr) (out' : List Value) (c : Nat), (∀ b o, s1.heap.get? b = some o → s'.heap.get? b = some o) → s'.gens = s1.gens → s'.os = s1.os → s1.heap.objs.size ≤ D → s'.heap.get? D = some (seqObj "list" out'.toArray c) → EachIs R out' (srtD ds) → Q (.ref D) s') :
    wpAny (model prog w) A (call (.builtin "sorted") [.ref r]) Q E s := by
  refine PySem.Calls.call_function_entry kind_sorted plain_sorted entry_sorted (args_sorted1 _) ?_
  unfold Builtin.«sorted»
  refine wpAny_bind (m := checkCount "sorted" 1 1 _) (wpAny_pure ?_)
  refine wpAny_bind (C _ fun s1 acc hacc => ?_)
  obtain ⟨R, e, er, h⟩ := hP s1 acc hacc
  have hl : acc.length = ds.length := e.length
  refine wpAny_bind (wpAny_newList ?_ (by rw [hl]; exact hn))
  have er2 : EachIs (fun v d => ∃ as, Reads (s1.heap.push { cls := .type "list", data := .seq acc.toArray }) v (id d) as ∧ s1.heap.objs.size ∉ as) acc ds := e.mono fun v d rv => by
    obtain ⟨as, hr⟩ := er v d rv
    exact ⟨as, PyProof.Rows.Reads.keeps (fun b o eb => Heap.get?_push_of_some _ eb) hr, fun hm => absurd (reads_lt d v as hr _ hm) (Nat.lt_irrefl _)⟩
  have hnew : (s1.heap.push { cls := .type "list", data := .seq acc.toArray }).get? s1.heap.objs.size = some (seqObj "list" acc.toArray 0) := Heap.get?_push_size _ rfl
  refine wpAny_bind (wpAny_holding (list_sort_data (prog := prog) (w := w) (A := A.in1) (s := { s1 with heap := s1.heap.push { cls := .type "list", data := .seq acc.toArray } }) (enc := id) (R := R) (bs := ds) hnew e er2 (by rw [List.map_id]; exact hal) (by rw [List.map_id]; exact hk) hn (fun d hd => hu d hd) fun out hol ho2 => ?_))
  refine wpAny_pure ⟨_, rfl, ?_⟩
  obtain ⟨c, hc⟩ := sortedHeap_at (vs := acc) (out := out.toArray) hnew
  refine h _ s1.heap.objs.size out c (fun b o eb => ?_) rfl rfl (Nat.le_refl _) hc ho2
  have hb := Heap.lt_size eb
  show (sortedHeap (s1.heap.push (seqObj "list" acc.toArray 0)) s1.heap.objs.size acc out.toArray).get? b = some o
  rw [sortedHeap_old (Nat.ne_of_lt hb) (by rw [size_push']; exact Nat.lt_succ_of_lt hb)]
  exact Heap.get?_push_of_some _ eb
theorem items_das {kvs : List (Key × PyData)} : ∀ {ws : List (Key × V)} {as : List Addr} {F' : Hp}, Paired (EntK F') kvs ws → Paired (fun (t : Addr) (q : Key × V) => F' t = some (.tup [kV q.1, q.2])) as ws → EachIs (RelD F') (as.map Value.ref) (kvs.map kvDK) := by
  intro ws as F' r
  induction r generalizing as with
  | nil => intro q; cases q; exact .nil
  | @cons a b _ _ h _ ih =>
    intro q
    cases q with
    | cons q1 q2 =>
      refine .cons ⟨.ref _, rfl, .tup (.inl q1) (.cons ?_ (.cons h.2 .nil))⟩ (ih q2)
      rw [← h.1]
      cases a.1 with
      | inl n => exact .int n
      | inr x => exact .str x
theorem call_sortedIt (hu : X.A.units + 64 < cLine) (hh : X.A.handled = none) : CallR X (.builtin "sorted") (fun vs H Q => ∃ (F : Hp) (vw q : Addr) (ws : List (Key × V)) (kvs : List (Key × PyData)), Same F H ∧ vs = [.ref vw] ∧ H vw = some (itmO vw q) ∧ H q = some (.dK ws) ∧ Paired (EntK F) kvs ws ∧ Srt (kvs.map kvDK) ∧
    ∀ (as : List Addr) D us, as.Nodup → (∀ t ∈ as, H t = none) → LiI.putT H as ws D = none → Das (LiI.putT F as ws) us (srtD (kvs.map kvDK)) → Q (.ref D) (upd (LiI.putT H as ws) D (.lst us))) := by
  intro pins s σ H vs us Q I r h
  obtain ⟨F, V, q, ws, kvs, sm, rfl, hV, t, pr, so, k⟩ := h
  obtain ⟨u, rfl, ru⟩ := vals1 r
  cases (show u = Value.ref V from ru)
  have hview : s.heap.IsItemsView V q := (I.hok V _ hV).1
  obtain ⟨hz, hs0, vs, kv, hdo⟩ := dk_of I.hok t
  obtain ⟨ep, hat⟩ := hdo.dictAt
  have lk : ws.length = vs.length := Paired.length kv
  have hkl := Paired.length pr
  refine wp_sortedX (ds := kvs.map kvDK) (Pc := fun s1 out => ∃ (h' : Heap) (tk : Nat) (as : List Addr), s1 = { s with heap := h', toks := tk } ∧ out = as.map Value.ref ∧ (∀ b o, s.heap.get? b = some o → h'.get? b = some o) ∧ as.length = vs.length ∧ KdxG (mixKind X.prog X.w) vs s.heap.objs.size h' as)
    (fun R' hR => kdx_collect (knd := mixKind X.prog X.w) (kvs := vs) (ep := ep) (A := X.A.in1) (by simpa using hh) hview hat (by omega) fun h' tk as hk hl hG => hR _ _ ⟨h', tk, as, rfl, rfl, hk, hl, hG⟩) (by rw [List.length_map]; omega) so.al so.so (srt_units hu so) ?_
  rintro s1 out ⟨h', tk, as, rfl, rfl, hk, hl, hG⟩
  obtain ⟨nd, new, J⟩ := items_tracked (tk := tk) I kv hk hl hG
  have newF : ∀ t ∈ as, F t = none := fun t ht => sm.free (new t ht)
  have sF : Same F (LiI.putT F as ws) := fun b o e => putT_some as ws F b o newF e
  have sm2 : Same (LiI.putT F as ws) (LiI.putT H as ws) := fun b o e => by
    by_cases hb : b ∈ as
    · obtain ⟨j, pk, e1, e2, e3⟩ := LiI.paired_ix (LiI.putT_at as ws F (by omega) nd) hb
      obtain ⟨j', pk', e1', e2', e3'⟩ := LiI.paired_ix (LiI.putT_at as ws H (by omega) nd) hb
      rw [e3] at e
      have ej : j = j' := by
        have l1 := List.getElem?_eq_some_iff.mp e1
        have l2 := List.getElem?_eq_some_iff.mp e1'
        exact (List.getElem_inj (h₀ := l1.1) (h₁ := l2.1) nd).mp (l1.2.trans l2.2.symm)
      subst ej
      rw [e2] at e2'
      cases e2'
      rw [e3', ← e]
    · rw [LiI.putT_off as ws _ hb] at e
      rw [LiI.putT_off as ws _ hb]; exact sm b o e
  have pr' : Paired (EntK (LiI.putT F as ws)) kvs ws := Paired.mapP pr fun _ _ z => ⟨z.1, Da.mono sF _ _ z.2⟩
  refine ⟨RelD (LiI.putT F as ws), items_das pr' (LiI.putT_at as ws F (by omega) nd), fun v d h => reld_reads J sm2 h, fun s' D out c keep hg hos hle hat2 ho => ?_⟩
  obtain ⟨us, hv, hw⟩ := each_vals ho
  have hn2 : LiI.putT H as ws D = none := J.hok.fresh hle
  have hlz : us.length ≤ sizeLine := by
    have h1 := hw.length
    rw [List.length_mergeSort, List.length_map] at h1
    omega
  have J2 : L2.Inv X pins σ (upd (LiI.putT H as ws) D (.lst us)) { ({ s with heap := h', toks := tk } : Shared) with heap := s'.heap, gens := s'.gens, drawn := s'.drawn, toks := s'.toks } :=
    J.call (ch := []) (Un.laid keep hle hn2) (J.hok.laid keep hle ⟨hlz, out, c, hv, hat2⟩) (by rw [hg]; exact J.bare) (fun _ z => nomatch z)
  have e : s' = { ({ s with heap := h', toks := tk } : Shared) with heap := s'.heap, gens := s'.gens, drawn := s'.drawn, toks := s'.toks } := by
    cases s'; cases s; cases hos; rfl
  rw [e]
  exact ⟨.ref D, _, J2, rfl, k as D us nd new hn2 hw⟩
theorem evo_sortedIt (hu : X.A.units + 64 < cLine) (hh : X.A.handled = none) (ho : EvR X o S (.dK p kvs) S) (so : Srt (kvs.map kvDK)) (hm : X.mg "sorted" = none) (hg : Gl X "sorted" := by rfl)
    (hbase : attributeBase o "items" X.env (eval o X.env) = eval o X.env := by rfl) (hline : (apos.endLine == cpos.line) = true := by rfl)
    (he : starEach [Expr.Call (.Attribute o "items" apos) [] [] cpos] X.env = (false, eval (Expr.Call (.Attribute o "items" apos) [] [] cpos) X.env) :: starEach [] X.env := by exact star_plain rfl) (hpl : (backTo pos (starEach [] X.env)).any (·.1) = false := by exact back_plain rfl) :
    EvO X (.Call (.Name "sorted" np) [.Call (.Attribute o "items" apos) [] [] cpos] [] pos) S (fun p => .lst p (srtD (kvs.map kvDK))) S := fun F H σ st Q q => by
  refine (pe_callB (call_sortedIt hu hh) hg hm boot_sorted (pa_cons (pe_bm0G IsDk isDk_ty PySem.F.plainAttrs_dict PySem.F.slot_dict_items PySem.F.type_dict_items mt_itemsK (peW X o) hbase hline) pa_nil he) (by decide) (by decide) he hpl).wp ?_
  refine ho F H σ st _ fun v F1 H1 s1 => ?_
  obtain ⟨rfl, ws, t, r⟩ := own_dK s1.own
  refine ⟨⟨p, ws, rfl, t⟩, p, ws, rfl, rfl, t, fun V hV => ?_⟩
  have p2 := s1.stp.trans ⟨s1.st.laid (o := itmO V p) hV, .laid hV, .refl⟩
  refine ⟨F1, V, p, ws, kvs, p2.st.same, rfl, upd_same, ?_, r, so, fun as D us nd hn hD hw => ?_⟩
  · rw [upd_ne (fun e => by rw [e, hV] at t; cases t)]; exact t
  · have p3 := p2.trans (stp_putT as ws nd hn p2.st)
    exact q _ _ _ _ S (Got.made p3 hD rfl (.lst upd_same hw)) ⟨⟨D, rfl⟩, rfl⟩
end
end SH
/-! SIC: dict(pairs) with text keys; tuples without a dict. -/
namespace SH
open PySem PySem.Spec PyProof.Rows L2 PySem.W
abbrev E5 := Addr × Key × V × Value × Value
def kputs (kvs : List (Key × PyData)) : List (Key × PyData) := kvs.foldl (fun acc x => kput acc x.1 x.2) []
theorem kputs_nd {kvs acc : List (Key × PyData)} (nd : (kvs.map (·.1)).Nodup) (h : ∀ x ∈ kvs, ∀ y ∈ acc, x.1 ≠ y.1) : kvs.foldl (fun acc x => kput acc x.1 x.2) acc = acc ++ kvs := by
  induction kvs generalizing acc with
  | nil => simp
  | cons kv r ih =>
    have nd' := List.nodup_cons.mp (by simpa using nd : (kv.1 :: r.map (·.1)).Nodup)
    have e1 : kput acc kv.1 kv.2 = acc ++ [kv] := by
      unfold kput
      rw [if_neg ?_]
      rw [Bool.not_eq_true, List.any_eq_false]
      intro y hy
      rw [decide_eq_true_iff]
      exact fun z => h kv List.mem_cons_self y hy z.symm
    rw [List.foldl_cons, e1, ih nd'.2 fun x hx y hy => ?_]
    · simp
    · rcases List.mem_append.mp hy with hy | hy
      · exact h x (List.mem_cons_of_mem _ hx) y hy
      · rw [List.mem_singleton.mp hy]
        exact fun z => nd'.1 (z ▸ List.mem_map.mpr ⟨x, hx, rfl⟩)
theorem kputs_id {kvs : List (Key × PyData)} (nd : (kvs.map (·.1)).Nodup) : kputs kvs = kvs := by
  unfold kputs
  rw [kputs_nd nd (fun _ _ _ h => by cases h)]; rfl
theorem merge_pair {F : Hp} : ∀ {kvs acc : List (Key × PyData)} {ws aws : List (Key × V)}, Paired (EntK F) kvs ws → Paired (EntK F) acc aws → Paired (EntK F) (kvs.foldl (fun acc x => kput acc x.1 x.2) acc) (mergeK aws ws)
  | [], _, _, _, .nil, h => h
  | kv :: r, acc, _, aws, @Paired.cons _ _ _ _ x _ xs q t, h => by
    have e : kv.1 = x.1 := q.1
    have st := kput_pair (k := kv.1) q.2 h
    show Paired (EntK F) (r.foldl _ (kput acc kv.1 kv.2)) (mergeK (putK aws x.1 x.2) xs)
    rw [← e]
    exact merge_pair t st
section
variable {X : Cx} {F H : Hp} {σ : L2.St} {S S1 S2 : ASt} {a b e : Expr} {d : PyData} {np pos : Pos} {p : Addr}
theorem pairsK_of {pins : List (Addr × Obj)} {s : Shared} (I : L2.Inv X pins σ H s) (sm : Same F H) : ∀ {kvs : List (Key × PyData)} {us : List V} {vals : List Value}, Das F us (kvs.map kvDK) → Vals us vals →
    ∃ E : List E5, vals = E.map (fun x => .ref x.1) ∧ Paired (EntK F) kvs (E.map fun x => (x.2.1, x.2.2.1)) ∧ KV (E.map fun x => (x.2.1, x.2.2.1)) (E.map fun x => (x.2.1, x.2.2.2.2)) ∧ ∀ x ∈ E, PairAt s.heap x.1 x.2.2.2.1 x.2.2.2.2 ∧ (mixKind X.prog X.w).is x.2.1 x.2.2.2.1 = true
  | [], _, _, .nil, .nil => ⟨[], rfl, .nil, .nil, fun _ h => by cases h⟩
  | kv :: r, _, _, .cons w1 w2, .cons r1 r2 => by
    obtain ⟨E, e1, e2, e3, e4⟩ := pairsK_of I sm w2 r2
    cases w1 with
    | @tup T vs _ q w =>
      cases w with
      | @cons vk _ _ _ wk w =>
        cases w with
        | @cons vv _ _ _ wv w =>
          cases w
          have ek := da_key wk
          subst ek
          cases r1
          have sq : SqT X.K H T [kV kv.1, vv] := .inl (Rd.same sm q)
          obtain ⟨its, rv, p, hz⟩ := I.tuple sq
          cases rv with
          | cons ra rv =>
            cases rv with
            | cons rb rv =>
              cases rv
              rename_i x1 x2
              refine ⟨(T, kv.1, vv, x1, x2) :: E, by rw [e1]; rfl, .cons ⟨rfl, wv⟩ e2, .cons ⟨rfl, rb⟩ e3, fun x hx => ?_⟩
              rcases List.mem_cons.mp hx with rfl | hx
              · exact ⟨.inl p, kV_is ra⟩
              · exact e4 x hx
theorem call_dictK (hh : X.A.handled = none) : CallR X (.type "dict") (fun vs H Q => ∃ (F : Hp) (q : Addr) (us : List V) (kvs : List (Key × PyData)), Same F H ∧ vs = [.ref q] ∧ (Rd H q (.lst us) ∨ ∃ o, H q = some (.frz o (.tup us)) ∧ o.dict = none) ∧ Das F us (kvs.map kvDK) ∧ kvs.length ≤ sizeLine ∧
    ∀ (D : Addr) (ws : List (Key × V)), H D = none → Paired (EntK F) (kputs kvs) ws → Q (.ref D) (upd H D (.dK ws))) := by
  intro pins s σ H vs us Q I r h
  obtain ⟨F, q, ws, kvs, sm, rfl, hq, w, hz, k⟩ := h
  obtain ⟨u, rfl, ru⟩ := vals1 r
  cases (show u = Value.ref q from ru)
  have hb := I.big
  have fin : ∀ (E : List E5), Paired (EntK F) kvs (E.map fun x => (x.2.1, x.2.2.1)) → KV (E.map fun x => (x.2.1, x.2.2.1)) (E.map fun x => (x.2.1, x.2.2.2.2)) → ∀ (h' : Heap) (tk : Nat), h'.DictOf (mixKind X.prog X.w) s.heap.objs.size (merged [] (E.map fun x => (x.2.1, x.2.2.2.2))) → (∀ b o, s.heap.get? b = some o → h'.get? b = some o) →
      EP X pins σ Q (.ref s.heap.objs.size) { s with heap := h', toks := tk } := fun E pe kv h' tk hd kp => by
    have hm : (s.heap.objs.size == sysModules) = false := beq_eq_false_iff_ne.mpr (Nat.ne_of_gt hb)
    have hlen : (mergeK [] (E.map fun x => (x.2.1, x.2.2.1))).length ≤ sizeLine := by
      refine Nat.le_trans (length_mergeK _ []) ?_
      rw [List.length_nil, Nat.zero_add, ← Paired.length pe]
      exact hz
    exact ⟨.ref s.heap.objs.size, upd H s.heap.objs.size (.dK (mergeK [] (E.map fun x => (x.2.1, x.2.2.1)))), I.laid (t' := tk) kp (Nat.le_refl _) (show ObjOk X.prog X.w _ _ _ (.dK (mergeK [] (E.map fun x => (x.2.1, x.2.2.1)))) from ⟨hlen, hm, merged [] (E.map fun x => (x.2.1, x.2.2.2.2)), KV.merge kv .nil, hd⟩), rfl,
      k _ _ (I.hok.fresh (Nat.le_refl _)) (merge_pair pe .nil)⟩
  have items : ∀ (E : List E5), (∀ x ∈ E, PairAt s.heap x.1 x.2.2.2.1 x.2.2.2.2 ∧ (mixKind X.prog X.w).is x.2.1 x.2.2.2.1 = true) → PairItems s.heap (E.map (fun x => Value.ref x.1)).toArray (fun j => ((E[j]?).map (·.1)).getD 0) (E.map fun x => (x.2.2.2.1, x.2.2.2.2)) := fun E hE => ⟨by simp, fun j kk vv hj => by
    rw [List.getElem?_map] at hj
    obtain ⟨x, hx, ex⟩ := Option.map_eq_some_iff.mp hj
    cases ex
    refine ⟨by simp [hx], ?_⟩
    show PairAt s.heap (((E[j]?).map (·.1)).getD 0) _ _
    rw [hx]
    exact (hE x (List.mem_of_getElem? hx)).1⟩
  have have' : ∀ (E : List E5), (∀ x ∈ E, PairAt s.heap x.1 x.2.2.2.1 x.2.2.2.2 ∧ (mixKind X.prog X.w).is x.2.1 x.2.2.2.1 = true) → PairsHave (mixKind X.prog X.w) (E.map fun x => (x.2.2.2.1, x.2.2.2.2)).length (PairRel (E.map fun x => (x.2.2.2.1, x.2.2.2.2))) (E.map fun x => (x.2.1, x.2.2.2.2)) := fun E hE => ⟨by simp, fun i key v hR => by
    have hR : (E.map fun x => (x.2.2.2.1, x.2.2.2.2))[i]? = some (key, v) := hR
    rw [List.getElem?_map] at hR
    obtain ⟨x, hx, ex⟩ := Option.map_eq_some_iff.mp hR
    cases ex
    exact ⟨x.2.1, by rw [List.getElem?_map, hx]; rfl, (hE x (List.mem_of_getElem? hx)).2⟩⟩
  rcases hq with hq | ⟨o, hq, hd⟩
  · obtain ⟨z, its, n, rv, e1⟩ := hq.ok I.hok
    obtain ⟨E, ee, pe, kv, hE⟩ := pairsK_of I sm w rv
    have PA := PairArg.list (prog := X.prog) (w := X.w) q its.toArray (fun j => ((E[j]?).map (·.1)).getD 0) (E.map fun x => (x.2.2.2.1, x.2.2.2.2))
    refine call_dict_pairs (knd := mixKind X.prog X.w) PA hh ⟨⟨_, n, e1, rfl, rfl, rfl⟩, by rw [ee]; exact items E hE⟩ (have' E hE) (by have := Paired.length pe; simp only [List.length_map] at this ⊢; omega) fun h' tk hd kp => ?_
    exact fin E pe kv h' tk hd fun b o => kp b o (by simp)
  · obtain ⟨hat, hz', its, rv, o2, g1, g2, n, g3⟩ := (show ObjOk X.prog X.w H s.heap q (.frz o (.tup ws)) from I.hok q _ hq)
    rw [hat] at g1
    cases g1
    obtain ⟨E, ee, pe, kv, hE⟩ := pairsK_of I sm w rv
    have PA := PairArg.tuple (prog := X.prog) (w := X.w) q its.toArray (fun j => ((E[j]?).map (·.1)).getD 0) (E.map fun x => (x.2.2.2.1, x.2.2.2.2))
    refine call_dict_pairs (knd := mixKind X.prog X.w) PA hh ⟨⟨_, n, hat, g2, hd, g3⟩, by rw [ee]; exact items E hE⟩ (have' E hE) (by have := Paired.length pe; simp only [List.length_map] at this ⊢; omega) fun h' tk hd kp => ?_
    exact fin E pe kv h' tk hd fun b o => kp b o (by simp)
theorem own_ptp {v : V} {ds : List PyData} (o : XOwn X F H v (.ptp p ds)) : v = .ref p ∧ ∃ ob vs, H p = some (.frz ob (.tup vs)) ∧ ob.dict = none ∧ Das F vs ds := by
  cases o with
  | ptp q e r => exact ⟨rfl, _, _, q, e, r⟩
/-- dict(a list of pairs) -/
theorem evo_dictKL {kvs : List (Key × PyData)} (hh : X.A.handled = none) (he' : Ev X e S (.list (kvs.map kvDK)) S1) (hz : kvs.length ≤ sizeLine) (nd : (kvs.map (·.1)).Nodup) (hm : X.mg "dict" = none) (hv : bootBuiltins "dict" = some (.type "dict") := by decide +kernel) (hg : Gl X "dict" := by rfl) (he : starEach [e] X.env = (false, eval e X.env) :: starEach [] X.env := by exact star_plain rfl) (hpl : (backTo pos (starEach [] X.env)).any (·.1) = false := by exact back_plain rfl) :
    EvO X (.Call (.Name "dict" np) [e] [] pos) S (fun p => .dK p kvs) S1 := fun F H σ st Q q => by
  refine (pe_callTy (call_dictK hh) hg hm hv (pa_cons (peW X e) pa_nil he) (by decide) (by decide) he hpl).wp ?_
  refine he'.use st fun v F1 H1 p1 w1 => ?_
  cases w1 with
  | @lst l us _ ql wl =>
    refine ⟨F1, l, us, kvs, p1.st.same, rfl, .inl (Rd.same p1.st.same ql), wl, hz, fun D ws hD pr => ?_⟩
    rw [kputs_id nd] at pr
    exact q _ _ _ _ S1 (Got.made p1 hD rfl (.dK upd_same pr)) ⟨⟨D, rfl⟩, rfl⟩
/-- dict(a tuple of pairs) -/
theorem evo_dictKP {kvs : List (Key × PyData)} (hh : X.A.handled = none) (ho : EvR X e S (.ptp p (kvs.map kvDK)) S) (hz : kvs.length ≤ sizeLine) (nd : (kvs.map (·.1)).Nodup) (hm : X.mg "dict" = none) (hv : bootBuiltins "dict" = some (.type "dict") := by decide +kernel) (hg : Gl X "dict" := by rfl) (he : starEach [e] X.env = (false, eval e X.env) :: starEach [] X.env := by exact star_plain rfl) (hpl : (backTo pos (starEach [] X.env)).any (·.1) = false := by exact back_plain rfl) :
    EvO X (.Call (.Name "dict" np) [e] [] pos) S (fun p => .dK p kvs) S := fun F H σ st Q q => by
  refine (pe_callTy (call_dictK hh) hg hm hv (pa_cons (peW X e) pa_nil he) (by decide) (by decide) he hpl).wp ?_
  refine ho F H σ st _ fun v F1 H1 s1 => ?_
  obtain ⟨rfl, ob, vs, h1, h2, h3⟩ := own_ptp s1.own
  refine ⟨F1, p, vs, kvs, s1.st.same, rfl, .inr ⟨ob, h1, h2⟩, h3, hz, fun D ws hD pr => ?_⟩
  rw [kputs_id nd] at pr
  exact q _ _ _ _ S (Got.made s1.stp hD rfl (.dK upd_same pr)) ⟨⟨D, rfl⟩, rfl⟩
/-- tuple(a list): it has no dict -/
theorem call_tuple_new : CallR X (.type "tuple") (fun xs H Q => ∃ p ys, xs = [.ref p] ∧ SqL X.K H p ys ∧ ∀ l o, H l = none → o.dict = none → Q (.ref l) (upd H l (.frz o (.tup ys)))) := by
  intro pins s σ H xs us Q I r h
  obtain ⟨p, ys, rfl, hq, q⟩ := h
  obtain ⟨u, rfl, rx⟩ := vals1 r
  cases rx
  obtain ⟨its, r', pl, hz⟩ := I.list hq
  have hlen := r'.length
  refine call_tuple_list pl.isList (fun h' kp => ?_) (by simp only [List.size_toArray] <;> omega)
  have I1 : L2.Inv X pins σ H { s with heap := h' } := I.kept (t' := s.toks) kp
  have I2 : L2.Inv X pins σ (upd H h'.objs.size (.frz { cls := .type "tuple", data := .seq its.toArray } (.tup ys))) { s with heap := h'.push { cls := .type "tuple", data := .seq its.toArray } } :=
    I1.laid (t' := s.toks) (fun b o e => Heap.get?_push_of_some _ e) (Nat.le_refl _) (show ObjOk X.prog X.w _ _ _ (.frz _ (.tup ys)) from ⟨Heap.get?_push_size _ rfl, hz, its, r', IsTup.new _ _⟩)
  exact ⟨.ref h'.objs.size, _, I2, rfl, q _ _ (I1.hok.fresh (Nat.le_refl _)) rfl⟩
theorem evo_tupP {ds : List PyData} (he' : Ev X e S (.list ds) S1) (hm : X.mg "tuple" = none) (hv : bootBuiltins "tuple" = some (.type "tuple") := by decide +kernel) (hg : Gl X "tuple" := by rfl) (he : starEach [e] X.env = (false, eval e X.env) :: starEach [] X.env := by exact star_plain rfl) (hpl : (backTo pos (starEach [] X.env)).any (·.1) = false := by exact back_plain rfl) :
    EvO X (.Call (.Name "tuple" np) [e] [] pos) S (fun p => .ptp p ds) S1 := fun F H σ st Q q => by
  refine (pe_callTy call_tuple_new hg hm hv (pa_cons (peW X e) pa_nil he) (by decide) (by decide) he hpl).wp ?_
  refine he'.use st fun v F1 H1 p1 w1 => ?_
  cases w1 with
  | @lst l us _ ql wl =>
    exact ⟨l, us, rfl, .inl (Rd.same p1.st.same ql), fun D o hD ho => q _ _ _ _ S1 (Got.made p1 hD rfl (.ptp upd_same ho wl)) ⟨⟨D, rfl⟩, rfl⟩⟩
theorem EvO.freezeP {ds : List PyData} (h : EvO X e S (fun p => .ptp p ds) S1) : Ev X e S (.tuple ds) S1 := fun F H σ st Q q => by
  refine h F H σ st Q fun v ov F' H' S' g r => ?_
  obtain ⟨⟨p, rfl⟩, rfl⟩ := r
  have hn := g.new p (by simp [foot])
  cases g.own with
  | @ptp _ o vs _ e _ w =>
    have hsame : Same F' (upd F' p (.frz o (.tup vs))) := same_upd hn.1
    refine q _ (.dat (.tuple ds)) (upd F' p (.frz o (.tup vs))) H' S' ?_ ⟨rfl, rfl⟩
    have st' : XOk X (upd F' p (.frz o (.tup vs))) H' σ S' := by
      refine g.st.keep hsame (fun b u eb => ?_) (fun b hb => ?_) fun b u _ eb => eb
      · by_cases hbp : b = p
        · subst hbp; rw [upd_same] at eb; cases eb; exact e
        · rw [upd_ne hbp] at eb; exact g.st.same b u eb
      · have : b ≠ p := fun z => hn.2 (z ▸ hb)
        rw [upd_ne this]; exact g.st.free b hb
    refine .of ⟨st', ⟨g.aft.ff.trans hsame, fun b u eb nb => ?_, g.aft.kp, g.aft.tr⟩, g.gr⟩ (.tup (.inr ⟨o, upd_same⟩) (Das.mono hsame _ _ w))
    have hbp : b ≠ p := fun z => by
      subst z
      rcases g.grv b (by simp [foot]) with z | z
      · exact nb z
      · rw [z] at eb; cases eb
    rw [upd_ne hbp]; exact g.aft.nf b u eb nb
theorem StOk.freezeP {P : Program} {w : World} {j : Nat} {p' : Addr} {ds : List PyData} (st : StOk P w F H σ S) (hS : S[j]? = some (some (.ptp p' ds))) : ∃ F', Stp P w F H S F' H σ (S.set j (some (.dat (.tuple ds)))) := by
  obtain ⟨v, e1, o1⟩ := st.slot j _ hS
  have hp : p' ∈ footAt S j := by rw [footAt_some hS]; simp [foot]
  have hF : F p' = none := st.free p' ⟨j, hp⟩
  have hlt : j < S.length := (List.getElem?_eq_some_iff.mp hS).1
  cases o1 with
  | @ptp _ o vs _ q _ w' =>
    have hs : Same F (upd F p' (.frz o (.tup vs))) := same_upd hF
    have fj : footAt (S.set j (some (.dat (.tuple ds)))) j = [] := by rw [footAt_set hlt]; rfl
    have fall : ∀ i b, b ∈ footAt (S.set j (some (.dat (.tuple ds)))) i → i ≠ j ∧ b ∈ footAt S i := fun i b h => by
      by_cases hij : j = i
      · subst hij; rw [fj] at h; simp at h
      · exact ⟨fun z => hij z.symm, by rw [footAt_ne hij] at h; exact h⟩
    refine ⟨upd F p' (.frz o (.tup vs)), ⟨fun b z e => ?_, by rw [List.length_set]; exact st.len, fun i ov h => ?_, fun i => ?_, fun i l b hil h1 h2 => st.apart i l b hil (fall i b h1).2 (fall l b h2).2, fun b ⟨i, h⟩ => ?_⟩, ⟨hs, fun b z e nb => ?_, fun b z e _ => e, fun b z e => ⟨z, e⟩⟩, fun b ⟨i, h⟩ => .inl ⟨i, (fall i b h).2⟩⟩
    · by_cases hb : b = p'
      · subst hb; rw [upd_same] at e; cases e; exact q
      · rw [upd_ne hb] at e; exact st.same b z e
    · by_cases hij : j = i
      · subst hij
        rw [List.getElem?_set_self hlt] at h
        cases h
        exact ⟨_, e1, .dat (.tup (.inr ⟨o, upd_same⟩) (Das.mono hs _ _ w'))⟩
      · rw [List.getElem?_set_ne hij] at h
        obtain ⟨x, g1, g2⟩ := st.slot i ov h
        exact ⟨x, g1, g2.keep hs fun b hb z e => e⟩
    · by_cases hij : j = i
      · subst hij; rw [fj]; exact .nil
      · rw [footAt_ne hij]; exact st.nd i
    · obtain ⟨hij, hb⟩ := fall i b h
      rw [upd_ne (fun z => st.apart i j b hij hb (by rw [z]; exact hp))]
      exact st.free b ⟨i, hb⟩
    · rw [upd_ne (fun z => nb ⟨j, by rw [z]; exact hp⟩)]
theorem sx_freezeP (j : Nat) {p' : Addr} {ds : List PyData} {st : List Stmt} {D : AE} (hS : S[j]? = some (some (.ptp p' ds))) (h : SX X st (S.set j (some (.dat (.tuple ds)))) D) : SX X st S D := fun F H σ ok D' k => by
  obtain ⟨F', p⟩ := ok.freezeP hS
  exact h F' H σ p.st D' (k.go p)
/-- a plain tuple is not None -/
theorem evt_ptpSome {ds : List PyData} {kk : Nat} {cp : Pos} (ho : EvR X a S (.ptp p ds) S) (hm : behindInMarks .IsNot (.Constant .none kk cp) = false := by rfl) : EvT X (.Compare a [.IsNot] [.Constant .none kk cp] pos) S true S := fun F H σ st Q k => by
  refine (pt_cmpR op_notN (peW X a) (peW X _) hm).wp ?_
  refine ho F H σ st _ fun v F1 H1 s1 => ?_
  refine ev_none.use s1.st fun u F2 H2 p2 w2 => ?_
  obtain ⟨rfl, _⟩ := own_ptp s1.own
  cases w2
  exact ⟨rfl, true, rfl, k F2 H2 (s1.stp.trans p2)⟩
/-- a list times 0 or 1 -/
theorem op_rep1 : OpR X (binaryOp .Mult) (fun x y H Q => ∃ l xs c, x = .ref l ∧ y = .int (if c = true then 1 else 0) ∧ Rd H l (.lst xs) ∧ ∀ p, H p = none → Q (.ref p) (upd H p (.lst (if c = true then xs else [])))) := by
  intro pins s σ H x y v u Q I rx ry h
  obtain ⟨l, xs, c, rfl, rfl, hH, q⟩ := h
  cases rx
  obtain ⟨t, rfl⟩ := ry
  obtain ⟨z, its, n, r, e⟩ := hH.ok I.hok
  have hl := r.length
  generalize hk : (if c = true then (1 : Int) else 0) = k
  have k01 : k = 0 ∨ k = 1 := by cases c <;> simp at hk <;> omega
  have hlen : its.toArray.size * k.toNat ≤ sizeLine := by
    rw [List.size_toArray, ← hl]
    rcases k01 with rfl | rfl
    · exact Nat.zero_le _
    · show xs.length * 1 ≤ _; omega
  have hcap : ¬ its.toArray.size * k.toNat > (2 ^ 63 - 1) / 8 := by
    have : (sizeLine : Nat) ≤ (2 ^ 63 - 1) / 8 := by decide
    omega
  have hfit : ¬ (!Builtin.List.listFitsIndex k) = true := by
    rw [fitsIndex_both (by omega) (by omega)]
    exact Bool.false_ne_true
  have hlong : ¬ Builtin.List.listTooLong (its.toArray.size * k.toNat) = true := by
    rw [notLongL hlen]
    exact Bool.false_ne_true
  have hnew : List.foldl (fun x1 x2 => x1 ++ x2) #[] (List.replicate (if its.toArray.isEmpty = true then 0 else k.toNat) its.toArray) = (if c = true then its else []).toArray := by
    cases c with
    | true =>
      have : k = 1 := by rw [← hk]; rfl
      subst this
      cases its with
      | nil => rfl
      | cons a b => simp [List.replicate]
    | false =>
      have : k = 0 := by rw [← hk]; rfl
      subst this
      cases its with
      | nil => rfl
      | cons a b => simp [List.replicate]
  refine wpAny_binaryOp_repeat_ref (T := "list") (U := "int") (by decide) ⟨_, e, rfl⟩ (fun s' => typeIs_int s' k t) noFill_list_mul PySem.F.fills_int_mul PySem.F.slot_int_rmul repeat_list PySem.F.slot_int_index.lookup
    (call_meets PySem.F.slot_int_rmul (typeIs_int s k t) PySem.F.entry_int_rmul (PySem.F.args_int_rmul_2 _ _) (int___rmul___int_list k t l its.toArray n)
      ⟨e, rfl, ⟨_, e, rfl⟩, call_meets PySem.F.slot_list_mul ⟨_, e, rfl⟩ PySem.F.entry_list_mul (PySem.F.args_list_mul_2 _ _) (AutoListH.list___mul___list_int_3 l its.toArray n k t hfit hcap hlong) ⟨e, ?_⟩⟩)
  rw [hnew]
  have rv : Vals (if c = true then xs else []) (if c = true then its else []) := by
    cases c with
    | true => exact r
    | false => exact .nil
  exact ⟨.ref _, _, I.lnew (t' := s.toks) rv (by cases c <;> simp <;> omega), rfl, q _ I.fresh⟩
theorem o_rep1 {ds : List PyData} {c : Bool} : OpD X (binaryOp .Mult) (.list ds) (.int (if c then 1 else 0)) (.list (if c then ds else [])) :=
  ⟨_, op_rep1, fun F H σ S v u st h1 h2 Q k => by
    cases h1 with
    | @lst l xs _ q w =>
      have eu : u = .int (if c = true then 1 else 0) := by cases h2; rfl
      subst eu
      refine ⟨l, xs, c, rfl, rfl, Rd.same st.same q, fun p hp => ?_⟩
      refine k _ _ _ (.frozen st hp) (.lst rd_new (Das.mono (same_upd (st.fnone hp)) _ _ ?_))
      cases c with
      | true => exact w
      | false => exact .nil⟩
end
end SH
/-! SID: patterns and terms, in plain Lean. -/
namespace SH
open PySem PySem.Spec PyProof.Rows L2 PySem.W
abbrev Bnd := List (Str × T)
def bget (f : Bnd) (x : Str) : Option T := (f.find? fun y => decide (y.1 = x)).map (·.2)
abbrev bK (f : Bnd) : List (Key × PyData) := f.map fun y => (.inr y.1, y.2.enc)
abbrev bD (y : Str × T) : PyData := .tuple [.str y.1, y.2.enc]
theorem bK_pairs (f : Bnd) : (bK f).map kvDK = f.map bD := by rw [List.map_map]; rfl
theorem bK_nd {f : Bnd} (nd : (f.map (·.1)).Nodup) : ((bK f).map (·.1)).Nodup := by
  rw [List.map_map]
  exact List.pairwise_map.mpr ((List.pairwise_map.mp nd).imp fun {a b} h e => h (by injection e))
theorem kget_bK (f : Bnd) (x : Str) : kget (bK f) (.inr x) = (bget f x).map T.enc := by
  unfold kget bget
  induction f with
  | nil => rfl
  | cons y r ih =>
    rw [bK, List.map_cons, List.find?_cons, List.find?_cons]
    by_cases e : y.1 = x
    · subst e; simp
    · have h1 : decide ((Sum.inr y.1 : Key) = .inr x) = false := decide_eq_false fun z => e (by injection z)
      have h2 : decide (y.1 = x) = false := decide_eq_false e
      rw [h1, h2]; exact ih
theorem kput_bK_new {f : Bnd} {x : Str} (h : bget f x = none) (t : T) : kput (bK f) (.inr x) t.enc = bK (f ++ [(x, t)]) := by
  unfold kput
  have hx : ∀ y ∈ f, y.1 ≠ x := fun y hy e => by
    unfold bget at h
    rw [Option.map_eq_none_iff, List.find?_eq_none] at h
    exact h y hy (by simp [e])
  rw [if_neg ?_]
  · unfold bK; rw [List.map_append]; rfl
  · rw [Bool.not_eq_true, List.any_eq_false]
    intro z hz
    obtain ⟨y, hy, rfl⟩ := List.mem_map.mp hz
    rw [decide_eq_true_iff]
    exact fun q => hx y hy (by injection q)
theorem bget_mem {f : Bnd} {x : Str} {u : T} (h : bget f x = some u) : (x, u) ∈ f := by
  unfold bget at h
  obtain ⟨y, hy, e⟩ := Option.map_eq_some_iff.mp h
  have h1 := List.mem_of_find?_eq_some hy
  have h2 := List.find?_some hy
  have h3 : y.1 = x := by simpa using h2
  rw [← h3, ← e]; exact h1
theorem mem_bget {f : Bnd} (nd : (f.map (·.1)).Nodup) {x : Str} {u : T} (h : (x, u) ∈ f) : bget f x = some u := by
  cases e : bget f x with
  | none =>
    unfold bget at e
    rw [Option.map_eq_none_iff, List.find?_eq_none] at e
    exact absurd (decide_eq_true (rfl : x = x)) (e _ h)
  | some v =>
    have := key_unique nd h (bget_mem e) rfl
    rw [show u = v from congrArg Prod.snd this]
theorem bget_some {f : Bnd} {x : Str} : (bget f x).isSome = true ↔ x ∈ f.map (·.1) := by
  constructor
  · intro h
    obtain ⟨u, e⟩ := Option.isSome_iff_exists.mp h
    exact List.mem_map.mpr ⟨_, bget_mem e, rfl⟩
  · intro h
    obtain ⟨y, hy, e⟩ := List.mem_map.mp h
    cases q : bget f x with
    | some u => rfl
    | none =>
      unfold bget at q
      rw [Option.map_eq_none_iff, List.find?_eq_none] at q
      exact absurd e (by simpa using q y hy)
theorem kput_bK_same {f : Bnd} (nd : (f.map (·.1)).Nodup) {x : Str} {u : T} (h : bget f x = some u) : kput (bK f) (.inr x) u.enc = bK f := by
  unfold kput
  split
  · conv => rhs; rw [← List.map_id (bK f)]
    refine List.map_congr_left fun z hz => ?_
    obtain ⟨y, hy, rfl⟩ := List.mem_map.mp hz
    show (if (Sum.inr y.1 : Key) = .inr x then ((Sum.inr y.1 : Key), u.enc) else (.inr y.1, y.2.enc)) = (.inr y.1, y.2.enc)
    split
    · rename_i q
      have q : y.1 = x := by injection q
      have : bget f y.1 = some y.2 := mem_bget nd hy
      rw [q, h] at this
      cases this; rfl
    · rfl
  · rename_i hn
    exact absurd (List.any_eq_true.mpr ⟨(.inr x, u.enc), List.mem_map.mpr ⟨(x, u), bget_mem h, rfl⟩, by simp⟩) hn
/-! ### terms put for names -/
def putF (f : Bnd) : T → T
  | .t0 x => (bget f x).getD (.t0 x)
  | .t1 x a => .t1 x (putF f a)
  | .t2 x a b => .t2 x (putF f a) (putF f b)
theorem putF_ext {f g : Bnd} : ∀ {t : T}, (∀ x ∈ nms t, bget f x = bget g x) → putF f t = putF g t := by
  intro t
  induction t with
  | t0 x => intro h; show (bget f x).getD _ = (bget g x).getD _; rw [h x (by simp [nms])]
  | t1 x a ih => intro h; show T.t1 x _ = T.t1 x _; rw [ih h]
  | t2 x a b ih ih2 =>
    intro h
    show T.t2 x _ _ = T.t2 x _ _
    rw [ih fun y hy => h y (by simp [nms, hy]), ih2 fun y hy => h y (by simp [nms, hy])]
theorem putF_nil : ∀ t : T, putF [] t = t := by
  intro t
  induction t with
  | t0 x => rfl
  | t1 x a ih => show T.t1 x _ = _; rw [ih]
  | t2 x a b ih ih2 => show T.t2 x _ _ = _; rw [ih, ih2]
theorem putF_out {f : Bnd} {t : T} (h : ∀ x ∈ nms t, bget f x = none) : putF f t = t := by
  rw [putF_ext (g := []) fun x hx => by rw [h x hx]; rfl, putF_nil]
theorem putF_one (x : Str) (o : T) : ∀ t : T, putF [(x, o)] t = t.put x o := by
  intro t
  induction t with
  | t0 y =>
    show ((([(x, o)] : Bnd).find? fun z => decide (z.1 = y)).map (·.2)).getD (.t0 y) = _
    unfold T.put
    by_cases e : y = x
    · subst e; simp
    · have : decide (x = y) = false := decide_eq_false fun z => e z.symm
      simp [this, e]
  | t1 y a ih => show T.t1 y _ = _; rw [ih]; rfl
  | t2 y a b ih ih2 => show T.t2 y _ _ = _; rw [ih, ih2]; rfl
theorem putF_ok {f : Bnd} (hf : ∀ y ∈ f, y.2.Ok) : ∀ {t : T}, t.Ok → (putF f t).Ok := by
  intro t
  induction t with
  | t0 x =>
    intro h
    show ((bget f x).getD (.t0 x)).Ok
    cases e : bget f x with
    | none => exact h
    | some u => exact hf _ (bget_mem e)
  | t1 x a ih => intro h; exact ⟨h.1, ih h.2⟩
  | t2 x a b ih ih2 => intro h; exact ⟨h.1, ih h.2.1, ih2 h.2.2⟩
theorem putF_depth {f : Bnd} {n : Nat} (hf : ∀ y ∈ f, y.2.depth ≤ n + 1) : ∀ t : T, (putF f t).depth ≤ t.depth + n := by
  intro t
  induction t with
  | t0 x =>
    show ((bget f x).getD (.t0 x)).depth ≤ 1 + n
    cases e : bget f x with
    | none => show 1 ≤ _; omega
    | some u => have := hf _ (bget_mem e); show u.depth ≤ _; simp only [] at this; omega
  | t1 x a ih => simp only [putF, T.depth]; omega
  | t2 x a b ih ih2 => simp only [putF, T.depth]; omega
/-! ### matching -/
def matchT (nm : List Str) : T → T → Bnd → Bool × Bnd
  | .t0 x, t, f => if x ∈ nm then (match bget f x with | some u => (decide (u = t), f) | none => (true, f ++ [(x, t)])) else (decide (t = .t0 x), f)
  | .t1 x a, t, f => match t with | .t1 y b => if x = y then matchT nm a b f else (false, f) | _ => (false, f)
  | .t2 x a b, t, f => match t with | .t2 y c d => if x = y then ((matchT nm a c f).1 && (matchT nm b d (matchT nm a c f).2).1, (matchT nm b d (matchT nm a c f).2).2) else (false, f) | _ => (false, f)
/-- what stays in each case -/
structure MOk (nm : List Str) (p : T) (f g : Bnd) : Prop where
  ext : ∀ x u, bget f x = some u → bget g x = some u
  nd : (f.map (·.1)).Nodup → (g.map (·.1)).Nodup
  sub : ∀ x, (bget g x).isSome = true → (bget f x).isSome = true ∨ x ∈ nm ∧ x ∈ nms p
  len : g.length ≤ f.length + p.size
theorem MOk.refl {nm : List Str} {p : T} {f : Bnd} : MOk nm p f f := ⟨fun _ _ h => h, id, fun _ h => .inl h, by omega⟩
theorem bget_app {f : Bnd} {x y : Str} {t u : T} (h : bget f y = some u) : bget (f ++ [(x, t)]) y = some u := by
  unfold bget at h ⊢
  rw [List.find?_append]
  cases e : f.find? fun z => decide (z.1 = y) with
  | none => rw [e] at h; cases h
  | some z => rw [e] at h; exact h
theorem match_ok (nm : List Str) : ∀ (p t : T) (f : Bnd), MOk nm p f (matchT nm p t f).2 := by
  intro p
  induction p with
  | t0 x =>
    intro t f
    unfold matchT
    split
    · rename_i hx
      cases e : bget f x with
      | some u => exact .refl
      | none =>
        have hout : x ∉ f.map (·.1) := fun z => by rw [← bget_some, e] at z; cases z
        refine ⟨fun y u h => bget_app h, fun nd => ?_, fun y h => ?_, ?_⟩
        · show ((f ++ [(x, t)]).map (·.1)).Nodup
          rw [List.map_append, List.nodup_append]
          exact ⟨nd, by simp, fun a ha b hb z => by simp only [List.map_cons, List.map_nil, List.mem_singleton] at hb; subst hb z; exact hout ha⟩
        · rw [bget_some] at h ⊢
          have h : y ∈ (f ++ [(x, t)]).map (·.1) := h
          rw [List.map_append] at h
          rcases List.mem_append.mp h with h | h
          · exact .inl h
          · simp only [List.map_cons, List.map_nil, List.mem_singleton] at h
            subst h
            exact .inr ⟨hx, by simp [nms]⟩
        · show (f ++ [(x, t)]).length ≤ _
          rw [List.length_append, T.size]; exact Nat.le_refl _
    · exact .refl
  | t1 x a ih =>
    intro t f
    cases t with
    | t0 y => exact .refl
    | t2 y b c => exact .refl
    | t1 y b =>
      unfold matchT
      dsimp only
      split
      · obtain ⟨h1, h2, h3, h4⟩ := ih b f
        exact ⟨h1, h2, h3, by simp only [T.size]; omega⟩
      · exact .refl
  | t2 x a b ih ih2 =>
    intro t f
    cases t with
    | t0 y => exact .refl
    | t1 y c => exact .refl
    | t2 y c d =>
      unfold matchT
      dsimp only
      split
      · obtain ⟨h1, h2, h3, h4⟩ := ih c f
        obtain ⟨g1, g2, g3, g4⟩ := ih2 d (matchT nm a c f).2
        refine ⟨fun x u h => g1 x u (h1 x u h), fun nd => g2 (h2 nd), fun x h => ?_, by simp only [T.size]; omega⟩
        rcases g3 x h with h | ⟨h, k⟩
        · rcases h3 x h with h | ⟨h, k⟩
          · exact .inl h
          · exact .inr ⟨h, by simp [nms, k]⟩
        · exact .inr ⟨h, by simp [nms, k]⟩
      · exact .refl
theorem match_sound (nm : List Str) : ∀ (p t : T) (f : Bnd), (∀ x, (bget f x).isSome = true → x ∈ nm) → (matchT nm p t f).1 = true →
    putF (matchT nm p t f).2 p = t ∧ ∀ x ∈ nms p, x ∈ nm → (bget (matchT nm p t f).2 x).isSome = true := by
  intro p
  induction p with
  | t0 x =>
    intro t f hf h
    unfold matchT at h ⊢
    split at h
    · rename_i hx
      rw [if_pos hx]
      cases e : bget f x with
      | some u =>
        rw [e] at h
        have hu : u = t := of_decide_eq_true h
        subst hu
        refine ⟨?_, fun y hy _ => ?_⟩
        · show (bget f x).getD _ = u
          rw [e]; rfl
        · simp only [nms, List.mem_singleton] at hy
          subst hy
          show (bget f y).isSome = true
          rw [e]; rfl
      | none =>
        have b : bget (f ++ [(x, t)]) x = some t := by
          unfold bget at e ⊢
          rw [List.find?_append]
          rw [Option.map_eq_none_iff] at e
          rw [e]; simp
        refine ⟨?_, fun y hy _ => ?_⟩
        · show (bget (f ++ [(x, t)]) x).getD _ = t
          rw [b]; rfl
        · simp only [nms, List.mem_singleton] at hy
          subst hy
          show (bget (f ++ [(y, t)]) y).isSome = true
          rw [b]; rfl
    · rename_i hx
      rw [if_neg hx]
      have ht : t = .t0 x := of_decide_eq_true h
      subst ht
      have b : bget f x = none := by
        cases e : bget f x with
        | none => rfl
        | some u => exact absurd (hf x (by rw [e]; rfl)) hx
      refine ⟨?_, fun y hy hn => ?_⟩
      · show (bget f x).getD _ = _
        rw [b]; rfl
      · simp only [nms, List.mem_singleton] at hy
        subst hy
        exact absurd hn hx
  | t1 x a ih =>
    intro t f hf h
    cases t with
    | t0 y => cases h
    | t2 y b c => cases h
    | t1 y b =>
      unfold matchT at h ⊢
      dsimp only at h ⊢
      split at h
      · rename_i e
        subst e
        rw [if_pos rfl]
        obtain ⟨h1, h2⟩ := ih b f hf h
        exact ⟨by show T.t1 x _ = _; rw [h1], h2⟩
      · cases h
  | t2 x a b ih ih2 =>
    intro t f hf h
    cases t with
    | t0 y => cases h
    | t1 y c => cases h
    | t2 y c d =>
      unfold matchT at h ⊢
      dsimp only at h ⊢
      split at h
      · rename_i e
        subst e
        rw [if_pos rfl]
        dsimp only at h ⊢
        rw [Bool.and_eq_true] at h
        obtain ⟨h1, h2⟩ := ih c f hf h.1
        have m1 := match_ok nm a c f
        have m2 := match_ok nm b d (matchT nm a c f).2
        have hf2 : ∀ x, (bget (matchT nm a c f).2 x).isSome = true → x ∈ nm := fun x hx => by
          rcases m1.sub x hx with k | k
          · exact hf x k
          · exact k.1
        have hf3 : ∀ x, (bget (matchT nm b d (matchT nm a c f).2).2 x).isSome = true → x ∈ nm := fun x hx => by
          rcases m2.sub x hx with k | k
          · exact hf2 x k
          · exact k.1
        obtain ⟨g1, g2⟩ := ih2 d _ hf2 h.2
        have e1 : putF (matchT nm b d (matchT nm a c f).2).2 a = c := by
          refine (putF_ext fun z hz => ?_).trans h1
          by_cases hn : z ∈ nm
          · obtain ⟨u, eu⟩ := Option.isSome_iff_exists.mp (h2 z hz hn)
            rw [eu, m2.ext z u eu]
          · have n1 : bget (matchT nm a c f).2 z = none := by
              cases q : bget (matchT nm a c f).2 z with
              | none => rfl
              | some u => exact absurd (hf2 z (by rw [q]; rfl)) hn
            have n2 : bget (matchT nm b d (matchT nm a c f).2).2 z = none := by
              cases q : bget (matchT nm b d (matchT nm a c f).2).2 z with
              | none => rfl
              | some u => exact absurd (hf3 z (by rw [q]; rfl)) hn
            rw [n1, n2]
        refine ⟨by show T.t2 x _ _ = _; rw [e1, g1], fun z hz hn => ?_⟩
        simp only [nms, List.mem_append] at hz
        rcases hz with hz | hz
        · obtain ⟨u, eu⟩ := Option.isSome_iff_exists.mp (h2 z hz hn)
          rw [m2.ext z u eu]; rfl
        · exact g2 z hz hn
      · cases h
theorem match_complete (nm : List Str) (σ : Bnd) (hσ : ∀ x, x ∈ nm ↔ (bget σ x).isSome = true) : ∀ (p : T) (f : Bnd), (∀ x u, bget f x = some u → bget σ x = some u) →
    (matchT nm p (putF σ p) f).1 = true ∧ ∀ x u, bget (matchT nm p (putF σ p) f).2 x = some u → bget σ x = some u := by
  intro p
  induction p with
  | t0 x =>
    intro f hf
    unfold matchT
    split
    · rename_i hx
      obtain ⟨v, ev⟩ := Option.isSome_iff_exists.mp ((hσ x).mp hx)
      have ep : putF σ (.t0 x) = v := by show (bget σ x).getD _ = v; rw [ev]; rfl
      rw [ep]
      cases e : bget f x with
      | some u =>
        have := hf x u e
        rw [ev] at this
        cases this
        exact ⟨decide_eq_true rfl, hf⟩
      | none =>
        refine ⟨rfl, fun y u h => ?_⟩
        have h := bget_mem h
        rcases List.mem_append.mp h with h | h
        · cases q : bget f y with
          | some w =>
            have h0 : bget (f ++ [(x, v)]) y = some w := bget_app q
            have h1 : bget (f ++ [(x, v)]) y = some u := by assumption
            rw [h0] at h1
            cases h1
            exact hf y _ q
          | none =>
            exfalso
            have : y ∈ f.map (·.1) := List.mem_map.mpr ⟨_, h, rfl⟩
            rw [← bget_some, q] at this; cases this
        · simp only [List.mem_singleton, Prod.mk.injEq] at h
          obtain ⟨rfl, rfl⟩ := h
          exact ev
    · rename_i hx
      have ev : bget σ x = none := by
        cases q : bget σ x with
        | none => rfl
        | some u => exact absurd ((hσ x).mpr (by rw [q]; rfl)) hx
      have ep : putF σ (.t0 x) = .t0 x := by show (bget σ x).getD _ = _; rw [ev]; rfl
      rw [ep]
      exact ⟨decide_eq_true rfl, hf⟩
  | t1 x a ih =>
    intro f hf
    have e : matchT nm (.t1 x a) (putF σ (.t1 x a)) f = matchT nm a (putF σ a) f := by
      show matchT nm (.t1 x a) (.t1 x (putF σ a)) f = _
      conv => lhs; unfold matchT
      dsimp only
      rw [if_pos rfl]
    rw [e]
    exact ih f hf
  | t2 x a b ih ih2 =>
    intro f hf
    obtain ⟨h1, h2⟩ := ih f hf
    obtain ⟨g1, g2⟩ := ih2 _ h2
    show (matchT nm (.t2 x a b) (.t2 x (putF σ a) (putF σ b)) f).1 = true ∧ ∀ z u, bget (matchT nm (.t2 x a b) (.t2 x (putF σ a) (putF σ b)) f).2 z = some u → _
    have e : matchT nm (.t2 x a b) (.t2 x (putF σ a) (putF σ b)) f = ((matchT nm a (putF σ a) f).1 && (matchT nm b (putF σ b) (matchT nm a (putF σ a) f).2).1, (matchT nm b (putF σ b) (matchT nm a (putF σ a) f).2).2) := by
      conv => lhs; unfold matchT
      dsimp only
      rw [if_pos rfl]
    rw [e]
    exact ⟨by rw [Bool.and_eq_true]; exact ⟨h1, g1⟩, g2⟩
/-! ### pairs in order -/
def blt (a b : Str × T) : Prop := dlt (bD a) (bD b)
abbrev srtB (f : Bnd) : Bnd := f.mergeSort (dataLe false bD)
theorem srtD_b (f : Bnd) : srtD (f.map bD) = (srtB f).map bD := by
  unfold srtD srtB
  rw [List.map_mergeSort]
  intro a _ b _; rfl
theorem srtB_mem {f : Bnd} {y : Str × T} : y ∈ srtB f ↔ y ∈ f := List.mem_mergeSort
theorem bD_toks (y : Str × T) : keyToks (bD y) = .inl 1 :: .inr y.1.cps.toList :: .inl 1 :: (keyToks y.2.enc ++ [.inl 0]) := by simp [keyToks, keyToksAll]
theorem btoks_inj {a b : Str × T} (h : keyToks (bD a) = keyToks (bD b)) : a = b := by
  rw [bD_toks, bD_toks] at h
  simp only [List.cons.injEq, Sum.inr.injEq, true_and] at h
  obtain ⟨h1, h2⟩ := h
  obtain ⟨e, _⟩ := toks_pre _ _ _ _ h2
  obtain ⟨x, t⟩ := a
  obtain ⟨y, u⟩ := b
  rw [show x = y by rw [sOf_of x, sOf_of y, show x.cps.toList = y.cps.toList from h1], show t = u from e]
theorem srtB_pairwise {f : Bnd} (nd : f.Nodup) : (srtB f).Pairwise blt := by
  have h1 : (srtB f).Pairwise fun a b => dataLe false bD a b = true := List.pairwise_mergeSort (fun a b c => (sortLe_total (listOrd itemOrd) false fun b => keyToks (bD b)).trans a b c) (fun a b => by rw [Bool.or_eq_true]; exact (sortLe_total (listOrd itemOrd) false fun b => keyToks (bD b)).total a b) f
  have h2 : (srtB f).Nodup := (List.mergeSort_perm f _).nodup_iff.mpr nd
  refine (h1.and h2).imp fun {a b} ⟨h3, h4⟩ => ?_
  have h5 : ¬ blt b a := by
    have h6 : (!dataLt (bD b) (bD a)) = true := h3
    unfold blt dlt
    simpa using h6
  exact Classical.byContradiction fun h6 => h4 (btoks_inj (dlt_total h6 h5))
theorem srtB_keys {f : Bnd} (nd : (f.map (·.1)).Nodup) : ((srtB f).map (·.1)).Nodup := (((List.mergeSort_perm f _).map (·.1)).nodup_iff).mpr nd
theorem nd_of_keys {f : Bnd} (nd : (f.map (·.1)).Nodup) : f.Nodup := nodup_of_map nd
theorem srtB_bget {f : Bnd} (nd : (f.map (·.1)).Nodup) (x : Str) : bget (srtB f) x = bget f x := by
  cases e : bget f x with
  | some u => exact mem_bget (srtB_keys nd) (srtB_mem.mpr (bget_mem e))
  | none =>
    cases q : bget (srtB f) x with
    | none => rfl
    | some u => rw [mem_bget nd (srtB_mem.mp (bget_mem q))] at e; cases e
theorem srtB_put {f : Bnd} (nd : (f.map (·.1)).Nodup) (t : T) : putF (srtB f) t = putF f t := putF_ext fun x _ => srtB_bget nd x
/-- the order of the names -/
def slt (x y : Str) : Prop := PyProof.Rows.lexLt itemOrd [.inr x.cps.toList] [.inr y.cps.toList] = true
theorem slt_irrefl (x : Str) : ¬ slt x x := by
  intro h
  unfold slt at h
  rw [lex_irrefl] at h
  cases h
theorem slt_trans (x y z : Str) : slt x y → slt y z → slt x z := fun h1 h2 => lex_trans _ _ _ h1 h2
theorem blt_slt {a b : Str × T} (h : blt a b) (hne : a.1 ≠ b.1) : slt a.1 b.1 := by
  unfold blt dlt dataLt at h
  rw [bD_toks, bD_toks, lex_self, lex_atom (fun z => hne (by
    injection z with z
    rw [sOf_of a.1, sOf_of b.1, z]))] at h
  exact h
theorem srtB_names {f : Bnd} (nd : (f.map (·.1)).Nodup) : ((srtB f).map (·.1)).Pairwise slt := by
  refine List.pairwise_map.mpr (((srtB_pairwise (nd_of_keys nd)).and (List.pairwise_map.mp (srtB_keys nd))).imp fun {a b} ⟨h1, h2⟩ => blt_slt h1 h2)
theorem srt_b (f : Bnd) (hd : ∀ y ∈ f, y.2.depth ≤ 20) : Srt (f.map bD) := by
  refine ⟨fun d hd' d' hd2 => ?_, .inl fun d hd' => ?_, fun d hd' => ?_⟩
  · obtain ⟨r, _, rfl⟩ := List.mem_map.mp hd'
    obtain ⟨q, _, rfl⟩ := List.mem_map.mp hd2
    simp [alike, alikeAll, alike_enc]
  · obtain ⟨r, _, rfl⟩ := List.mem_map.mp hd'
    exact ⟨_, _, rfl⟩
  · obtain ⟨r, hr, rfl⟩ := List.mem_map.mp hd'
    have := hd r hr
    show max 0 (max r.2.enc.depth 0) + 1 ≤ 32
    rw [T.enc_depth]; omega
/-! ### what matched tells -/
def mres (nm : List Str) (p t : T) : Option Bnd := if (matchT nm p t []).1 then some (srtB (matchT nm p t []).2) else none
theorem match0 (nm : List Str) (p t : T) : ((matchT nm p t []).2.map (·.1)).Nodup := (match_ok nm p t []).nd .nil
theorem none0 : ∀ x : Str, bget [] x = none := fun _ => rfl
theorem mres_put {nm : List Str} {p t : T} {l : Bnd} (h : mres nm p t = some l) : putF l p = t ∧ (∀ x, x ∈ l.map (·.1) ↔ x ∈ nm ∧ x ∈ nms p) ∧ (l.map (·.1)).Nodup ∧ (l.map (·.1)).Pairwise slt := by
  unfold mres at h
  split at h
  · rename_i h1
    cases h
    have nd := match0 nm p t
    obtain ⟨s1, s2⟩ := match_sound nm p t [] (fun x hx => by rw [none0] at hx; cases hx) h1
    refine ⟨by rw [srtB_put nd, s1], fun x => ?_, srtB_keys nd, srtB_names nd⟩
    have e : x ∈ (srtB (matchT nm p t []).2).map (·.1) ↔ x ∈ (matchT nm p t []).2.map (·.1) := ((List.mergeSort_perm (matchT nm p t []).2 (dataLe false bD)).map (fun y : Str × T => y.1)).mem_iff
    rw [e, ← bget_some]
    constructor
    · intro hx
      rcases (match_ok nm p t []).sub x hx with k | k
      · rw [none0] at k; cases k
      · exact k
    · intro ⟨h1, h2⟩
      exact s2 x h2 h1
  · cases h
theorem mres_goal {nm : List Str} {σ : Bnd} (hσ : ∀ x, x ∈ nm ↔ (bget σ x).isSome = true) (nd : (σ.map (·.1)).Nodup) (p : T) : mres nm p (putF σ p) = some ((srtB σ).filter fun y => decide (y.1 ∈ nms p)) := by
  obtain ⟨h1, h2⟩ := match_complete nm σ hσ p [] (fun x u h => by cases h)
  unfold mres
  rw [if_pos h1]
  congr 1
  have n1 := match0 nm p (putF σ p)
  obtain ⟨s1, s2⟩ := match_sound nm p (putF σ p) [] (fun x hx => by rw [none0] at hx; cases hx) h1
  refine sorted_ext (lt := blt) (fun a => dlt_irrefl _) (fun a b c => dlt_trans) (srtB_pairwise (nd_of_keys n1)) ((srtB_pairwise (nd_of_keys nd)).filter _) fun y => ?_
  rw [srtB_mem, List.mem_filter, srtB_mem, decide_eq_true_iff]
  constructor
  · intro hy
    have b := mem_bget n1 (x := y.1) (u := y.2) hy
    refine ⟨bget_mem (h2 _ _ b), ?_⟩
    rcases (match_ok nm p (putF σ p) []).sub y.1 (by rw [b]; rfl) with k | k
    · rw [none0] at k; cases k
    · exact k.2
  · intro ⟨hy, hx⟩
    have b := mem_bget nd (x := y.1) (u := y.2) hy
    obtain ⟨u, eu⟩ := Option.isSome_iff_exists.mp (s2 y.1 hx ((hσ y.1).mpr (by rw [b]; rfl)))
    have := h2 _ _ eu
    rw [b] at this
    cases this
    exact bget_mem eu
theorem mres_spoilt (nm : List Str) (p g : T) (x z : Str) : mres nm (.t2 x p p) (.t2 x g (.t1 z g)) = none := by
  cases e : mres nm (.t2 x p p) (.t2 x g (.t1 z g)) with
  | none => rfl
  | some l =>
    obtain ⟨h1, _⟩ := mres_put e
    have h1 : T.t2 x (putF l p) (putF l p) = .t2 x g (.t1 z g) := h1
    simp only [T.t2.injEq, true_and] at h1
    have h2 : g = .t1 z g := h1.1.symm.trans h1.2
    have h3 := congrArg T.size h2
    simp only [T.size] at h3
    omega
/-! ### heads -/
def hds : T → List Str
  | .t0 x => [x]
  | .t1 x a => x :: hds a
  | .t2 x a b => x :: (hds a ++ hds b)
def DrT : T → Prop
  | .t0 x => ∃ c, (97 ≤ c ∧ c ≤ 100) ∧ x = sOf [c]
  | .t1 x a => (∃ c, (102 ≤ c ∧ c ≤ 104) ∧ x = sOf [c]) ∧ DrT a
  | .t2 x a b => (∃ c, (102 ≤ c ∧ c ≤ 104) ∧ x = sOf [c]) ∧ DrT a ∧ DrT b
theorem drawn_dr (ns : List Int) : ∀ (d n : Nat), DrT (ddrawn ns d n).1 := by
  have h0 : ∀ n, DrT (.t0 (dname (ddraw ns n 4))) := fun n => by
    have a1 := ddraw_lt ns n (m := 4) (by decide)
    have a0 := ddraw_nn ns n (m := 4) (by decide)
    exact ⟨97 + (ddraw ns n 4).toNat, by omega, rfl⟩
  have hf : ∀ i : Int, ∃ c, (102 ≤ c ∧ c ≤ 104) ∧ dfg i = sOf [c] := fun i => ⟨102 + (i % 2).toNat, by have := Int.emod_lt_of_pos i (by decide : (0 : Int) < 2); have := Int.emod_nonneg i (by decide : (2 : Int) ≠ 0); omega, rfl⟩
  intro d
  induction d with
  | zero => intro n; exact h0 _
  | succ d ih =>
    intro n
    unfold ddrawn
    split
    · exact h0 _
    · split
      · exact ⟨hf _, ih _⟩
      · exact ⟨⟨104, by omega, rfl⟩, ih _, ih _⟩
theorem hds_nms {x : Str} (hx : ∃ c, c ≤ 100 ∧ x = sOf [c]) : ∀ {t : T}, DrT t → (x ∈ hds t ↔ x ∈ nms t) := by
  obtain ⟨c, hc, rfl⟩ := hx
  have ne : ∀ {y : Str}, (∃ c, (102 ≤ c ∧ c ≤ 104) ∧ y = sOf [c]) → sOf [c] ≠ y := fun {y} ⟨c', h, e⟩ q => by
    rw [e] at q
    have := sOf_inj q
    simp at this
    omega
  intro t
  induction t with
  | t0 y => intro _; exact Iff.rfl
  | t1 y a ih =>
    intro h
    show sOf [c] ∈ y :: hds a ↔ sOf [c] ∈ nms a
    rw [List.mem_cons, ih h.2]
    exact ⟨fun q => q.resolve_left (ne h.1), .inr⟩
  | t2 y a b ih ih2 =>
    intro h
    show sOf [c] ∈ y :: (hds a ++ hds b) ↔ sOf [c] ∈ nms a ++ nms b
    rw [List.mem_cons, List.mem_append, List.mem_append, ih h.2.1, ih2 h.2.2]
    exact ⟨fun q => q.resolve_left (ne h.1), .inr⟩
theorem hds_len : ∀ t : T, (hds t).length = t.size
  | .t0 _ => rfl
  | .t1 _ a => by simp only [hds, List.length_cons, hds_len a, T.size]; omega
  | .t2 _ a b => by simp only [hds, List.length_cons, List.length_append, hds_len a, hds_len b, T.size]; omega
end SH
/-! SIE: a new thing lent behind a datum; slots forgotten; matching's contracts. -/
namespace SH
open PySem PySem.Spec PyProof.Rows L2
section
variable {X : Cx} {F H : Hp} {σ : L2.St} {S S1 S2 : ASt} {e e2 : Expr} {d d2 : PyData} {pos np : Pos}
/-- f(a datum, a new thing): the thing is let go behind the call -/
theorem ev_callS {x : Str} {k : Nat} {ct : Ct} {mk : Addr → OV} (G : Fc X.prog X.w X.K X.mg X.base x k 2 ct) (hr : Room k X.A) (h1 : Ev X e S d2 S) (h2 : EvO X e2 S mk S) (hc : ∀ p, ct [.dat d2, mk p] fun r _ => r = .dat d) (hg : Gl X x := by rfl) (hdb : (x == ("__debug__" : Str)) = false := by decide)
    (he : starEach [e, e2] X.env = (false, eval e X.env) :: starEach [e2] X.env := by exact star_plain rfl) (he2 : starEach [e2] X.env = (false, eval e2 X.env) :: starEach [] X.env := by exact star_plain rfl) (hpl : (backTo pos (starEach [e2] X.env)).any (·.1) = false := by exact back_plain rfl) :
    Ev X (.Call (.Name x np) [e, e2] [] pos) S d S := .of fun F H σ st Q q => by
  obtain ⟨⟨f, fd, ps, hF, hB, hk, hm⟩, mono⟩ := G
  refine (pe_call hF hr hg hm hk hB .nil pass0 (pa_cons (peW X e) (pa_cons (peW X e2) pa_nil he2) he) hdb he hpl).wp ?_
  refine h1.use st fun u F1 H1 p1 w1 => ?_
  refine h2 F1 H1 σ p1.st _ fun v ov F2 H2 Sa g ⟨⟨p, e1⟩, e2⟩ => ?_
  subst e1 e2
  have w2 : Da F2 u d2 := Da.mono g.aft.ff _ _ w1
  have at1 : footAt (args0 [.dat d2, mk p]) 1 = foot (mk p) := rfl
  have atS : ∀ i, i ≠ 1 → footAt (args0 [.dat d2, mk p]) i = [] := fun i hi => by
    match i, hi with
    | 0, _ => rfl
    | 1, h => exact absurd rfl h
    | i + 2, _ => cases i <;> rfl
  have inA : ∀ b, inFeet (args0 [.dat d2, mk p]) b → b ∈ foot (mk p) := fun b ⟨i, h⟩ => by
    by_cases hi : i = 1
    · subst hi; exact h
    · rw [atS i hi] at h; cases h
  have stA : StOk X.prog X.w F2 H2 [some u, some v] (args0 [.dat d2, mk p]) := by
    refine ⟨g.st.same, rfl, fun i ov h => ?_, fun i => ?_, fun i j b hij hb hb2 => ?_, fun b hb => (g.new b (inA b hb)).1⟩
    · match i, h with
      | 0, h => cases h; exact ⟨u, rfl, .dat w2⟩
      | 1, h => cases h; exact ⟨v, rfl, g.own⟩
    · by_cases hi : i = 1
      · subst hi; exact g.nd
      · rw [atS i hi]; exact .nil
    · by_cases hi : i = 1
      · by_cases hj : j = 1
        · exact absurd (hi.trans hj.symm) hij
        · rw [atS j hj] at hb2; cases hb2
      · rw [atS i hi] at hb; cases hb
  refine ⟨F2, [.dat d2, mk p], rfl, stA, mono _ _ _ (fun r a h v' F3 H3 g3 => ?_) (hc p)⟩
  subst h
  have nin : ∀ b, inFeet Sa b → ¬ inFeet (args0 [.dat d2, mk p]) b := fun b hb z => (g.new b (inA b z)).2 hb
  have st3 : XOk X F3 H3 σ Sa := g.st.keep g3.aft.ff g3.st.same (fun b hb => by
    obtain ⟨o, eo⟩ := g.st.foot_tracked hb
    rw [g3.aft.nf b o eo (nin b hb)]; exact g.st.free b hb) fun b o hb eo => g3.aft.kp b o eo (nin b hb)
  have a12 : Aft F H (inFeet Sa) F2 H2 := p1.aft.trans (fun b h => .inl h) g.aft
  refine q v' F3 H3 ⟨st3, a12.trans (fun b hb => ?_) g3.aft, .refl⟩ ?_
  · rcases g.grv b (inA b hb) with h | h
    · exact .inl h
    · right
      cases e : H b with
      | none => rfl
      | some o =>
        obtain ⟨o', e'⟩ := p1.aft.tr b o e
        rw [h] at e'; cases e'
  · cases g3.own with
    | dat w => exact w
end
/-! ### zips of terms, matches one behind the other -/
theorem zip_enc : ∀ as bs : List T, zipD (as.map T.enc) (bs.map T.enc) = (as.zip bs).map pairD
  | [], _ => rfl
  | _ :: _, [] => rfl
  | a :: as, b :: bs => by
    show PyData.tuple [a.enc, b.enc] :: zipD (as.map T.enc) (bs.map T.enc) = pairD (a, b) :: (as.zip bs).map pairD
    rw [zip_enc as bs]; rfl
def matchL (nm : List Str) : List (T × T) → Bnd → List Bool × Bnd
  | [], f => ([], f)
  | z :: r, f => ((matchT nm z.1 z.2 f).1 :: (matchL nm r (matchT nm z.1 z.2 f).2).1, (matchL nm r (matchT nm z.1 z.2 f).2).2)
theorem matchL_app (nm : List Str) : ∀ (l : List (T × T)) (z : T × T) (f : Bnd), matchL nm (l ++ [z]) f = ((matchL nm l f).1 ++ [(matchT nm z.1 z.2 (matchL nm l f).2).1], (matchT nm z.1 z.2 (matchL nm l f).2).2)
  | [], z, f => rfl
  | y :: l, z, f => by
    show ((matchT nm y.1 y.2 f).1 :: (matchL nm (l ++ [z]) _).1, (matchL nm (l ++ [z]) _).2) = _
    rw [matchL_app nm l z]; rfl
theorem match_L (nm : List Str) {p t : T} {f : Bnd} (hn : ¬ (p.ps = [] ∧ p.hd ∈ nm)) (h1 : p.hd = t.hd) (h2 : p.ps.length = t.ps.length) :
    matchT nm p t f = ((matchL nm (p.ps.zip t.ps) f).1.all fun c => c, (matchL nm (p.ps.zip t.ps) f).2) := by
  cases p with
  | t0 x =>
    cases t with
    | t0 y =>
      cases (show x = y from h1)
      have hx : x ∉ nm := fun z => hn ⟨rfl, z⟩
      unfold matchT
      rw [if_neg hx, decide_eq_true rfl]; rfl
    | t1 y b => cases h2
    | t2 y b c => cases h2
  | t1 x a =>
    cases t with
    | t0 y => cases h2
    | t1 y b =>
      cases (show x = y from h1)
      conv => lhs; unfold matchT
      dsimp only
      rw [if_pos rfl]
      simp [T.ps, matchL]
    | t2 y b c => cases h2
  | t2 x a b =>
    cases t with
    | t0 y => cases h2
    | t1 y c => cases h2
    | t2 y c d =>
      cases (show x = y from h1)
      conv => lhs; unfold matchT
      dsimp only
      rw [if_pos rfl]
      simp [T.ps, matchL]
theorem match_un (nm : List Str) {p t : T} {f : Bnd} (hn : ¬ (p.ps = [] ∧ p.hd ∈ nm)) (h : ¬ (p.hd = t.hd ∧ p.ps.length = t.ps.length)) : matchT nm p t f = (false, f) := by
  cases p with
  | t0 x =>
    have hx : x ∉ nm := fun z => hn ⟨rfl, z⟩
    unfold matchT
    rw [if_neg hx]
    have : t ≠ .t0 x := fun e => h (by subst e; exact ⟨rfl, rfl⟩)
    rw [decide_eq_false this]
  | t1 x a =>
    cases t with
    | t0 y => rfl
    | t1 y b =>
      unfold matchT
      dsimp only
      rw [if_neg fun e : x = y => h ⟨e, rfl⟩]
    | t2 y b c => rfl
  | t2 x a b =>
    cases t with
    | t0 y => rfl
    | t1 y c => rfl
    | t2 y c d =>
      unfold matchT
      dsimp only
      rw [if_neg fun e : x = y => h ⟨e, rfl⟩]
/-- terms found are parts -/
theorem match_vals (nm : List Str) (Pr : T → Prop) (her : ∀ t, Pr t → ∀ p ∈ t.ps, Pr p) : ∀ (p t : T) (f : Bnd), Pr t → (∀ y ∈ f, Pr y.2) → ∀ y ∈ (matchT nm p t f).2, Pr y.2 := by
  intro p
  induction p with
  | t0 x =>
    intro t f ht hf
    unfold matchT
    split
    · cases e : bget f x with
      | some u => exact hf
      | none =>
        intro y hy
        rcases List.mem_append.mp hy with hy | hy
        · exact hf y hy
        · rw [List.mem_singleton.mp hy]; exact ht
    · exact hf
  | t1 x a ih =>
    intro t f ht hf
    cases t with
    | t0 y => exact hf
    | t2 y b c => exact hf
    | t1 y b =>
      unfold matchT
      dsimp only
      split
      · exact ih b f (her _ ht b (by simp [T.ps])) hf
      · exact hf
  | t2 x a b ih ih2 =>
    intro t f ht hf
    cases t with
    | t0 y => exact hf
    | t1 y c => exact hf
    | t2 y c d =>
      unfold matchT
      dsimp only
      split
      · exact ih2 d _ (her _ ht d (by simp [T.ps])) (ih c f (her _ ht c (by simp [T.ps])) hf)
      · exact hf
abbrev nmD (nm : List Str) : PyData := .tuple (nm.map .str)
abbrev bndD (f : Bnd) : PyData := .tuple (f.map bD)
/-- terms that are found -/
structure BOk (f : Bnd) : Prop where
  nd : (f.map (·.1)).Nodup
  ok : ∀ y ∈ f, y.2.Ok ∧ y.2.depth ≤ 8
theorem BOk.match {nm : List Str} {p t : T} {f : Bnd} (k : BOk f) (ht : t.Ok ∧ t.depth ≤ 8) : BOk (matchT nm p t f).2 :=
  ⟨(match_ok nm p t f).nd k.nd, match_vals nm (fun t => t.Ok ∧ t.depth ≤ 8) (fun t h p hp => ⟨T.All.ps h.1 p hp, by have := T.ps_depth hp; have := h.2; omega⟩) p t f ht k.ok⟩
theorem matchL_ok {nm : List Str} : ∀ {l : List (T × T)} {f : Bnd}, BOk f → (∀ z ∈ l, z.2.Ok ∧ z.2.depth ≤ 8) → BOk (matchL nm l f).2 ∧ (matchL nm l f).2.length ≤ f.length + (l.map fun z => z.1.size).sum
  | [], f, k, _ => ⟨k, by simp [matchL]⟩
  | z :: l, f, k, h => by
    have k1 := k.match (nm := nm) (p := z.1) (h z List.mem_cons_self)
    have l1 := (match_ok nm z.1 z.2 f).len
    obtain ⟨h1, h2⟩ := matchL_ok (nm := nm) (l := l) k1 fun y hy => h y (List.mem_cons_of_mem _ hy)
    refine ⟨h1, ?_⟩
    rw [List.map_cons, List.sum_cons]
    show (matchL nm l _).2.length ≤ _
    omega
def ct_putall (n : Nat) : Ct := fun args Q => ∃ (t : T) (f : Bnd), args = [.dat t.enc, .dat (bndD f)] ∧ t.Ok ∧ t.depth ≤ n ∧ (∀ y ∈ f, isHd y.1 = true) ∧ Q (.dat (putF f t).enc) args
theorem mo_putall (n : Nat) : ∀ args Q Q', (∀ r a, Q r a → Q' r a) → ct_putall n args Q → ct_putall n args Q' := fun _ _ _ h ⟨t, f, e, z, z2, z3, q⟩ => ⟨t, f, e, z, z2, z3, h _ _ q⟩
def ct_putin (n : Nat) : Ct := fun args Q => ∃ (t : T) (q : Addr) (f : Bnd), args = [.dat t.enc, .dK q (bK f)] ∧ t.depth ≤ n ∧ Q (.dat (putF f t).enc) args
theorem mo_putin (n : Nat) : ∀ args Q Q', (∀ r a, Q r a → Q' r a) → ct_putin n args Q → ct_putin n args Q' := fun _ _ _ h ⟨t, q, f, e, z, k⟩ => ⟨t, q, f, e, z, h _ _ k⟩
def ct_headsof (n : Nat) : Ct := fun args Q => ∃ t : T, args = [.dat t.enc] ∧ t.depth ≤ n ∧ t.size ≤ 1000 ∧ Q (.dat (.list ((hds t).map .str))) args
theorem mo_headsof (n : Nat) : ∀ args Q Q', (∀ r a, Q r a → Q' r a) → ct_headsof n args Q → ct_headsof n args Q' := fun _ _ _ h ⟨t, e, z, z2, k⟩ => ⟨t, e, z, z2, h _ _ k⟩
def ct_match (n : Nat) : Ct := fun args Q => ∃ (p : T) (nm : List Str) (t : T) (q : Addr) (f : Bnd), args = [.dat p.enc, .dat (nmD nm), .dat t.enc, .dK q (bK f)] ∧ p.Ok ∧ p.depth ≤ n ∧ t.Ok ∧ t.depth ≤ 8 ∧ (∀ x ∈ nm, isHd x = true) ∧ BOk f ∧ f.length + p.size ≤ 1000 ∧
  Q (.dat (.bool (matchT nm p t f).1)) [.dat p.enc, .dat (nmD nm), .dat t.enc, .dK q (bK (matchT nm p t f).2)]
theorem mo_match (n : Nat) : ∀ args Q Q', (∀ r a, Q r a → Q' r a) → ct_match n args Q → ct_match n args Q' := fun _ _ _ h ⟨p, nm, t, q, f, e, z1, z2, z3, z4, z5, z6, z7, k⟩ => ⟨p, nm, t, q, f, e, z1, z2, z3, z4, z5, z6, z7, h _ _ k⟩
def ct_matched (n : Nat) : Ct := fun args Q => ∃ (p : T) (nm : List Str) (t : T), args = [.dat p.enc, .dat (nmD nm), .dat t.enc] ∧ p.Ok ∧ p.depth ≤ n ∧ p.size ≤ 1000 ∧ t.Ok ∧ t.depth ≤ 8 ∧ (∀ x ∈ nm, isHd x = true) ∧
  (mres nm p t = none → Q (.dat .none) args) ∧ ∀ l, mres nm p t = some l → ∀ q, Q (.ptp q (l.map bD)) args
theorem mo_matched (n : Nat) : ∀ args Q Q', (∀ r a, Q r a → Q' r a) → ct_matched n args Q → ct_matched n args Q' := fun _ _ _ h ⟨p, nm, t, e, z1, z2, z3, z4, z5, z6, k1, k2⟩ => ⟨p, nm, t, e, z1, z2, z3, z4, z5, z6, fun e => h _ _ (k1 e), fun l e q => h _ _ (k2 l e q)⟩
/-- what matched tells, as a datum -/
def optB : Option Bnd → PyData
  | none => .none
  | some l => bndD l
theorem strs_shaped {nm : List Str} (h : ∀ x ∈ nm, isHd x = true) : SeqAt.shaped (nmD nm) = true ∧ SeqAt.shaped (.list (nm.map .str)) = true := by
  have both : PyData.canLayAll0 (nm.map .str) = true ∧ PyData.depthAll (nm.map .str) = 0 := by
    induction nm with
    | nil => exact ⟨rfl, rfl⟩
    | cons x q ih =>
      obtain ⟨h1, h2⟩ := ih fun x hx => h x (List.mem_cons_of_mem _ hx)
      have e := isHd_ok (h x List.mem_cons_self)
      refine ⟨?_, ?_⟩
      · rw [List.map_cons, PyData.canLayAll0, h1, PyData.canLay0, e]; rfl
      · show max 0 (PyData.depthAll (q.map .str)) = 0
        rw [h2]; rfl
  refine ⟨shaped_mk (by rw [PyData.canLay0]; exact both.1) ?_, shaped_mk (by rw [PyData.canLay0]; exact both.1) ?_⟩
  · show PyData.depthAll (nm.map .str) + 1 ≤ 64
    rw [both.2]; decide
  · show PyData.depthAll (nm.map .str) + 1 ≤ 64
    rw [both.2]; decide
theorem str_shaped {x : Str} (h : isHd x = true) : SeqAt.shaped (.str x) = true := shaped_mk (by rw [PyData.canLay0]; exact isHd_ok h) (by show 0 ≤ 64; decide)
theorem any_str (nm : List Str) (x : Str) : ((nm.map PyData.str).any fun z => PyData.eqv z (.str x)) = decide (x ∈ nm) := by
  rw [List.any_map, Bool.eq_iff_iff, List.any_eq_true, decide_eq_true_iff]
  constructor
  · rintro ⟨y, hy, e⟩
    have e := (eqv_iff (.str y) (.str x) rfl rfl).mp e
    injection e with e
    exact e ▸ hy
  · intro h
    exact ⟨x, h, (eqv_iff (.str x) (.str x) rfl rfl).mpr rfl⟩
theorem strs_plain (nm : List Str) : plainDs (nm.map .str) = true := by
  induction nm with
  | nil => rfl
  | cons n r ih => rw [List.map_cons, plainDs, ih]; rfl
theorem bD_plain (y : Str × T) : plainD (bD y) = true := by
  show plainDs [.str y.1, y.2.enc] = true
  rw [plainDs, plainDs, plain_enc]; rfl
theorem bDs_plain (f : Bnd) : plainDs (f.map bD) = true := by
  induction f with
  | nil => rfl
  | cons n r ih => rw [List.map_cons, plainDs, ih, bD_plain]; rfl
theorem bDs_shaped {f : Bnd} (h : ∀ y ∈ f, isHd y.1 = true ∧ y.2.Ok ∧ y.2.depth ≤ 20) : SeqAt.shaped (bndD f) = true := by
  have both : PyData.canLayAll0 (f.map bD) = true ∧ PyData.depthAll (f.map bD) ≤ 21 := by
    induction f with
    | nil => exact ⟨rfl, Nat.zero_le _⟩
    | cons y q ih =>
      obtain ⟨h1, h2⟩ := ih fun x hx => h x (List.mem_cons_of_mem _ hx)
      obtain ⟨g1, g2, g3⟩ := h y List.mem_cons_self
      have e := isHd_ok g1
      have e2 : y.2.enc.canLay0 = true := canLay_enc (T.All.imp (fun _ => isHd_ok) g2)
      refine ⟨?_, ?_⟩
      · rw [List.map_cons, PyData.canLayAll0, h1, PyData.canLay0, PyData.canLayAll0, PyData.canLayAll0, PyData.canLay0, e, e2]; rfl
      · show max (max 0 (max y.2.enc.depth 0) + 1) (PyData.depthAll (q.map bD)) ≤ 21
        rw [T.enc_depth]; omega
  exact shaped_mk (by rw [PyData.canLay0]; exact both.1) (by show PyData.depthAll (f.map bD) + 1 ≤ 64; omega)
theorem bnd_eqv (f g : Bnd) : PyData.eqv (bndD f) (bndD g) = decide (f = g) := by
  have inj : ∀ f g : Bnd, f.map bD = g.map bD → f = g := by
    intro f
    induction f with
    | nil => intro g h; cases g with
      | nil => rfl
      | cons _ _ => cases h
    | cons a r ih => intro g h; cases g with
      | nil => cases h
      | cons b q =>
        rw [List.map_cons, List.map_cons] at h
        obtain ⟨h1, h2⟩ := List.cons.inj h
        have e : a = b := by
          injection h1 with h1
          simp only [List.cons.injEq, PyData.str.injEq, and_true] at h1
          obtain ⟨x, t⟩ := a
          obtain ⟨y, u⟩ := b
          rw [show x = y from h1.1, show t = u from enc_inj h1.2]
        rw [e, ih q h2]
  exact eqv_dec (f := fun f : Bnd => bndD f) (fun f => by show plainDs (f.map bD) = true; exact bDs_plain f) (fun a b h => inj a b (by injection h)) f g
end SH
/-! SIF: what the law of matches draws and asks. -/
namespace SH
open PySem PySem.Spec PyProof.Rows L2
def dnmP (ns : List Int) (n i : Nat) : List Str := ((List.range i).filter fun (j : Nat) => decide (ddraw ns (n + j + 1) 2 = 0)).map fun (j : Nat) => sOf [97 + j]
theorem dnmP_succ (ns : List Int) (n i : Nat) : dnmP ns n (i + 1) = dnmP ns n i ++ (if decide (ddraw ns (n + i + 1) 2 = 0) = true then [sOf [97 + i]] else []) := by
  unfold dnmP
  rw [List.range_succ, List.filter_append, List.map_append]
  congr 1
  by_cases h : ddraw ns (n + i + 1) 2 = 0 <;> simp [h]
theorem dnm_in (ns : List Int) (n : Nat) : ∀ x ∈ dnmP ns n 4, ∃ c, (97 ≤ c ∧ c ≤ 100) ∧ x = sOf [c] := fun x hx => by
  obtain ⟨j, hj, rfl⟩ := List.mem_map.mp hx
  have := List.mem_range.mp (List.mem_filter.mp hj).1
  exact ⟨97 + j, by omega, rfl⟩
theorem dnm_nd (ns : List Int) (n : Nat) : (dnmP ns n 4).Nodup := by
  unfold dnmP
  refine List.pairwise_map.mpr (List.Pairwise.imp (R := fun a b : Nat => a ≠ b) (fun {a b} h => fun e => ?_) (List.Pairwise.filter _ List.nodup_range))
  have := sOf_inj e
  simp at this
  exact h this
theorem dnm_len (ns : List Int) (n i : Nat) : (dnmP ns n i).length ≤ i := by
  unfold dnmP
  rw [List.length_map]
  exact Nat.le_trans (List.length_filter_le _ _) (by rw [List.length_range]; exact Nat.le_refl _)
theorem abcd_signs : signs (Str.ofString "abcd") = (List.range 4).map fun (j : Nat) => PyData.str (sOf [97 + j]) := by
  unfold signs
  rw [show (Str.ofString "abcd").cps.toList = [97, 98, 99, 100] by decide +kernel]
  rfl
def dknP (ns : List Int) (l : List Str) (n : Nat) : Bnd × Nat := l.foldl (fun acc x => (acc.1 ++ [(x, (ddrawn ns 2 acc.2).1)], (ddrawn ns 2 acc.2).2)) ([], n)
theorem dknP_app (ns : List Int) (l : List Str) (x : Str) (n : Nat) : dknP ns (l ++ [x]) n = ((dknP ns l n).1 ++ [(x, (ddrawn ns 2 (dknP ns l n).2).1)], (ddrawn ns 2 (dknP ns l n).2).2) := by
  unfold dknP
  rw [List.foldl_append]; rfl
theorem dknP_facts (ns : List Int) (n : Nat) : ∀ l : List Str, (dknP ns l n).1.map (·.1) = l ∧ (∀ y ∈ (dknP ns l n).1, Tm dHd 3 y.2) ∧ n ≤ (dknP ns l n).2 ∧ (dknP ns l n).2 ≤ n + 12 * l.length := by
  have go : ∀ k (l : List Str), l.length = k → (dknP ns l n).1.map (·.1) = l ∧ (∀ y ∈ (dknP ns l n).1, Tm dHd 3 y.2) ∧ n ≤ (dknP ns l n).2 ∧ (dknP ns l n).2 ≤ n + 12 * l.length := by
    intro k
    induction k with
    | zero =>
      intro l hl
      have : l = [] := List.length_eq_zero_iff.mp hl
      subst this
      exact ⟨rfl, fun y h => (by cases h), Nat.le_refl _, Nat.le_refl _⟩
    | succ k ih =>
      intro l hl
      obtain ⟨l', x, rfl⟩ : ∃ l' x, l = l' ++ [x] := by
        rcases List.eq_nil_or_concat l with rfl | ⟨l', x, e⟩
        · cases hl
        · exact ⟨l', x, by rw [e, List.concat_eq_append]⟩
      rw [List.length_append, List.length_singleton] at hl
      obtain ⟨h1, h2, h3, h4⟩ := ih l' (by omega)
      have hf := ddrawn_few ns 2 (dknP ns l' n).2
      rw [dknP_app]
      refine ⟨by show ((dknP ns l' n).1 ++ [(x, (ddrawn ns 2 (dknP ns l' n).2).1)]).map (fun y : Str × T => y.1) = _; rw [List.map_append, h1]; rfl, fun y hy => ?_, by show n ≤ (ddrawn ns 2 _).2; omega, by show (ddrawn ns 2 _).2 ≤ _; rw [List.length_append, List.length_singleton]; omega⟩
      rcases List.mem_append.mp hy with hy | hy
      · exact h2 y hy
      · rw [List.mem_singleton.mp hy]; exact ddrawn_tm ns 2 _
  exact fun l => go _ l rfl
/-- a turn: the names, what is put for them, the pattern -/
structure TurnOk (nm : List Str) (σ : Bnd) (p : T) : Prop where
  keys : σ.map (·.1) = nm
  nd : nm.Nodup
  nam : ∀ x ∈ nm, ∃ c, (97 ≤ c ∧ c ≤ 100) ∧ x = sOf [c]
  tms : ∀ y ∈ σ, Tm dHd 3 y.2
  pat : Tm dHd 4 p
  dr : DrT p
abbrev dueB (σ : Bnd) (p : T) : Bnd := (srtB σ).filter fun y => decide (y.1 ∈ hds p)
section
variable {nm : List Str} {σ : Bnd} {p t : T}
theorem TurnOk.hd (k : TurnOk nm σ p) : ∀ x ∈ nm, isHd x = true := fun x hx => by
  obtain ⟨c, hc, e⟩ := k.nam x hx
  exact dHd_ok ⟨c, by omega, e⟩
theorem TurnOk.nds (k : TurnOk nm σ p) : (σ.map (·.1)).Nodup := by rw [k.keys]; exact k.nd
theorem TurnOk.key (k : TurnOk nm σ p) : ∀ x, x ∈ nm ↔ (bget σ x).isSome = true := fun x => by rw [bget_some, k.keys]
theorem TurnOk.leaf (k : TurnOk nm σ p) {x : Str} (hx : x ∈ nm) : x ∈ hds p ↔ x ∈ nms p := by
  obtain ⟨c, hc, e⟩ := k.nam x hx
  exact hds_nms ⟨c, hc.2, e⟩ k.dr
theorem TurnOk.srtk (k : TurnOk nm σ p) {y : Str × T} (hy : y ∈ srtB σ) : y.1 ∈ nm := by
  rw [← k.keys]; exact List.mem_map.mpr ⟨y, srtB_mem.mp hy, rfl⟩
theorem TurnOk.due (k : TurnOk nm σ p) : mres nm p (putF σ p) = some (dueB σ p) := by
  rw [mres_goal k.key k.nds]
  congr 1
  refine List.filter_congr fun y hy => ?_
  exact decide_eq_decide.mpr (k.leaf (k.srtk hy)).symm
theorem TurnOk.names (k : TurnOk nm σ p) {l : Bnd} (h : mres nm p t = some l) : l.map (·.1) = (dueB σ p).map (·.1) := by
  obtain ⟨_, h2, _, h4⟩ := mres_put h
  refine sorted_ext slt_irrefl slt_trans h4 ?_ fun x => ?_
  · exact List.pairwise_map.mpr ((List.pairwise_map.mp (srtB_names k.nds)).filter _)
  · rw [h2 x, List.mem_map]
    constructor
    · intro ⟨h1, h3⟩
      obtain ⟨y, hy, e⟩ := List.mem_map.mp (show x ∈ σ.map (·.1) by rw [k.keys]; exact h1)
      exact ⟨y, List.mem_filter.mpr ⟨srtB_mem.mpr hy, decide_eq_true (by rw [e]; exact (k.leaf h1).mpr h3)⟩, e⟩
    · rintro ⟨y, hy, rfl⟩
      obtain ⟨h1, h3⟩ := List.mem_filter.mp hy
      have hn := k.srtk h1
      exact ⟨hn, (k.leaf hn).mp (of_decide_eq_true h3)⟩
theorem TurnOk.none (k : TurnOk nm σ p) (h : mres nm p t = none) (hs : (nm.filter fun x => decide (x ∈ hds p)) = []) : p ≠ t := by
  rintro rfl
  have e : putF σ p = p := putF_out fun x hx => by
    cases q : bget σ x with
    | none => rfl
    | some u =>
      have hn := (k.key x).mpr (by rw [q]; rfl)
      have : x ∈ nm.filter fun x => decide (x ∈ hds p) := List.mem_filter.mpr ⟨hn, decide_eq_true ((k.leaf hn).mpr hx)⟩
      rw [hs] at this; cases this
  have := k.due
  rw [e, h] at this
  cases this
end
theorem mres_nil (p : T) : mres [] p p = some [] := by
  have := mres_goal (nm := []) (σ := []) (fun x => ⟨fun h => (by cases h), fun h => (by cases h)⟩) .nil p
  rw [putF_nil] at this
  rw [this]; simp
theorem mres_hf (nm : List Str) (p g : T) (x y : Str) : mres nm (.t2 x p g) (.t1 y g) = none := rfl
theorem Tm.dsize {p : Str → Prop} {n : Nat} {t : T} (k : Tm p n t) : t.size ≤ 2 ^ n := by
  have h1 := size_depth t
  have h2 : 2 ^ t.depth ≤ 2 ^ n := Nat.pow_le_pow_right (by decide) k.2
  omega
end SH
namespace SH
open PySem PySem.Spec PyProof.Rows L2
def topS (i : Nat) : Stmt := PySem.Challenge.pw_samehall_k21_whole_matches.main.body.getD i (.Pass ⟨0, 0, 0, 0⟩)

theorem s_ifS {X : Cx} {S : ASt} {D : AE} {pos : _} {c : Expr} {a b : List Stmt} {t : Bool} (hc : EvT X c S t S) (ha : t = true → SX X a S D) (hb : t = false → SX X b S D) : S1 X (.If c a b pos) S D := s_if hc ha hb

section
variable {P : Program} {w : World} {K : PySem.W.Frag} {mg : Str → Option Value} {base : Heap} {f : Addr} {fd : FuncData}
abbrev st_draw : Stmt := topS 7
abbrev nm_draw : List Str := ["_law_script", "_law_town", "_law_many", "_law_number"]
theorem sc_draw : FnScope nm_draw ["_law_script", "_law_town", "_law_many"] (defScope st_draw) := ⟨rfl, rfl, rfl, by decide +kernel, rfl, by decide +kernel, by decide +kernel⟩
theorem ok_draw (F : Fun K "_law_draw" "_law_draw" st_draw f fd) (B : Bt mg) : FnOk P w K mg base CX0 1 f fd ["_law_script", "_law_town", "_law_many"] (spC P w 3 ct_draw) := by
  refine fc_of F sc_draw ct_draw fun cdv A outer s H E args Q hr hl hc => ?_
  obtain ⟨ns, p, n, m, rfl, hz, hn, hm, q⟩ := hc
  have nd := sc_draw.nd
  refine sx_cons (s_expr (ev_append (j := 1) (d := .int 0) rfl ev_int rfl ?_) ?_)
  · rw [List.length_replicate]; exact Nat.lt_of_le_of_lt hn (by decide)
  rw [zeros_succ]
  have hlen : (zeros (n + 1)).length = n + 1 := List.length_replicate
  refine sx_cons (s_set (Sa := [some (.dat (dInts ns)), some (.lst p (zeros (n + 1))), some (.dat (.int m)), none]) 3 (d := .int (dnum ns (n + 1))) ?_ nd ?_)
  · cases ns with
    | nil => exact ev_ifF (EvT.to (evt_tru (ev_name 0)) rfl) (Ev.to ev_int rfl rfl)
    | cons x r =>
      have hlt : (n + 1) % (x :: r).length < (x :: r).length := Nat.mod_lt _ (by simp)
      refine ev_ifT (EvT.to (evt_tru (ev_name 0)) rfl) (ev_ix (ev_name 0) (Ev.to (d' := .int (((n + 1) % (x :: r).length : Nat) : Int)) (ev_bin (ev_lenO 1 rfl B.len) (ev_bi c_lenL (eva_cons (ev_name 0) eva_nil) B.len PySem.boot_len) (o_mod ?_)) ?_ rfl) (ix_l (atI_nat ?_)))
      · rw [List.length_map, List.length_cons]; omega
      · rw [hlen, List.length_map, Int.natCast_emod]
      · rw [List.getElem?_map, List.getElem?_eq_getElem hlt]
        show some (PyData.int _) = some (PyData.int (dnum (x :: r) (n + 1)))
        unfold dnum
        rw [if_neg (by simp), List.getD_eq_getElem?_getD, List.getElem?_eq_getElem hlt]; rfl
  refine sx_cons (s_set 3 (d := .int ((dnum ns (n + 1) + 104729 * ((n + 1 : Nat) : Int)) % 4294967291)) (Ev.to (ev_bin (ev_bin (ev_name 3) (ev_bin ev_int (ev_lenO 1 rfl B.len) (o_mul (.inl (by decide)))) o_add) ev_int (o_mod (by decide))) (by rw [hlen]) rfl) nd ?_)
  have b0 := Int.emod_nonneg (dnum ns (n + 1) + 104729 * ((n + 1 : Nat) : Int)) (by decide : (4294967291 : Int) ≠ 0)
  have b1 := Int.emod_lt_of_pos (dnum ns (n + 1) + 104729 * ((n + 1 : Nat) : Int)) (by decide : (0 : Int) < 4294967291)
  refine sx_cons (s_set 3 (ev_bin (ev_bin (ev_name 3) ev_int (o_pow ⟨by decide, by decide, ?_⟩)) ev_int (o_mod (by decide))) nd ?_)
  · show Int.natAbs _ < 18446744073709551616
    omega
  refine sx_one (s_ret (ev_bin (ev_bin (ev_bin (ev_bin (ev_bin (ev_bin (ev_name 3) ev_int (o_fdiv ⟨by decide, by decide⟩)) ev_int (o_mul (.inr (by decide)))) (ev_name 3) o_add) ev_int (o_mod (by decide))) ev_int (o_fdiv ⟨by decide, by decide⟩)) (ev_name 2) (o_mod hm)) ⟨_, back_d (back_o (back_d back_nil) rfl rfl), q⟩)
abbrev st_drawn : Stmt := topS 8
abbrev ps_drawn : List Str := ["_law_script", "_law_town", "_law_deep"]
abbrev nm_drawn : List Str := ["_law_script", "_law_town", "_law_deep", "_law_turn"]
theorem sc_drawn : FnScope nm_drawn ps_drawn (defScope st_drawn) := ⟨rfl, rfl, rfl, by decide +kernel, rfl, by decide +kernel, by decide +kernel⟩
theorem ok_drawn1 (top : Nat) (F : Fun K "_law_drawn" "_law_drawn" st_drawn f fd) (g_draw : Fc P w K mg base "_law_draw" (top + 1) 3 ct_draw) (g : ∀ m, m + 1 = top → Fc P w K mg base "_law_drawn" (top + 1) 3 (ct_drawn m)) : FnOk P w K mg base CX0 (top + 2) f fd ps_drawn (spC P w 3 (ct_drawn top)) := by
  refine fc_of F sc_drawn (ct_drawn top) fun cdv A outer s H E args Q hr hl hc => ?_
  obtain ⟨ns, p, n, d, rfl, hz, hn, hd, q⟩ := hc
  have nd := sc_drawn.nd
  have hp : 1 ≤ 2 ^ d := Nat.one_le_two_pow
  have t0 := ddraw_nn ns (n + 1) (m := 7) (by decide)
  have t1 := ddraw_lt ns (n + 1) (m := 7) (by decide)
  have a0 := ddraw_nn ns (n + 2) (m := 4) (by decide)
  have a1 := ddraw_lt ns (n + 2) (m := 4) (by decide)
  refine sx_cons (s_set 3 (Ev.to (ev_callB g_draw hr (ab_d (ev_name 0) (ab_b 1 (ab_d ev_int ab_nil))) ⟨ns, p, n, 7, rfl, hz, by omega, by decide, rfl, rfl⟩) rfl rfl) nd ?_)
  refine sx_cons (s_if (t := decide (d = 0) || decide (ddraw ns (n + 1) 7 < 3)) (EvT.to (evw_or (evt_cmp (ev_name 2) ev_int o_eqI) (fun _ => evw_or1 (evt_cmp (ev_name 3) ev_int o_lt))).t ?_) (fun h => ?_) (fun h => sx_nil ?_))
  · congr 1
    exact decide_eq_decide.mpr (by omega)
  · refine sx_one (s_ret (ev_tup (eva_cons (ev_ix ev_str (Ev.to (ev_callB g_draw hr (ab_d (ev_name 0) (ab_b 1 (ab_d ev_int ab_nil))) ⟨ns, p, n + 1, 4, rfl, hz, by omega, by decide, rfl, rfl⟩) rfl rfl) (ix_s (abcd_at a0 a1) (by decide +kernel))) eva_nil)) ⟨_, back_d (back_o (back_d back_nil) rfl rfl), ?_⟩)
    have e : ddrawn ns d n = (.t0 (dname (ddraw ns (n + 2) 4)), n + 2) := by
      cases d with
      | zero => rfl
      | succ k =>
        have h3 : ddraw ns (n + 1) 7 < 3 := by simpa using h
        unfold ddrawn
        rw [if_pos h3]
    rw [e] at q
    exact q
  · have h0 : d ≠ 0 := fun e => by subst e; simp at h
    obtain ⟨k, rfl⟩ : ∃ k, d = k + 1 := ⟨d - 1, by omega⟩
    have h3 : ¬ ddraw ns (n + 1) 7 < 3 := by simpa using h
    obtain ⟨m, rfl⟩ : ∃ m, m + 1 = top := ⟨top - 1, by omega⟩
    have hpow : 2 ^ (k + 1) = 2 * 2 ^ k := by rw [Nat.pow_succ]; omega
    have f1 := ddrawn_few ns k (n + 1)
    have hk : PyData.int (((k + 1 : Nat) : Int) - 1) = .int (k : Nat) := by congr 1; omega
    refine sx_cons (s_if (t := decide (ddraw ns (n + 1) 7 < 6)) (evt_cmp (ev_name 3) ev_int o_lt) (fun h => ?_) (fun h => sx_nil ?_))
    · have h6 := of_decide_eq_true h
      unfold ddrawn at q
      rw [if_neg h3, if_pos h6] at q
      refine sx_one (s_ret (ev_tup (eva_cons (ev_ix ev_str (ev_bin (ev_name 3) ev_int (o_mod (by decide))) (ix_s (fg_at (Int.emod_nonneg _ (by decide)) (Int.emod_lt_of_pos _ (by decide))) (by decide +kernel)))
        (eva_cons (Ev.to (ev_callB (g m rfl) hr (ab_d (ev_name 0) (ab_b 1 (ab_d (Ev.to (ev_bin (ev_name 2) ev_int o_sub) hk rfl) ab_nil))) ⟨ns, p, n + 1, k, rfl, hz, by omega, by omega, rfl, rfl⟩) rfl rfl) eva_nil))) ⟨_, back_d (back_o (back_d back_nil) rfl rfl), q⟩)
    · have h6 := of_decide_eq_false h
      unfold ddrawn at q
      rw [if_neg h3, if_neg h6] at q
      refine sx_one (s_ret (ev_tup (eva_cons ev_str
        (eva_cons (Ev.to (ev_callB (g m rfl) hr (ab_d (ev_name 0) (ab_b 1 (ab_d (Ev.to (ev_bin (ev_name 2) ev_int o_sub) hk rfl) ab_nil))) ⟨ns, p, n + 1, k, rfl, hz, by omega, by omega, rfl, rfl⟩) rfl rfl)
        (eva_cons (Ev.to (ev_callB (g m rfl) hr (ab_d (ev_name 0) (ab_b 1 (ab_d (Ev.to (ev_bin (ev_name 2) ev_int o_sub) hk rfl) ab_nil))) ⟨ns, p, (ddrawn ns k (n + 1)).2, k, rfl, hz, by omega, by omega, rfl, rfl⟩) rfl rfl) eva_nil)))) ⟨_, back_d (back_o (back_d back_nil) rfl rfl), q⟩)
theorem ok_drawn (F : Fun K "_law_drawn" "_law_drawn" st_drawn f fd) (b : Binds K fd ps_drawn []) (m : mg "_law_drawn" = some (.ref f)) (g_draw : Fc P w K mg base "_law_draw" 1 3 ct_draw) : ∀ n, FnOk P w K mg base CX0 (n + 2) f fd ps_drawn (spC P w 3 (ct_drawn n))
  | 0 => ok_drawn1 0 F (g_draw.up (by omega)) fun m h => by omega
  | n + 1 => ok_drawn1 (n + 1) F (g_draw.up (by omega)) fun k h => by
    obtain rfl : k = n := by omega
    exact fc_mk F (ok_drawn F b m g_draw k) b m (mo_drawn k)
abbrev st_dtold : Stmt := topS 9
abbrev nm_dtold : List Str := ["_law_script", "_law_town", "_law_most", "_law_many", "_law_k"]
theorem sc_dtold : FnScope nm_dtold ["_law_script", "_law_town", "_law_most"] (defScope st_dtold) := ⟨rfl, rfl, rfl, by decide +kernel, rfl, by decide +kernel, by decide +kernel⟩
theorem ok_dtold {k : Nat} (F : Fun K "_law_drawn_told" "_law_drawn_told" st_dtold f fd) (B : Bt mg) (g_draw : Fc P w K mg base "_law_draw" k 3 ct_draw) (g_drawn : Fc P w K mg base "_law_drawn" k 3 (ct_drawn 3)) : FnOk P w K mg base CX0 (k + 1) f fd ["_law_script", "_law_town", "_law_most"] (spC P w 3 ct_dtold) := by
  refine fc_of F sc_dtold ct_dtold fun cdv A outer s H E args Q hr hl hc => ?_
  obtain ⟨ns, p, n, most, rfl, hz, hn, hm, q⟩ := hc
  have nd := sc_dtold.nd
  have t0 := ddraw_nn ns (n + 1) (m := (most : Int) + 1) (by omega)
  have t1 := ddraw_lt ns (n + 1) (m := (most : Int) + 1) (by omega)
  refine sx_cons (s_set 3 (Ev.to (ev_callB g_draw hr (ab_d (ev_name 0) (ab_b 1 (ab_d (ev_bin (ev_name 2) ev_int o_add) ab_nil))) ⟨ns, p, n, _, rfl, hz, by omega, by omega, rfl, rfl⟩) rfl rfl) nd ?_)
  refine sx_one (s_ret (Ev.to (ev_ty c_tupL (eva_cons (LcIs.ev (lc_gen [("_law_k", 4)] (fun i acc S' => acc = (dpairs ns i (n + 1)).1.map pairD ∧ S' = [some (.dat (dInts ns)), some (.lst p (zeros (dpairs ns i (n + 1)).2)), some (.dat (.int (most : Nat))), some (.dat (.int (ddraw ns (n + 1) ((most : Int) + 1)))), none]) (blkOk_by (N := nm_dtold) (sc := defScope st_dtold) (by decide +kernel))
    (it_range (n := (ddraw ns (n + 1) ((most : Int) + 1)).toNat) (Ev.to (ev_name 3) (by rw [Int.toNat_of_nonneg t0]) rfl) B.range (by omega)) rfl ⟨rfl, rfl⟩ ?_ (fun acc S' h => h)) nd) eva_nil) B.tuple boot_tTuple) (by rw [upTo_len]) rfl) ⟨_, back_d (back_o (back_d back_nil) rfl rfl), ?_⟩)
  · rintro i d acc S' ei ⟨rfl, rfl⟩ hw
    obtain ⟨hlt, rfl⟩ := upTo_lt ei
    have h1 := dpairs_few ns i (n + 1)
    have h2 := ddrawn_few ns 2 (dpairs ns i (n + 1)).2
    refine ⟨[4], [some (.dat (dInts ns)), some (.lst p (zeros (dpairs ns i (n + 1)).2)), some (.dat (.int (most : Nat))), some (.dat (.int (ddraw ns (n + 1) ((most : Int) + 1)))), some (.dat (.int (i : Nat)))], true, [some (.dat (dInts ns)), some (.lst p (zeros (dpairs ns i (n + 1)).2)), some (.dat (.int (most : Nat))), some (.dat (.int (ddraw ns (n + 1) ((most : Int) + 1)))), some (.dat (.int (i : Nat)))], fun j hj => hj, fun Y hY => ?_, fun Y hY => evts_nil, fun h => (by cases h), fun _ => ⟨pairD ((ddrawn ns 2 (dpairs ns i (n + 1)).2).1, (ddrawn ns 2 (ddrawn ns 2 (dpairs ns i (n + 1)).2).2).1), [some (.dat (dInts ns)), some (.lst p (zeros (dpairs ns (i + 1) (n + 1)).2)), some (.dat (.int (most : Nat))), some (.dat (.int (ddraw ns (n + 1) ((most : Int) + 1)))), some (.dat (.int (i : Nat)))], fun Y hY => ?_, ?_, ?_, rfl⟩⟩
    · obtain ⟨s, H, C, cl, fp, rfl⟩ := hY
      exact asg_name 4 nd
    · obtain ⟨s, H, C, cl, fp, rfl⟩ := hY
      exact Ev.to (ev_tup (eva_cons (Ev.to (ev_callB g_drawn hr (ab_d (ev_name 0) (ab_b 1 (ab_d ev_int ab_nil))) ⟨ns, p, (dpairs ns i (n + 1)).2, 2, rfl, hz, by omega, by decide, rfl, rfl⟩) rfl rfl)
        (eva_cons (Ev.to (ev_callB g_drawn hr (ab_d (ev_name 0) (ab_b 1 (ab_d ev_int ab_nil))) ⟨ns, p, _, 2, rfl, hz, by omega, by decide, rfl, rfl⟩) rfl rfl) eva_nil))) rfl rfl
    · rw [List.length_map, dpairs_len]
      exact Nat.lt_of_lt_of_le (m := 30) (by omega) (by decide)
    · rw [dpairs, List.map_append]; rfl
  · rw [upTo_len]; exact q
end

section
variable {P : Program} {w : World} {K : PySem.W.Frag} {mg : Str → Option Value} {base : Heap} {f : Addr} {fd : FuncData}
abbrev st_put : Stmt := topS 5
abbrev nm_put : List Str := ["term", "name", "other", "part"]
theorem sc_put : FnScope nm_put ["term", "name", "other"] (defScope st_put) := ⟨rfl, rfl, rfl, by decide +kernel, rfl, by decide +kernel, by decide +kernel⟩
theorem ok_put1 (n : Nat) (hn : n ≤ 60) (F : Fun K "put" "put" st_put f fd) (B : Bt mg) (g : ∀ m, m + 1 = n → Fc P w K mg base "put" n 3 (ct_put m)) : FnOk P w K mg base CX0 (n + 1) f fd ["term", "name", "other"] (spC P w 3 (ct_put n)) := by
  refine fc_of F sc_put (ct_put n) fun cdv A outer s H E args Q hr hl hc => ?_
  obtain ⟨t, x, o, rfl, ht, hx, hd, q⟩ := hc
  have nd := sc_put.nd
  have h1 : (T.t0 x).Ok := hx
  refine sx_cons (s_if (t := decide (t = .t0 x)) (EvT.to (evt_cmp (ev_name 0) (ev_tup (eva_cons (ev_name 1) eva_nil)) (o_eq hr.units (ht.shaped (by omega)) (h1.shaped (by simp [T.depth])))) (eqv_enc t (.t0 x))) (fun h => sx_one (s_ret (ev_name 2) ⟨_, back_data (ds := [_, _, _]), ?_⟩)) (fun h => sx_nil ?_))
  · rw [of_decide_eq_true h, T.put, if_pos rfl] at q
    rw [of_decide_eq_true h]
    exact q
  · rw [put_ps (of_decide_eq_false h)] at q
    rw [T.enc_items t] at q ⊢
    refine sx_one (s_ret (ev_bin (Ev.to (ev_slT (ev_name 0) evp_none (evp_some ev_int)) (cut_head _ _) rfl) (ev_ty c_tupL (eva_cons (LcIs.ev (lc_mapT 3 (fun u => (u.put x o).enc) (it_tup (Ev.to (ev_slT (ev_name 0) (evp_some ev_int) evp_none) (cut_ps t) rfl)) (blkOk_by (N := nm_put) (sc := defScope st_put) (by decide +kernel)) rfl ?_ ?_ nd) nd) eva_nil) B.tuple boot_tTuple) (o_catT ?_)) ⟨_, back_data (ds := [_, _, _]), q⟩)
    · intro u hu s H C cl fp
      have h := T.ps_depth hu
      obtain ⟨m, hm⟩ : ∃ m, m + 1 = n := ⟨n - 1, by omega⟩
      exact ev_call (g m hm) hr (eva_cons (ev_name 3) (eva_cons (ev_name 1) (eva_cons (ev_name 2) eva_nil))) ⟨u, x, o, rfl, T.All.ps ht u hu, hx, by omega, rfl⟩
    · exact Nat.le_trans t.ps_le (by decide)
    · have := t.ps_le
      rw [List.length_map, List.length_singleton]
      exact Nat.le_trans (m := 3) (by omega) (by decide)
theorem ok_put (F : Fun K "put" "put" st_put f fd) (B : Bt mg) (b : Binds K fd ["term", "name", "other"] []) (m : mg "put" = some (.ref f)) : ∀ n, n ≤ 60 → FnOk P w K mg base CX0 (n + 1) f fd ["term", "name", "other"] (spC P w 3 (ct_put n))
  | 0, h => ok_put1 0 h F B fun m h => by omega
  | n + 1, h => ok_put1 (n + 1) h F B fun k e => by
    obtain rfl : k = n := by omega
    exact fc_mk F (ok_put F B b m k (by omega)) b m (mo_put k)
end

section
variable {P : Program} {w : World} {K : PySem.W.Frag} {mg : Str → Option Value} {base : Heap} {f : Addr} {fd : FuncData}
theorem itm0 (t : T) : atI t.items 0 = some (.str t.hd) := by cases t <;> rfl
theorem itm_len (t : T) : decide (((t.items.length : Nat) : Int) = 1) = decide (t.ps = []) := by
  cases t <;> simp [T.items, T.ps]
theorem ps_nil {t : T} (h : t.ps = []) : ∃ x, t = .t0 x := by
  cases t with
  | t0 x => exact ⟨x, rfl⟩
  | t1 _ _ => cases h
  | t2 _ _ _ => cases h
theorem take_one {β : Type} {bs : List β} {i : Nat} {b : β} (h : bs[i]? = some b) : bs.take (i + 1) = bs.take i ++ [b] := by
  rw [List.take_add_one, h]; rfl
theorem bget_none {b : Bnd} {x : Str} (h : ∀ z ∈ b, z.1 ≠ x) : bget b x = none := by
  unfold bget
  rw [Option.map_eq_none_iff, List.find?_eq_none]
  intro z hz
  rw [decide_eq_true_iff]
  exact h z hz
theorem bget_at {b : Bnd} {i : Nat} {y : Str × T} (e : b[i]? = some y) (h : ∀ z ∈ b.take i, z.1 ≠ y.1) : bget b y.1 = some y.2 := by
  unfold bget
  induction b generalizing i with
  | nil => simp at e
  | cons a r ih =>
    rw [List.find?_cons]
    cases i with
    | zero =>
      simp only [List.getElem?_cons_zero, Option.some.injEq] at e
      subst e
      rw [decide_eq_true rfl]; rfl
    | succ i =>
      rw [decide_eq_false (h a (by simp))]
      exact ih (by simpa using e) fun z hz => h z (by rw [List.take_succ_cons]; exact List.mem_cons_of_mem _ hz)
theorem putF_ps {b : Bnd} {t : T} (h : t.ps = [] → bget b t.hd = none) : (putF b t).enc = .tuple ([.str t.hd] ++ t.ps.map fun u => (putF b u).enc) := by
  cases t with
  | t0 x =>
    have h0 : bget b x = none := h rfl
    show ((bget b x).getD (.t0 x)).enc = _
    rw [h0]; rfl
  | t1 x a => rfl
  | t2 x a c => rfl
theorem s_retM {X : Cx} {S Sa : ASt} {e : Expr} {mk : Addr → OV} {pos : Pos} {D : AE} (h : EvO X e S mk Sa) (q : ∀ p, D.rt (mk p) Sa) : S1 X (.Return (some e) pos) S D :=
  s_retQ fun F H σ st Q k => h F H σ st Q fun v ov F' H' S' g ⟨⟨p, e1⟩, e2⟩ => k v ov F' H' S' g (by rw [e1, e2]; exact q p)
abbrev st_put_all : Stmt := topS 1
abbrev nm_put_all : List Str := ["term", "pairs", "name", "other", "part"]
theorem sc_put_all : FnScope nm_put_all ["term", "pairs"] (defScope st_put_all) := ⟨rfl, rfl, rfl, by decide +kernel, rfl, by decide +kernel, by decide +kernel⟩
theorem ok_put_all1 (n : Nat) (hn : n ≤ 60) (F : Fun K "put_all" "put_all" st_put_all f fd) (B : Bt mg) (g : ∀ m, m + 1 = n → Fc P w K mg base "put_all" n 2 (ct_putall m)) : FnOk P w K mg base CX0 (n + 1) f fd ["term", "pairs"] (spC P w 2 (ct_putall n)) := by
  refine fc_of F sc_put_all (ct_putall n) fun cdv A outer s H E args Q hr hl hc => ?_
  obtain ⟨t, b, rfl, ht, hd, hb, q⟩ := hc
  have nd := sc_put_all.nd
  refine sx_cut (fun S' => ∃ a c, S' = [some (.dat t.enc), some (.dat (bndD b)), a, c, none] ∧ (t.ps = [] → bget b t.hd = none))
    (s_if (t := decide (t.ps = [])) (EvT.to (evt_cmp (ev_bi c_lenT (eva_cons (Ev.to (ev_name 0) (T.enc_items t) rfl) eva_nil) B.len PySem.boot_len) ev_int o_eqI) (itm_len t)) (fun h => ?_) (fun h => sx_nil ⟨none, none, rfl, fun e => absurd e (of_decide_eq_false h)⟩)) ?_
  · obtain ⟨x, rfl⟩ := ps_nil (of_decide_eq_true h)
    refine sx_one (s_for [2, 3] (fun i S' => ∃ a c, S' = [some (.dat (T.t0 x).enc), some (.dat (bndD b)), a, c, none] ∧ ∀ z ∈ b.take i, z.1 ≠ x) (it_tup (ds := b.map bD) (ev_name 1)) ⟨none, none, rfl, fun z h => by simp at h⟩ ?_ ?_)
    · rintro i e S' ei ⟨a, c, rfl, hno⟩
      obtain ⟨y, y1, y2, rfl⟩ := by_at ei
      have h1 : (T.t0 y.1).Ok := hb y y2
      refine ⟨_, asg_tup (ds := [.str y.1, y.2.enc]) (asgs_cons (asg_name 2 nd) (asgs_cons (asg_name 3 nd) asgs_nil)) rfl, ?_⟩
      refine sx_one (s_if (t := decide (T.t0 x = .t0 y.1)) (EvT.to (evt_cmp (ev_name 0) (ev_tup (eva_cons (ev_name 2) eva_nil)) (o_eq hr.units (ht.shaped (by omega)) (h1.shaped (by simp [T.depth])))) (eqv_enc (.t0 x) (.t0 y.1))) (fun hc => ?_) (fun hc => sx_nil ?_))
      · have e : x = y.1 := by have := of_decide_eq_true hc; injection this
        subst e
        have b1 := bget_at y1 hno
        have e2 : putF b (.t0 y.1) = y.2 := by show (bget b y.1).getD _ = _; rw [b1]; rfl
        rw [e2] at q
        exact sx_one (s_ret (ev_name 3) ⟨_, back_data (ds := [_, _]), q⟩)
      · have e : ¬ y.1 = x := fun z => of_decide_eq_false hc (by rw [z])
        refine ⟨_, _, rfl, fun z hz => ?_⟩
        rw [take_one y1] at hz
        rcases List.mem_append.mp hz with h | h
        · exact hno z h
        · rw [List.mem_singleton.mp h]; exact e
    · rintro S' ⟨a, c, rfl, hno⟩
      rw [List.length_map, List.take_length] at hno
      exact ⟨a, c, rfl, fun _ => bget_none hno⟩
  rintro S' ⟨a, c, rfl, hno⟩
  rw [putF_ps hno] at q
  rw [T.enc_items t] at q ⊢
  refine sx_one (s_ret (ev_bin (Ev.to (ev_slT (ev_name 0) evp_none (evp_some ev_int)) (cut_head _ _) rfl) (ev_ty c_tupL (eva_cons (LcIs.ev (lc_mapT 4 (fun u => (putF b u).enc) (it_tup (Ev.to (ev_slT (ev_name 0) (evp_some ev_int) evp_none) (cut_ps t) rfl)) (blkOk_by (N := nm_put_all) (sc := defScope st_put_all) (by decide +kernel)) rfl ?_ ?_ nd) nd) eva_nil) B.tuple boot_tTuple) (o_catT ?_)) ⟨_, back_data (ds := [_, _]), q⟩)
  · intro u hu s H C cl fp
    have h := T.ps_depth hu
    obtain ⟨m, hm⟩ : ∃ m, m + 1 = n := ⟨n - 1, by omega⟩
    exact ev_call (g m hm) hr (eva_cons (ev_name 4) (eva_cons (ev_name 1) eva_nil)) ⟨u, b, rfl, T.All.ps ht u hu, by omega, hb, rfl⟩
  · exact Nat.le_trans t.ps_le (by decide)
  · have := t.ps_le
    rw [List.length_map, List.length_singleton]
    exact Nat.le_trans (m := 3) (by omega) (by decide)
theorem ok_put_all (F : Fun K "put_all" "put_all" st_put_all f fd) (B : Bt mg) (b : Binds K fd ["term", "pairs"] []) (m : mg "put_all" = some (.ref f)) : ∀ n, n ≤ 60 → FnOk P w K mg base CX0 (n + 1) f fd ["term", "pairs"] (spC P w 2 (ct_putall n))
  | 0, h => ok_put_all1 0 h F B fun m h => by omega
  | n + 1, h => ok_put_all1 (n + 1) h F B fun k e => by
    obtain rfl : k = n := by omega
    exact fc_mk F (ok_put_all F B b m k (by omega)) b m (mo_putall k)
abbrev st_match_on : Stmt := topS 2
abbrev nm_match_on : List Str := ["pattern", "names", "term", "found", "part", "other"]
theorem sc_match_on : FnScope nm_match_on ["pattern", "names", "term", "found"] (defScope st_match_on) := ⟨rfl, rfl, rfl, by decide +kernel, rfl, by decide +kernel, by decide +kernel⟩
theorem ok_match_on1 (n : Nat) (hn : n ≤ 8) (F : Fun K "match_on" "match_on" st_match_on f fd) (B : Bt mg) (g : ∀ m, m + 1 = n → Fc P w K mg base "match_on" n 4 (ct_match m)) : FnOk P w K mg base CX0 (n + 1) f fd ["pattern", "names", "term", "found"] (spC P w 4 (ct_match n)) := by
  refine fc_of F sc_match_on (ct_match n) fun cdv A outer s H E args Q hr hl hc => ?_
  obtain ⟨p, nm, t, q0, b, rfl, po, pd, to, td, hnm, bok, hsz, q⟩ := hc
  have nd := sc_match_on.nd
  have hun : (A.deeper (envOfC "match_on" (defScope st_match_on) s.heap.objs.size f cdv)).units + 65 < cLine := by have := hr.un; omega
  have phd : isHd p.hd = true := T.hd_ok po
  refine sx_cons (s_if (t := decide (p.ps = []) && decide (p.hd ∈ nm)) (EvT.to (evw_and (c1 := decide (p.ps = [])) (c2 := decide (p.hd ∈ nm)) (EvT.to (evt_cmp (ev_bi c_lenT (eva_cons (Ev.to (ev_name 0) (T.enc_items p) rfl) eva_nil) B.len PySem.boot_len) ev_int o_eqI) (itm_len p)) (fun _ => evw_and1 (EvT.to (evt_cmp (ev_ix (Ev.to (ev_name 0) (T.enc_items p) rfl) ev_int (ix_t (itm0 p))) (ev_name 1) (o_inT hun (str_shaped phd) (strs_shaped hnm).1)) (any_str nm p.hd)))).t rfl) (fun h => ?_) (fun h => sx_nil ?_))
  · rw [Bool.and_eq_true, decide_eq_true_iff, decide_eq_true_iff] at h
    obtain ⟨h1, hx⟩ := h
    obtain ⟨x, rfl⟩ := ps_nil h1
    have hx : x ∈ nm := hx
    unfold matchT at q
    rw [if_pos hx] at q
    cases e : bget b x with
    | some u =>
      rw [e] at q
      have k := bok.ok _ (bget_mem e)
      have kk : kget (bK b) (.inr x) = some u.enc := by rw [kget_bK, e]; rfl
      refine sx_one (s_ret (Ev.to (ev_cmp (S1 := [some (.dat (T.t0 x).enc), some (.dat (nmD nm)), some (.dat t.enc), some (.dK q0 (bK b)), none, none]) (Ev.to (ev_setdK (k := .inr x) (dv := t.enc) (r := u.enc) (evr_name 3) (ev_ix (Ev.to (ev_name 0) (T.enc_items _) rfl) ev_int (ix_t (itm0 _))) (ev_name 2) (.slot (j := 3) rfl) (fun _ => ?_) (by rw [kk]; rfl) ?_) rfl (by rw [kput_bK_same bok.nd e]; rfl)) (ev_name 2) (o_eqT hr.units k.1 to k.2 td)) rfl rfl) ⟨_, back_d (back_d (back_d (back_o back_nil rfl rfl))), q⟩)
      · rw [kput_bK_same bok.nd e]; rfl
      · rw [List.length_map]; exact Nat.lt_of_le_of_lt (m := 1000) (by omega) (by decide)
    | none =>
      rw [e] at q
      refine sx_one (s_ret (Ev.to (ev_cmp (S1 := [some (.dat (T.t0 x).enc), some (.dat (nmD nm)), some (.dat t.enc), some (.dK q0 (bK (b ++ [(x, t)]))), none, none]) (Ev.to (ev_setdK (k := .inr x) (dv := t.enc) (r := t.enc) (evr_name 3) (ev_ix (Ev.to (ev_name 0) (T.enc_items _) rfl) ev_int (ix_t (itm0 _))) (ev_name 2) (.slot (j := 3) rfl) (fun h => by rw [kget_bK, e] at h; cases h) (by rw [kget_bK, e]; rfl) ?_) rfl (by rw [kput_bK_new e]; rfl)) (ev_name 2) (o_eqT hr.units to to td td)) (by rw [decide_eq_true rfl]) rfl) ⟨_, back_d (back_d (back_d (back_o back_nil rfl rfl))), q⟩)
      rw [List.length_map]; exact Nat.lt_of_le_of_lt (m := 1000) (by omega) (by decide)
  have hn0 : ¬ (p.ps = [] ∧ p.hd ∈ nm) := fun z => by
    rw [decide_eq_true z.1, decide_eq_true z.2] at h; cases h
  clear h
  refine sx_cons (s_if (t := !decide (p.hd = t.hd) || !decide (p.ps.length = t.ps.length)) (EvT.to (evw_or (c1 := !decide (p.hd = t.hd)) (c2 := !decide (p.ps.length = t.ps.length)) (evt_cmp (ev_ix (Ev.to (ev_name 0) (T.enc_items p) rfl) ev_int (ix_t (itm0 p))) (ev_ix (Ev.to (ev_name 2) (T.enc_items t) rfl) ev_int (ix_t (itm0 t))) o_neS) (fun _ => evw_or1 (EvT.to (evt_cmp (ev_bi c_lenT (eva_cons (Ev.to (ev_name 0) (T.enc_items p) rfl) eva_nil) B.len PySem.boot_len) (ev_bi c_lenT (eva_cons (Ev.to (ev_name 2) (T.enc_items t) rfl) eva_nil) B.len PySem.boot_len) o_neI) ?_))).t rfl) (fun h => ?_) (fun h => sx_nil ?_))
  · congr 1
    rw [T.items_len, T.items_len]
    exact decide_eq_decide.mpr (by omega)
  · have hne : ¬ (p.hd = t.hd ∧ p.ps.length = t.ps.length) := fun z => by
      rw [decide_eq_true z.1, decide_eq_true z.2] at h; cases h
    rw [match_un nm hn0 hne] at q
    exact sx_one (s_ret ev_bool ⟨_, back_d (back_d (back_d (back_o back_nil rfl rfl))), q⟩)
  have he : p.hd = t.hd ∧ p.ps.length = t.ps.length := by
    rw [Bool.or_eq_false_iff, Bool.not_eq_false', Bool.not_eq_false', decide_eq_true_iff, decide_eq_true_iff] at h
    exact h
  clear h
  rw [match_L nm hn0 he.1 he.2] at q
  have hz : ∀ z ∈ p.ps.zip t.ps, z.1 ∈ p.ps ∧ z.2 ∈ t.ps := fun z hz => ⟨(List.of_mem_zip hz).1, (List.of_mem_zip hz).2⟩
  have zsum : ((p.ps.zip t.ps).map fun z => z.1.size).sum ≤ p.size := by
    have e1 : ((p.ps.zip t.ps).map fun z => z.1.size) = p.ps.map T.size := by
      rw [show (fun z : T × T => z.1.size) = T.size ∘ Prod.fst from rfl, ← List.map_map, List.map_fst_zip (by omega)]
    rw [e1]; have := ps_sum p; omega
  have zl : (p.ps.zip t.ps).length ≤ 2 := by rw [List.length_zip]; have := p.ps_le; omega
  generalize hzs : p.ps.zip t.ps = zs at q hz zsum zl
  have mlen : ∀ l : List (T × T), (matchL nm l b).1.length = l.length := by
    have go : ∀ (l : List (T × T)) (c : Bnd), (matchL nm l c).1.length = l.length := by
      intro l
      induction l with
      | nil => intro c; rfl
      | cons z l ih => intro c; show (matchL nm l _).1.length + 1 = _; rw [ih]; rfl
    exact fun l => go l b
  refine sx_one (s_ret (Ev.to (ev_bi (c_all (bs := (matchL nm zs b).1)) (eva_cons (LcIs.ev (rs := (matchL nm zs b).1.map .bool) (Sb := [some (.dat p.enc), some (.dat (nmD nm)), some (.dat t.enc), some (.dK q0 (bK (matchL nm zs b).2)), none, none]) (lc_gen [("part", 4), ("other", 5)] (fun i acc S' => acc = (matchL nm (zs.take i) b).1.map .bool ∧ S' = [some (.dat p.enc), some (.dat (nmD nm)), some (.dat t.enc), some (.dK q0 (bK (matchL nm (zs.take i) b).2)), none, none]) (blkOk_by (N := nm_match_on) (sc := defScope st_match_on) (by decide +kernel))
    (it_zip (Ev.to (ev_slT (Ev.to (ev_name 0) (T.enc_items p) rfl) (evp_some ev_int) evp_none) (cut_ps p) rfl) (Ev.to (ev_slT (Ev.to (ev_name 2) (T.enc_items t) rfl) (evp_some ev_int) evp_none) (cut_ps t) rfl) (.inr rfl) (.inr rfl) B.zip) rfl ⟨rfl, rfl⟩ ?_ ?_) nd) eva_nil) B.all (by decide +kernel)) rfl rfl) ⟨_, back_d (back_d (back_d (back_o back_nil rfl rfl))), q⟩)
  · rintro i d acc S' ei ⟨rfl, rfl⟩ hw
    rw [zip_enc, hzs] at ei
    obtain ⟨z, z1, z2, rfl⟩ := by_at ei
    obtain ⟨zp, zt⟩ := hz z z2
    have zd := T.ps_depth zp
    have zd2 := T.ps_depth zt
    have zo : ∀ y ∈ zs.take i, y.2.Ok ∧ y.2.depth ≤ 8 := fun y hy => by
      have := (hz y (List.mem_of_mem_take hy)).2
      exact ⟨T.All.ps to _ this, by have := T.ps_depth this; omega⟩
    obtain ⟨k1, k2⟩ := matchL_ok (nm := nm) bok zo
    have zs2 : ((zs.take i).map fun z => z.1.size).sum + z.1.size ≤ p.size := by
      refine Nat.le_trans ?_ zsum
      have := List.take_append_drop (i + 1) zs
      conv => rhs; rw [← this, take_one z1]
      rw [List.map_append, List.map_append, List.sum_append, List.sum_append]
      simp only [List.map_cons, List.map_nil, List.sum_cons, List.sum_nil]
      omega
    obtain ⟨m, hm⟩ : ∃ m, m + 1 = n := ⟨n - 1, by omega⟩
    have e1 := matchL_app nm (zs.take i) z b
    rw [← take_one z1] at e1
    refine ⟨[4, 5], [some (.dat p.enc), some (.dat (nmD nm)), some (.dat t.enc), some (.dK q0 (bK (matchL nm (zs.take i) b).2)), some (.dat z.1.enc), some (.dat z.2.enc)], true, [some (.dat p.enc), some (.dat (nmD nm)), some (.dat t.enc), some (.dK q0 (bK (matchL nm (zs.take i) b).2)), some (.dat z.1.enc), some (.dat z.2.enc)], fun j hj => hj, fun Y hY => ?_, fun Y hY => evts_nil, fun h => (by cases h), fun _ => ⟨.bool (matchT nm z.1 z.2 (matchL nm (zs.take i) b).2).1, [some (.dat p.enc), some (.dat (nmD nm)), some (.dat t.enc), some (.dK q0 (bK (matchT nm z.1 z.2 (matchL nm (zs.take i) b).2).2)), some (.dat z.1.enc), some (.dat z.2.enc)], fun Y hY => ?_, ?_, ?_, ?_⟩⟩
    · obtain ⟨s, H, C, cl, fp, rfl⟩ := hY
      exact asg_tup (asgs_cons (asg_name 4 nd) (asgs_cons (asg_name 5 nd) asgs_nil)) rfl
    · obtain ⟨s, H, C, cl, fp, rfl⟩ := hY
      exact Ev.to (ev_callB (as' := [.dat z.1.enc, .dat (nmD nm), .dat z.2.enc, .dK q0 (bK (matchT nm z.1 z.2 (matchL nm (zs.take i) b).2).2)]) (g m hm) hr (ab_d (ev_name 4) (ab_d (ev_name 1) (ab_d (ev_name 5) (ab_b 3 ab_nil)))) ⟨z.1, nm, z.2, q0, _, rfl, T.All.ps po _ zp, by omega, T.All.ps to _ zt, by omega, hnm, k1, by omega, rfl, rfl⟩) rfl rfl
    · rw [List.length_map, mlen, List.length_take]; exact Nat.lt_of_le_of_lt (m := 2) (by omega) (by decide)
    · rw [e1, List.map_append]; rfl
    · rw [e1]; rfl
  · rintro acc S' ⟨rfl, rfl⟩
    rw [zip_enc, hzs, List.length_map, List.take_length]
    exact ⟨rfl, rfl⟩
theorem ok_match_on (F : Fun K "match_on" "match_on" st_match_on f fd) (B : Bt mg) (b : Binds K fd ["pattern", "names", "term", "found"] []) (m : mg "match_on" = some (.ref f)) : ∀ n, n ≤ 8 → FnOk P w K mg base CX0 (n + 1) f fd ["pattern", "names", "term", "found"] (spC P w 4 (ct_match n))
  | 0, h => ok_match_on1 0 h F B fun m h => by omega
  | n + 1, h => ok_match_on1 (n + 1) h F B fun k e => by
    obtain rfl : k = n := by omega
    exact fc_mk F (ok_match_on F B b m k (by omega)) b m (mo_match k)
abbrev st_matched : Stmt := topS 3
abbrev nm_matched : List Str := ["pattern", "names", "term", "found"]
theorem sc_matched : FnScope nm_matched ["pattern", "names", "term"] (defScope st_matched) := ⟨rfl, rfl, rfl, by decide +kernel, rfl, by decide +kernel, by decide +kernel⟩
theorem ok_matched {k : Nat} (n : Nat) (hn : n ≤ 8) (F : Fun K "matched" "matched" st_matched f fd) (B : Bt mg) (g : Fc P w K mg base "match_on" k 4 (ct_match n)) : FnOk P w K mg base CX0 (k + 1) f fd ["pattern", "names", "term"] (spC P w 3 (ct_matched n)) := by
  refine fc_of F sc_matched (ct_matched n) fun cdv A outer s H E args Q hr hl hc => ?_
  obtain ⟨p, nm, t, rfl, po, pd, ps, to, td, hnm, qn, qs⟩ := hc
  have nd := sc_matched.nd
  have b0 : BOk [] := ⟨.nil, fun y h => (by cases h)⟩
  have bm := b0.match (nm := nm) (p := p) ⟨to, td⟩
  have qn' : (matchT nm p t []).1 = false → Q (.dat .none) [.dat p.enc, .dat (nmD nm), .dat t.enc] := fun h => qn (by unfold mres; rw [h]; rfl)
  have qs' : (matchT nm p t []).1 = true → ∀ q, Q (.ptp q ((srtB (matchT nm p t []).2).map bD)) [.dat p.enc, .dat (nmD nm), .dat t.enc] := fun h => qs _ (by unfold mres; rw [h]; rfl)
  refine sx_cons (s_setO 3 evo_dK nd fun q0 => ?_)
  refine sx_cons (s_if (t := !(matchT nm p t []).1) (Sa := [some (.dat p.enc), some (.dat (nmD nm)), some (.dat t.enc), some (.dK q0 (bK (matchT nm p t []).2))]) (EvT.to (evt_not (evt_val (Ev.to (ev_callB (as' := [.dat p.enc, .dat (nmD nm), .dat t.enc, .dK q0 (bK (matchT nm p t []).2)]) g hr (ab_d (ev_name 0) (ab_d (ev_name 1) (ab_d (ev_name 2) (ab_b 3 ab_nil)))) ⟨p, nm, t, q0, [], rfl, po, pd, to, td, hnm, b0, by simpa using ps, rfl, rfl⟩) rfl rfl))) rfl) (fun h => ?_) (fun h => sx_nil ?_))
  · exact sx_one (s_ret ev_none ⟨_, back_data (ds := [_, _, _]), qn' (by simpa using h)⟩)
  · have h1 : (matchT nm p t []).1 = true := by simpa using h
    have dep : ∀ y ∈ (matchT nm p t []).2, y.2.depth ≤ 20 := fun y hy => Nat.le_trans (bm.ok y hy).2 (by decide)
    have qq := qs' h1
    rw [← srtD_b] at qq
    refine sx_one (s_retM (evo_tupP (EvO.freeze (evo_sortedIt hr.units hr.hd (evr_name 3) (by rw [bK_pairs]; exact srt_b _ dep) B.sorted)) B.tuple) fun q1 => ⟨_, back_data (ds := [_, _, _]), ?_⟩)
    rw [bK_pairs]
    exact qq q1
abbrev st_heads_of : Stmt := topS 10
abbrev nm_heads_of : List Str := ["_law_term", "_law_found", "_law_part"]
theorem sc_heads_of : FnScope nm_heads_of ["_law_term"] (defScope st_heads_of) := ⟨rfl, rfl, rfl, by decide +kernel, rfl, by decide +kernel, by decide +kernel⟩
theorem hds_ps (t : T) : hds t = t.hd :: t.ps.flatMap hds := by cases t <;> simp [hds, T.hd, T.ps]
theorem size_ps_le {t u : T} (h : u ∈ t.ps) : u.size ≤ t.size := by
  cases t with
  | t0 x => cases h
  | t1 x a => simp only [T.ps, List.mem_singleton] at h; subst h; simp only [T.size]; omega
  | t2 x a b =>
    simp only [T.ps, List.mem_cons, List.not_mem_nil, or_false] at h
    rcases h with rfl | rfl <;> simp only [T.size] <;> omega
theorem ok_heads_of1 (n : Nat) (F : Fun K "_law_heads_of" "_law_heads_of" st_heads_of f fd) (g : ∀ m, m + 1 = n → Fc P w K mg base "_law_heads_of" n 1 (ct_headsof m)) : FnOk P w K mg base CX0 (n + 1) f fd ["_law_term"] (spC P w 1 (ct_headsof n)) := by
  refine fc_of F sc_heads_of (ct_headsof n) fun cdv A outer s H E args Q hr hl hc => ?_
  obtain ⟨t, rfl, td, ts, q⟩ := hc
  have nd := sc_heads_of.nd
  rw [hds_ps] at q
  refine sx_cons (s_set 1 (ev_lst (eva_cons (ev_ix (Ev.to (ev_name 0) (T.enc_items t) rfl) ev_int (ix_t (itm0 t))) eva_nil)) nd ?_)
  refine sx_cut (fun S' => ∃ a, S' = [some (.dat t.enc), some (.dat (.list ((t.hd :: t.ps.flatMap hds).map .str))), a])
    (s_for [2] (fun i S' => ∃ a, S' = [some (.dat t.enc), some (.dat (.list ((t.hd :: (t.ps.take i).flatMap hds).map .str))), a]) (it_tup (Ev.to (ev_slT (Ev.to (ev_name 0) (T.enc_items t) rfl) (evp_some ev_int) evp_none) (cut_ps t) rfl)) ⟨none, rfl⟩ ?_ ?_) ?_
  · rintro i e S' ei ⟨a, rfl⟩
    obtain ⟨u, u1, u2, rfl⟩ := enc_at ei
    have ud := T.ps_depth u2
    have us := size_ps_le u2
    obtain ⟨m, hm⟩ : ∃ m, m + 1 = n := ⟨n - 1, by omega⟩
    refine ⟨_, asg_name 2 nd, ?_⟩
    refine sx_one (s_set 1 (ev_bin (ev_name 1) (ev_call (g m hm) hr (eva_cons (ev_name 2) eva_nil) ⟨u, rfl, by omega, by omega, rfl⟩) (o_catL ?_)) nd ?_)
    · have h1 := flat_len hds (n := 1000) (l := t.ps.take i) fun v hv => by rw [hds_len]; have := size_ps_le (List.mem_of_mem_take hv); omega
      have h2 : (t.ps.take i).length ≤ 2 := by rw [List.length_take]; have := t.ps_le; omega
      rw [List.length_map, List.length_map, List.length_cons, hds_len]
      exact Nat.le_trans (m := 10000) (by omega) (by decide)
    · exact ⟨_, by rw [take_one u1, List.flatMap_append, List.flatMap_cons, List.flatMap_nil, List.append_nil, ← List.cons_append, List.map_append]; rfl⟩
  · rintro S' ⟨a, rfl⟩
    exact ⟨a, by rw [List.length_map, List.take_length]⟩
  rintro S' ⟨a, rfl⟩
  exact sx_one (s_ret (ev_name 1) ⟨_, back_data (ds := [_]), q⟩)
theorem ok_heads_of (F : Fun K "_law_heads_of" "_law_heads_of" st_heads_of f fd) (b : Binds K fd ["_law_term"] []) (m : mg "_law_heads_of" = some (.ref f)) : ∀ n, FnOk P w K mg base CX0 (n + 1) f fd ["_law_term"] (spC P w 1 (ct_headsof n))
  | 0 => ok_heads_of1 0 F fun m h => by omega
  | n + 1 => ok_heads_of1 (n + 1) F fun k e => by
    obtain rfl : k = n := by omega
    exact fc_mk F (ok_heads_of F b m k) b m (mo_headsof k)
abbrev st_put_in : Stmt := topS 11
abbrev nm_put_in : List Str := ["_law_term", "_law_known", "_law_part"]
theorem sc_put_in : FnScope nm_put_in ["_law_term", "_law_known"] (defScope st_put_in) := ⟨rfl, rfl, rfl, by decide +kernel, rfl, by decide +kernel, by decide +kernel⟩
theorem ok_put_in1 (n : Nat) (F : Fun K "_law_put_in" "_law_put_in" st_put_in f fd) (B : Bt mg) (g : ∀ m, m + 1 = n → Fc P w K mg base "_law_put_in" n 2 (ct_putin m)) : FnOk P w K mg base CX0 (n + 1) f fd ["_law_term", "_law_known"] (spC P w 2 (ct_putin n)) := by
  refine fc_of F sc_put_in (ct_putin n) fun cdv A outer s H E args Q hr hl hc => ?_
  obtain ⟨t, q0, b, rfl, hd, q⟩ := hc
  have nd := sc_put_in.nd
  refine sx_cons (s_if (t := decide (t.ps = [])) (EvT.to (evt_cmp (ev_bi c_lenT (eva_cons (Ev.to (ev_name 0) (T.enc_items t) rfl) eva_nil) B.len PySem.boot_len) ev_int o_eqI) (itm_len t)) (fun h => ?_) (fun h => sx_nil ?_))
  · obtain ⟨x, rfl⟩ := ps_nil (of_decide_eq_true h)
    refine sx_one (s_ret (ev_getDK (k := .inr x) (dv := (T.t0 x).enc) (r := (putF b (.t0 x)).enc) hr.units (evr_name 1) (ev_ix (Ev.to (ev_name 0) (T.enc_items _) rfl) ev_int (ix_t (itm0 _))) (ev_name 0) (.slot (j := 1) rfl) ?_) ⟨_, back_d (back_o back_nil rfl rfl), q⟩)
    rw [kget_bK]
    show _ = ((bget b x).getD (.t0 x)).enc
    cases bget b x <;> rfl
  · rw [putF_ps fun e => absurd e (of_decide_eq_false h)] at q
    rw [T.enc_items t] at q ⊢
    refine sx_one (s_ret (ev_bin (Ev.to (ev_slT (ev_name 0) evp_none (evp_some ev_int)) (cut_head _ _) rfl) (ev_ty c_tupL (eva_cons (LcIs.ev (lc_mapT 2 (fun u => (putF b u).enc) (it_tup (Ev.to (ev_slT (ev_name 0) (evp_some ev_int) evp_none) (cut_ps t) rfl)) (blkOk_by (N := nm_put_in) (sc := defScope st_put_in) (by decide +kernel)) rfl ?_ ?_ nd) nd) eva_nil) B.tuple boot_tTuple) (o_catT ?_)) ⟨_, back_d (back_o back_nil rfl rfl), q⟩)
    · intro u hu s H C cl fp
      have h := T.ps_depth hu
      obtain ⟨m, hm⟩ : ∃ m, m + 1 = n := ⟨n - 1, by omega⟩
      exact Ev.to (ev_callB (as' := [.dat u.enc, .dK q0 (bK b)]) (g m hm) hr (ab_d (ev_name 2) (ab_b 1 ab_nil)) ⟨u, q0, b, rfl, by omega, rfl, rfl⟩) rfl rfl
    · exact Nat.le_trans t.ps_le (by decide)
    · have := t.ps_le
      rw [List.length_map, List.length_singleton]
      exact Nat.le_trans (m := 3) (by omega) (by decide)
theorem ok_put_in (F : Fun K "_law_put_in" "_law_put_in" st_put_in f fd) (B : Bt mg) (b : Binds K fd ["_law_term", "_law_known"] []) (m : mg "_law_put_in" = some (.ref f)) : ∀ n, FnOk P w K mg base CX0 (n + 1) f fd ["_law_term", "_law_known"] (spC P w 2 (ct_putin n))
  | 0 => ok_put_in1 0 F B fun m h => by omega
  | n + 1 => ok_put_in1 (n + 1) F B fun k e => by
    obtain rfl : k = n := by omega
    exact fc_mk F (ok_put_in F B b m k) b m (mo_putin k)
end

section
variable {P : Program} {w : World} {K : PySem.W.Frag} {mg : Str → Option Value} {base : Heap} {f : Addr} {fd : FuncData}
theorem evo_matchS {X : Cx} {S : ASt} {e e2 e3 : Expr} {np pos : Pos} {k n : Nat} {p t : T} {nm : List Str} {l : Bnd} (G : Fc X.prog X.w X.K X.mg X.base "matched" k 3 (ct_matched n)) (hr : Room k X.A) (h1 : Ev X e S p.enc S) (h2 : Ev X e2 S (nmD nm) S) (h3 : Ev X e3 S t.enc S) (po : p.Ok) (pd : p.depth ≤ n) (ps : p.size ≤ 1000) (to : t.Ok) (td : t.depth ≤ 8) (hn : ∀ x ∈ nm, isHd x = true) (hm : mres nm p t = some l) (hg : Gl X "matched" := by rfl)
    (he : starEach [e, e2, e3] X.env = (false, eval e X.env) :: starEach [e2, e3] X.env := by exact star_plain rfl) (he2 : starEach [e2, e3] X.env = (false, eval e2 X.env) :: starEach [e3] X.env := by exact star_plain rfl) (he3 : starEach [e3] X.env = (false, eval e3 X.env) :: starEach [] X.env := by exact star_plain rfl) (hpl : (backTo pos (starEach [e2, e3] X.env)).any (·.1) = false := by exact back_plain rfl) :
    EvO X (.Call (.Name "matched" np) [e, e2, e3] [] pos) S (fun q => .ptp q (l.map bD)) S :=
  evo_call G hr (eva_cons h1 (eva_cons h2 (eva_cons h3 eva_nil he3) he2) he) ⟨p, nm, t, rfl, po, pd, ps, to, td, hn, fun z => (by rw [hm] at z; cases z), fun l' z q => by rw [hm] at z; cases z; exact ⟨q, rfl⟩⟩ rfl hg (by decide) he hpl
theorem ev_matchN {X : Cx} {S : ASt} {e e2 e3 : Expr} {np pos : Pos} {k n : Nat} {p t : T} {nm : List Str} (G : Fc X.prog X.w X.K X.mg X.base "matched" k 3 (ct_matched n)) (hr : Room k X.A) (h1 : Ev X e S p.enc S) (h2 : Ev X e2 S (nmD nm) S) (h3 : Ev X e3 S t.enc S) (po : p.Ok) (pd : p.depth ≤ n) (ps : p.size ≤ 1000) (to : t.Ok) (td : t.depth ≤ 8) (hn : ∀ x ∈ nm, isHd x = true) (hm : mres nm p t = none) (hg : Gl X "matched" := by rfl)
    (he : starEach [e, e2, e3] X.env = (false, eval e X.env) :: starEach [e2, e3] X.env := by exact star_plain rfl) (he2 : starEach [e2, e3] X.env = (false, eval e2 X.env) :: starEach [e3] X.env := by exact star_plain rfl) (he3 : starEach [e3] X.env = (false, eval e3 X.env) :: starEach [] X.env := by exact star_plain rfl) (hpl : (backTo pos (starEach [e2, e3] X.env)).any (·.1) = false := by exact back_plain rfl) :
    Ev X (.Call (.Name "matched" np) [e, e2, e3] [] pos) S .none S :=
  ev_call G hr (eva_cons h1 (eva_cons h2 (eva_cons h3 eva_nil he3) he2) he) ⟨p, nm, t, rfl, po, pd, ps, to, td, hn, fun _ => rfl, fun l' z q => by rw [hm] at z; cases z⟩ rfl hg (by decide) he hpl
theorem EvW.to {X : Cx} {e : Expr} {S S1 : ASt} {c c' : Bool} (h : EvW X e S c S1) (e1 : c = c') : EvW X e S c' S1 := e1 ▸ h
theorem hds_hd : ∀ {t : T}, t.Ok → ∀ x ∈ hds t, isHd x = true := by
  intro t
  induction t with
  | t0 x => intro h y hy; simp only [hds, List.mem_singleton] at hy; subst hy; exact h
  | t1 x a ih =>
    intro h y hy
    rcases List.mem_cons.mp hy with rfl | hy
    · exact h.1
    · exact ih h.2 y hy
  | t2 x a b ih ih2 =>
    intro h y hy
    rcases List.mem_cons.mp hy with rfl | hy
    · exact h.1
    · rcases List.mem_append.mp hy with hy | hy
      · exact ih h.2.1 y hy
      · exact ih2 h.2.2 y hy
theorem fil_by {β : Type} (en : β → PyData) (q : β → Bool) (us : List β) : (((us.map en).zipIdx.filter fun x => ((us[x.2]?).map q).getD false).map fun x => x.1) = (us.filter q).map en := by
  have go : ∀ (l : List β) (n : Nat), (∀ i, us[n + i]? = l[i]?) → ((((l.map en).zipIdx n).filter fun x => ((us[x.2]?).map q).getD false).map fun x => x.1) = (l.filter q).map en := by
    intro l
    induction l with
    | nil => intro n _; rfl
    | cons t r ih =>
      intro n h
      have h0 := h 0
      rw [List.map_cons, List.zipIdx_cons, List.filter_cons, List.filter_cons]
      simp only [Nat.add_zero, List.getElem?_cons_zero] at h0
      rw [h0]
      have h1 := ih (n + 1) fun i => by
        have := h (i + 1)
        rw [List.getElem?_cons_succ] at this
        rw [show n + 1 + i = n + (i + 1) by omega]; exact this
      cases e : q t with
      | true => simp only [Option.map_some, Option.getD_some, e, if_true, List.map_cons, h1]
      | false => simp only [Option.map_some, Option.getD_some, e, Bool.false_eq_true, if_false, h1]
  exact go us 0 fun i => by rw [Nat.zero_add]
theorem srtB_len (f : Bnd) : (srtB f).length = f.length := List.length_mergeSort _
theorem mres_len {nm : List Str} {p t : T} {l : Bnd} (h : mres nm p t = some l) : l.length ≤ p.size := by
  unfold mres at h
  split at h
  · cases h
    rw [srtB_len]
    have := (match_ok nm p t []).len
    simpa using this
  · cases h
abbrev st_law : Stmt := topS 12
abbrev nm_law : List Str := ["_law_script", "_law_town", "_law_turn", "_law_pattern", "_law_names", "_law_known", "_law_pairs", "_law_goal", "_law_due", "_law_other", "_law_heard", "_law_some", "_law_name", "_law_spoilt", "_law_pair", "_law_term"]
theorem sc_law : FnScope nm_law ["_law_script"] (defScope st_law) := ⟨rfl, rfl, rfl, by decide +kernel, rfl, by decide +kernel, by decide +kernel⟩
abbrev fr (ns : List Int) (p : Addr) (n : Nat) (r : ASt) : ASt := some (.dat (dInts ns)) :: some (.lst p (zeros n)) :: r
theorem ok_law {k : Nat} (F : Fun K "law" "law" st_law f fd) (B : Bt mg) (g_draw : Fc P w K mg base "_law_draw" k 3 ct_draw) (g_drawn : Fc P w K mg base "_law_drawn" k 3 (ct_drawn 3)) (g_putin : Fc P w K mg base "_law_put_in" k 2 (ct_putin 8)) (g_headsof : Fc P w K mg base "_law_heads_of" k 1 (ct_headsof 8)) (g_putall : Fc P w K mg base "put_all" k 2 (ct_putall 8)) (g_put : Fc P w K mg base "put" k 3 (ct_put 8)) (g_matched : Fc P w K mg base "matched" k 3 (ct_matched 8)) : FnOk P w K mg base CX0 (k + 1) f fd ["_law_script"] (spC P w 1 ct_law) := by
  refine fc_of F sc_law ct_law fun cdv A outer s H E args Q hr hl hc => ?_
  obtain ⟨ns, rfl, hn, q⟩ := hc
  have nd := sc_law.nd
  have hz : ns.length ≤ 1000 := by omega
  have hun : (A.deeper (envOfC "law" (defScope st_law) s.heap.objs.size f cdv)).units + 65 < cLine := by have := hr.un; omega
  refine sx_cons (s_setO 1 (evo_lst eva_nil) nd fun p => ?_)
  refine sx_cut (fun S' => ∃ n r, S' = fr ns p n r ∧ r.length = 14)
    (s_for [2] (fun i S' => ∃ n a3 a4 a5 a6 a7 a8 a9 b0 b1 b2 b3 b4 b5 b6, S' = fr ns p n [a3, a4, a5, a6, a7, a8, a9, b0, b1, b2, b3, b4, b5, b6] ∧ n ≤ 200 * i) (it_range (n := 3) ev_int B.range (by decide)) ⟨0, none, none, none, none, none, none, none, none, none, none, none, none, none, none, rfl, Nat.le_refl _⟩ ?_ ?_) ?_
  · rintro i d S' ei ⟨n, a3, a4, a5, a6, a7, a8, a9, b0, b1, b2, b3, b4, b5, b6, rfl, hni⟩
    obtain ⟨hi3, rfl⟩ := upTo_lt ei
    refine ⟨_, asg_name 2 nd, ?_⟩
    refine sx_drop 12 (sx_drop 14 (sx_drop 15 ?_))
    show SX _ _ (fr ns p n [some (.dat (.int (i : Nat))), a4, a5, a6, a7, a8, a9, b0, b1, b2, none, b4, none, none]) _
    clear a3 b3 b5 b6
    have n0 : n ≤ 600 := by omega
    refine sx_cons (s_set 3 (Ev.to (ev_callB g_drawn hr (ab_d (ev_name 0) (ab_b 1 (ab_d ev_int ab_nil))) ⟨ns, p, n, 3, rfl, hz, by omega, by decide, rfl, rfl⟩) rfl rfl) nd ?_)
    show SX _ _ (fr ns p (ddrawn ns 3 n).2 [some (.dat (.int (i : Nat))), some (.dat (ddrawn ns 3 n).1.enc), a5, a6, a7, a8, a9, b0, b1, b2, none, b4, none, none]) _
    have f1 := ddrawn_few ns 3 n
    have tm1 := ddrawn_tm ns 3 n
    have dr1 := drawn_dr ns 3 n
    generalize (ddrawn ns 3 n).1 = pt at tm1 dr1
    generalize hn1 : (ddrawn ns 3 n).2 = n1 at f1
    clear a4
    refine sx_cons (s_set (Sa := fr ns p (n1 + 4) [some (.dat (.int (i : Nat))), some (.dat pt.enc), a5, a6, a7, a8, a9, b0, b1, b2, none, b4, none, none]) 4 (d := nmD (dnmP ns n1 4)) (Ev.to (ev_ty c_tupL (eva_cons (LcIs.ev (lc_gen [("_law_name", 12)] (fun i' acc S' => acc = (dnmP ns n1 i').map .str ∧ S' = fr ns p (n1 + i') [some (.dat (.int (i : Nat))), some (.dat pt.enc), a5, a6, a7, a8, a9, b0, b1, b2, none, b4, none, none]) (blkOk_by (N := nm_law) (sc := defScope st_law) (by decide +kernel))
      (it_str ev_str) rfl ⟨rfl, rfl⟩ ?_ ?_) nd) eva_nil) B.tuple boot_tTuple) rfl rfl) nd ?_)
    · rintro i' d acc S' ei ⟨rfl, rfl⟩ hw
      rw [abcd_signs, List.getElem?_map] at ei
      obtain ⟨j, ej, rfl⟩ := Option.map_eq_some_iff.mp ei
      obtain ⟨hj, rfl⟩ : i' < 4 ∧ i' = j := by
        obtain ⟨h1, h2⟩ := List.getElem?_eq_some_iff.mp ej
        rw [List.length_range] at h1
        rw [List.getElem_range] at h2
        exact ⟨h1, h2⟩
      refine ⟨[12], fr ns p (n1 + i') [some (.dat (.int (i : Nat))), some (.dat pt.enc), a5, a6, a7, a8, a9, b0, b1, b2, some (.dat (.str (sOf [97 + i']))), b4, none, none], decide (ddraw ns (n1 + i' + 1) 2 = 0), fr ns p (n1 + (i' + 1)) [some (.dat (.int (i : Nat))), some (.dat pt.enc), a5, a6, a7, a8, a9, b0, b1, b2, some (.dat (.str (sOf [97 + i']))), b4, none, none], fun j hj => hj, fun Y hY => ?_, fun Y hY => ?_, fun h => ?_, fun h => ⟨.str (sOf [97 + i']), fr ns p (n1 + (i' + 1)) [some (.dat (.int (i : Nat))), some (.dat pt.enc), a5, a6, a7, a8, a9, b0, b1, b2, some (.dat (.str (sOf [97 + i']))), b4, none, none], fun Y hY => ?_, ?_, ?_, rfl⟩⟩
      · obtain ⟨s, H, C, cl, fp, rfl⟩ := hY
        exact asg_name 12 nd
      · obtain ⟨s, H, C, cl, fp, rfl⟩ := hY
        exact evts_one (evt_cmp (Ev.to (ev_callB g_draw hr (ab_d (ev_name 0) (ab_b 1 (ab_d ev_int ab_nil))) ⟨ns, p, n1 + i', 2, rfl, hz, by omega, by decide, rfl, rfl⟩) rfl rfl) ev_int o_eqI)
      · exact ⟨by rw [dnmP_succ, if_neg (by rw [h]; decide), List.append_nil], rfl⟩
      · obtain ⟨s, H, C, cl, fp, rfl⟩ := hY
        exact ev_name 12
      · rw [List.length_map]; have := dnm_len ns n1 i'; exact Nat.lt_of_le_of_lt (m := 4) (by omega) (by decide)
      · rw [dnmP_succ, if_pos h, List.map_append]; rfl
    · rintro acc S' ⟨rfl, rfl⟩
      rw [abcd_signs, List.length_map, List.length_range]
      exact ⟨rfl, rfl⟩
    show SX _ _ (fr ns p (n1 + 4) [some (.dat (.int (i : Nat))), some (.dat pt.enc), some (.dat (nmD (dnmP ns n1 4))), a6, a7, a8, a9, b0, b1, b2, none, b4, none, none]) _
    have nin := dnm_in ns n1
    have nnd := dnm_nd ns n1
    have nln := dnm_len ns n1 4
    generalize dnmP ns n1 4 = nm at nin nnd nln
    have kf := dknP_facts ns (n1 + 4) nm
    clear a5
    have tk : TurnOk nm (dknP ns nm (n1 + 4)).1 pt := ⟨kf.1, nnd, nin, kf.2.1, tm1, dr1⟩
    refine sx_cons (s_setO (Sa := fr ns p (dknP ns nm (n1 + 4)).2 [some (.dat (.int (i : Nat))), some (.dat pt.enc), some (.dat (nmD nm)), a6, a7, a8, a9, b0, b1, b2, none, b4, none, none]) 5 (evo_dictKL (kvs := bK (dknP ns nm (n1 + 4)).1) hr.hd (Ev.to (LcIs.ev (lc_gen [("_law_name", 12)] (fun i' acc S' => acc = (dknP ns (nm.take i') (n1 + 4)).1.map bD ∧ S' = fr ns p (dknP ns (nm.take i') (n1 + 4)).2 [some (.dat (.int (i : Nat))), some (.dat pt.enc), some (.dat (nmD nm)), a6, a7, a8, a9, b0, b1, b2, none, b4, none, none]) (blkOk_by (N := nm_law) (sc := defScope st_law) (by decide +kernel))
      (it_tup (ev_name 4)) rfl ⟨rfl, rfl⟩ ?_ (fun acc S' h => h)) nd) ?_ ?_) ?_ ?_ B.dict) nd fun q0 => ?_)
    · rintro i' d acc S' ei ⟨rfl, rfl⟩ hw
      obtain ⟨x, x1, x2, rfl⟩ := by_at ei
      have k2 := dknP_facts ns (n1 + 4) (nm.take i')
      have lt : (nm.take i').length ≤ 4 := by rw [List.length_take]; omega
      have f2 := ddrawn_few ns 2 (dknP ns (nm.take i') (n1 + 4)).2
      have e1 := dknP_app ns (nm.take i') x (n1 + 4)
      rw [← take_one x1] at e1
      refine ⟨[12], fr ns p (dknP ns (nm.take i') (n1 + 4)).2 [some (.dat (.int (i : Nat))), some (.dat pt.enc), some (.dat (nmD nm)), a6, a7, a8, a9, b0, b1, b2, some (.dat (.str x)), b4, none, none], true, fr ns p (dknP ns (nm.take i') (n1 + 4)).2 [some (.dat (.int (i : Nat))), some (.dat pt.enc), some (.dat (nmD nm)), a6, a7, a8, a9, b0, b1, b2, some (.dat (.str x)), b4, none, none], fun j hj => hj, fun Y hY => ?_, fun Y hY => evts_nil, fun h => (by cases h), fun h => ⟨bD (x, (ddrawn ns 2 (dknP ns (nm.take i') (n1 + 4)).2).1), fr ns p (ddrawn ns 2 (dknP ns (nm.take i') (n1 + 4)).2).2 [some (.dat (.int (i : Nat))), some (.dat pt.enc), some (.dat (nmD nm)), a6, a7, a8, a9, b0, b1, b2, some (.dat (.str x)), b4, none, none], fun Y hY => ?_, ?_, ?_, ?_⟩⟩
      · obtain ⟨s, H, C, cl, fp, rfl⟩ := hY
        exact asg_name 12 nd
      · obtain ⟨s, H, C, cl, fp, rfl⟩ := hY
        exact Ev.to (ev_tup (eva_cons (ev_name 12) (eva_cons (Ev.to (ev_callB g_drawn hr (ab_d (ev_name 0) (ab_b 1 (ab_d ev_int ab_nil))) ⟨ns, p, (dknP ns (nm.take i') (n1 + 4)).2, 2, rfl, hz, by omega, by decide, rfl, rfl⟩) rfl rfl) eva_nil))) rfl rfl
      · have := congrArg List.length k2.1
        rw [List.length_map] at this ⊢
        exact Nat.lt_of_le_of_lt (m := 4) (by omega) (by decide)
      · rw [e1, List.map_append]; rfl
      · rw [e1]; rfl
    · rw [List.length_map, List.take_length, bK_pairs]
    · rw [List.length_map, List.take_length]
    · have := congrArg List.length kf.1
      rw [List.length_map] at this ⊢
      exact Nat.le_trans (m := 4) (by omega) (by decide)
    · exact bK_nd (by rw [kf.1]; exact nnd)
    show SX _ _ (fr ns p (dknP ns nm (n1 + 4)).2 [some (.dat (.int (i : Nat))), some (.dat pt.enc), some (.dat (nmD nm)), some (.dK q0 (bK (dknP ns nm (n1 + 4)).1)), a7, a8, a9, b0, b1, b2, none, b4, none, none]) _
    obtain ⟨_, _, kf3, kf4⟩ := kf
    generalize (dknP ns nm (n1 + 4)).1 = σ at tk
    generalize (dknP ns nm (n1 + 4)).2 = n2 at kf3 kf4
    clear a6
    have shd := tk.hd
    have kd : ∀ y ∈ σ, y.2.depth ≤ 20 := fun y hy => Nat.le_trans (tk.tms y hy).2 (by decide)
    have dok : ∀ y ∈ σ, isHd y.1 = true ∧ y.2.Ok ∧ y.2.depth ≤ 20 := fun y hy => ⟨shd _ (by rw [← tk.keys]; exact List.mem_map.mpr ⟨y, hy, rfl⟩), (tk.tms y hy).dok, kd y hy⟩
    have sok : ∀ y ∈ srtB σ, isHd y.1 = true ∧ y.2.Ok ∧ y.2.depth ≤ 20 := fun y hy => dok y (srtB_mem.mp hy)
    have pok := tm1.dok
    have gok : (putF σ pt).Ok := putF_ok (fun y hy => (dok y hy).2.1) pok
    have gdep : (putF σ pt).depth ≤ 6 := by have := putF_depth (n := 2) (fun y hy => (tk.tms y hy).2) pt; have := tm1.2; omega
    have psz : pt.size ≤ 16 := tm1.dsize
    refine sx_cons (s_set 6 (d := bndD (srtB σ)) (Ev.to (ev_ty c_tupL (eva_cons (EvO.freeze (evo_sortedIt hr.units hr.hd (evr_name 5) (by rw [bK_pairs]; exact srt_b σ kd) B.sorted)) eva_nil) B.tuple boot_tTuple) (by rw [bK_pairs, srtD_b]) rfl) nd ?_)
    refine sx_cons (s_set 7 (d := (putF σ pt).enc) (Ev.to (ev_callB (as' := [.dat pt.enc, .dK q0 (bK σ)]) g_putin hr (ab_d (ev_name 3) (ab_b 5 ab_nil)) ⟨pt, q0, σ, rfl, Nat.le_trans tm1.2 (by decide), rfl, rfl⟩) rfl rfl) nd ?_)
    show SX _ _ (fr ns p n2 [some (.dat (.int (i : Nat))), some (.dat pt.enc), some (.dat (nmD nm)), some (.dK q0 (bK σ)), some (.dat (bndD (srtB σ))), some (.dat (putF σ pt).enc), a9, b0, b1, b2, none, b4, none, none]) _
    clear a7 a8
    have pd8 : pt.depth ≤ 8 := Nat.le_trans tm1.2 (by decide)
    have gd8 : (putF σ pt).depth ≤ 8 := Nat.le_trans gdep (by decide)
    refine sx_cons (s_if (t := false) (evw_or (c1 := false) (c2 := false) (EvT.to (evt_cmp (Ev.to (d' := (putF σ pt).enc) (ev_call g_putall hr (eva_cons (ev_name 3) (eva_cons (ev_name 6) eva_nil)) ⟨pt, srtB σ, rfl, pok, pd8, fun y hy => (sok y hy).1, rfl⟩) (by rw [srtB_put tk.nds]) rfl) (ev_name 7) (o_neT hr.units gok gok gd8 gd8)) (by rw [decide_eq_true rfl]; rfl)) (fun _ => evw_or1 (EvT.to (evt_cmp (Ev.to (d' := pt.enc) (ev_call g_putall hr (eva_cons (ev_name 3) (eva_cons (ev_tup eva_nil) eva_nil)) ⟨pt, [], rfl, pok, pd8, fun y hy => (by cases hy), rfl⟩) (by rw [putF_nil]) rfl) (ev_name 3) (o_neT hr.units pok pok pd8 pd8)) (by rw [decide_eq_true rfl]; rfl)))).t (fun h => by cases h) (fun _ => sx_nil ?_))
    refine sx_cons (s_ifS (t := false) (EvT.to (evw_and (c1 := decide (((((srtB σ).map bD).length : Nat) : Int) = 1)) (c2 := false) (evt_cmp (ev_bi c_lenT (eva_cons (ev_name 6) eva_nil) B.len PySem.boot_len) ev_int o_eqI) (fun h1 => evw_and1 (c := false) ?_)).t (Bool.and_false _)) (fun h => by cases h) (fun _ => sx_nil ?_))
    · obtain ⟨y, ey⟩ : ∃ y, srtB σ = [y] := by
        have h2 := of_decide_eq_true h1
        rw [List.length_map] at h2
        exact List.length_eq_one_iff.mp (by omega)
      have hy := sok y (by rw [ey]; exact List.mem_singleton.mpr rfl)
      have e1 : putF σ pt = pt.put y.1 y.2 := by rw [← srtB_put tk.nds, ey, ← putF_one]
      have at0 : atI ((srtB σ).map bD) 0 = some (bD y) := by rw [ey]; rfl
      have pOk : (pt.put y.1 y.2).Ok := by rw [← e1]; exact gok
      exact EvT.to (evt_cmp (ev_call g_put hr (eva_cons (ev_name 3) (eva_cons (ev_ix (ev_ix (ev_name 6) ev_int (ix_t at0)) ev_int (ix_t rfl)) (eva_cons (ev_ix (ev_ix (ev_name 6) ev_int (ix_t at0)) ev_int (ix_t rfl)) eva_nil))) ⟨pt, y.1, y.2, rfl, pok, hy.1, pd8, rfl⟩) (ev_name 7) (o_neT hr.units pOk gok (by rw [← e1]; exact gd8) gd8)) (by rw [e1, decide_eq_true rfl]; rfl)
    have hhd : ∀ x ∈ hds pt, isHd x = true := hds_hd pok
    have hsz : pt.size ≤ 1000 := by omega
    refine sx_cons (s_set 8 (d := bndD (dueB σ pt)) (Ev.to (ev_ty c_tupL (eva_cons (LcIs.ev (LcIs.to (lc_fil1 14 (fun _ d => d) (fun i' _ => (((srtB σ)[i']?).map fun y => decide (y.1 ∈ hds pt)).getD false) (it_tup (ev_name 6)) (blkOk_by (N := nm_law) (sc := defScope st_law) (by decide +kernel)) rfl ?_ ?_ ?_ nd) (fil_by bD (fun y => decide (y.1 ∈ hds pt)) (srtB σ))) nd) eva_nil) B.tuple boot_tTuple) rfl rfl) nd ?_)
    · intro i' d e s H C cl fp
      obtain ⟨y, y1, y2, rfl⟩ := by_at e
      rw [y1]
      exact evts_one (EvT.to (evt_cmp (ev_ix (ev_name 14) ev_int (ix_t rfl)) (ev_call g_headsof hr (eva_cons (ev_name 3) eva_nil) ⟨pt, rfl, pd8, hsz, rfl⟩) (o_inL hun (str_shaped (sok y y2).1) (strs_shaped hhd).2)) (any_str _ _))
    · intro i' d e h s H C cl fp
      exact ev_name 14
    · rw [List.length_map, srtB_len]
      have := congrArg List.length tk.keys
      rw [List.length_map] at this
      exact Nat.le_trans (m := 4) (by omega) (by decide)
    have dOk : ∀ y ∈ dueB σ pt, isHd y.1 = true ∧ y.2.Ok ∧ y.2.depth ≤ 20 := fun y hy => sok y (List.mem_filter.mp hy).1
    have dsh := bDs_shaped dOk
    have esh : SeqAt.shaped (.tuple []) = true := rfl
    refine sx_cons (s_if (t := false) (evw_or (c1 := false) (c2 := false) (EvT.to (evt_cmp (EvO.freezeP (evo_matchS g_matched hr (ev_name 3) (ev_name 4) (ev_name 7) pok pd8 hsz gok gd8 shd tk.due)) (ev_name 8) (o_ne hr.units dsh dsh)) (by rw [bnd_eqv, decide_eq_true rfl]; rfl)) (fun _ => evw_or1 (EvT.to (evt_cmp (EvO.freezeP (evo_matchS (nm := []) g_matched hr (ev_name 3) (ev_tup eva_nil) (ev_name 3) pok pd8 hsz pok pd8 (fun x hx => by cases hx) (mres_nil pt))) (ev_tup eva_nil) (o_ne hr.units esh esh)) rfl))).t (fun h => by cases h) (fun _ => sx_nil ?_))
    refine sx_cons (s_set 9 (Ev.to (ev_callB g_drawn hr (ab_d (ev_name 0) (ab_b 1 (ab_d ev_int ab_nil))) ⟨ns, p, n2, 3, rfl, hz, by omega, by decide, rfl, rfl⟩) rfl rfl) nd ?_)
    show SX _ _ (fr ns p (ddrawn ns 3 n2).2 [some (.dat (.int (i : Nat))), some (.dat pt.enc), some (.dat (nmD nm)), some (.dK q0 (bK σ)), some (.dat (bndD (srtB σ))), some (.dat (putF σ pt).enc), some (.dat (bndD (dueB σ pt))), some (.dat (ddrawn ns 3 n2).1.enc), b1, b2, none, b4, none, none]) _
    have f3 := ddrawn_few ns 3 n2
    have tm3 := ddrawn_tm ns 3 n2
    generalize (ddrawn ns 3 n2).1 = ot at tm3
    generalize hn3 : (ddrawn ns 3 n2).2 = n3 at f3
    clear a9 b0
    have oo := tm3.dok
    have od8 : ot.depth ≤ 8 := Nat.le_trans tm3.2 (by decide)
    refine sx_cut (fun S' => (mres nm pt ot = none ∧ S' = fr ns p n3 [some (.dat (.int (i : Nat))), some (.dat pt.enc), some (.dat (nmD nm)), some (.dK q0 (bK σ)), some (.dat (bndD (srtB σ))), some (.dat (putF σ pt).enc), some (.dat (bndD (dueB σ pt))), some (.dat ot.enc), some (.dat .none), b2, none, b4, none, none]) ∨ ∃ q1 l, mres nm pt ot = some l ∧ S' = fr ns p n3 [some (.dat (.int (i : Nat))), some (.dat pt.enc), some (.dat (nmD nm)), some (.dK q0 (bK σ)), some (.dat (bndD (srtB σ))), some (.dat (putF σ pt).enc), some (.dat (bndD (dueB σ pt))), some (.dat ot.enc), some (.ptp q1 ((bK l).map kvDK)), b2, none, b4, none, none]) ?_ ?_
    · cases e : mres nm pt ot with
      | none => exact s_set 10 (ev_matchN g_matched hr (ev_name 3) (ev_name 4) (ev_name 9) pok pd8 hsz oo od8 shd e) nd (.inl ⟨rfl, rfl⟩)
      | some l => exact s_setO 10 (evo_matchS g_matched hr (ev_name 3) (ev_name 4) (ev_name 9) pok pd8 hsz oo od8 shd e) nd fun q1 => .inr ⟨q1, l, rfl, by rw [bK_pairs]; rfl⟩
    clear b1
    intro S' hS'
    refine sx_cut (fun S' => S' = fr ns p n3 [some (.dat (.int (i : Nat))), some (.dat pt.enc), some (.dat (nmD nm)), some (.dK q0 (bK σ)), some (.dat (bndD (srtB σ))), some (.dat (putF σ pt).enc), some (.dat (bndD (dueB σ pt))), some (.dat ot.enc), some (.dat (optB (mres nm pt ot))), b2, none, b4, none, none]) ?_ ?_
    · rcases hS' with ⟨e, rfl⟩ | ⟨q1, l, e, rfl⟩
      · exact s_if (t := false) (evw_and (c1 := false) (c2 := false) (EvT.to (evt_cmp (ev_name 10) ev_none o_notN) rfl) (fun h => by cases h)).t (fun h => by cases h) (fun _ => sx_nil (by rw [e]; rfl))
      · obtain ⟨m1, m2, m3, m4⟩ := mres_put e
        have ll := mres_len e
        refine s_if (t := false) (evw_and (c1 := true) (c2 := false) (evt_ptpSome (evr_name 10)) (fun _ => evw_and1 (EvT.to (evt_cmp (ev_callS (mk := fun p => .dK p (bK l)) (d := (putF l pt).enc) g_putin hr (ev_name 3) (evo_dictKP hr.hd (evr_name 10) ?_ (bK_nd m3) B.dict) fun p => ⟨pt, p, l, rfl, pd8, rfl⟩) (ev_name 9) (o_neT hr.units (by rw [m1]; exact oo) oo (by rw [m1]; exact od8) od8)) (by rw [m1, decide_eq_true rfl]; rfl)))).t (fun h => by cases h) (fun _ => sx_freezeP 10 rfl (sx_nil ?_))
        · rw [List.length_map]; exact Nat.le_trans (m := 16) (by omega) (by decide)
        · rw [e, bK_pairs]; rfl
    rintro S' rfl
    clear hS'
    refine sx_cons (s_ifS (t := false) (EvT.to (evw_and (c1 := (mres nm pt ot).isSome) (c2 := false) ?_ (fun h1 => evw_and1 (c := false) ?_)).t (Bool.and_false _)) (fun h => by cases h) (fun _ => sx_nil ?_))
    · exact EvT.to (evt_cmp (ev_name 10) ev_none o_notN) (by cases mres nm pt ot <;> rfl)
    · obtain ⟨l, e⟩ := Option.isSome_iff_exists.mp h1
      have kn := tk.names e
      have ll := mres_len e
      have lhd : ∀ x ∈ (dueB σ pt).map (·.1), isHd x = true := fun x hx => by
        obtain ⟨y, hy, rfl⟩ := List.mem_map.mp hx
        exact (dOk y hy).1
      have sh1 := (strs_shaped lhd).2
      have e10 : optB (mres nm pt ot) = .tuple (l.map bD) := by rw [e]; rfl
      refine EvT.to (evt_cmp (d1 := .list (((dueB σ pt).map (·.1)).map .str)) (LcIs.ev (LcIs.to (lc_map2 12 15 (fun i' _ => ((l[i']?).map fun y => PyData.str y.1).getD .none) (it_tup (ds := l.map bD) (Ev.to (ev_name 10) e10 rfl)) (blkOk_by (N := nm_law) (sc := defScope st_law) (by decide +kernel)) rfl rfl (by decide) ?_ ?_ ?_ nd) ?_) nd) (Ev.to (LcIs.ev (lc_mapE 14 bD (fun y => .str y.1) (bs := dueB σ pt) (it_tup (ev_name 8)) (blkOk_by (N := nm_law) (sc := defScope st_law) (by decide +kernel)) rfl ?_ ?_ nd) nd) (d' := .list (((dueB σ pt).map (·.1)).map .str)) (by rw [List.map_map]; rfl) rfl) (o_ne hr.units sh1 sh1)) ?_
      · intro d hd
        obtain ⟨y, _, rfl⟩ := List.mem_map.mp hd
        exact ⟨_, _, rfl⟩
      · intro i' a b ei s H C cl fp
        obtain ⟨y, y1, y2, ey⟩ := by_at ei
        injection ey with ey
        simp only [List.cons.injEq, and_true] at ey
        obtain ⟨rfl, rfl⟩ := ey
        rw [y1]
        exact ev_name 12
      · rw [List.length_map]; exact Nat.le_trans (m := 16) (by omega) (by decide)
      · rw [mapIdx_by bD (fun y => PyData.str y.1) l, ← kn, List.map_map]; rfl
      · intro y hy s H C cl fp
        exact ev_ix (ev_name 14) ev_int (ix_t rfl)
      · have := congrArg List.length kn
        rw [List.length_map, List.length_map] at this
        exact Nat.le_trans (m := 16) (by omega) (by decide)
      · have pl : plainD (.list (((dueB σ pt).map (·.1)).map .str)) = true := by rw [plainD]; exact strs_plain _
        rw [(eqv_iff _ _ pl pl).mpr rfl]; rfl
    refine sx_cons (s_set 11 (ev_lst eva_nil) nd ?_)
    refine sx_cut (fun S' => ∃ a, S' = fr ns p n3 [some (.dat (.int (i : Nat))), some (.dat pt.enc), some (.dat (nmD nm)), some (.dK q0 (bK σ)), some (.dat (bndD (srtB σ))), some (.dat (putF σ pt).enc), some (.dat (bndD (dueB σ pt))), some (.dat ot.enc), some (.dat (optB (mres nm pt ot))), some (.dat (.list ((nm.filter fun x => decide (x ∈ hds pt)).map .str))), a, b4, none, none])
      (s_for [12] (fun i' S' => ∃ a, S' = fr ns p n3 [some (.dat (.int (i : Nat))), some (.dat pt.enc), some (.dat (nmD nm)), some (.dK q0 (bK σ)), some (.dat (bndD (srtB σ))), some (.dat (putF σ pt).enc), some (.dat (bndD (dueB σ pt))), some (.dat ot.enc), some (.dat (optB (mres nm pt ot))), some (.dat (.list (((nm.take i').filter fun x => decide (x ∈ hds pt)).map .str))), a, b4, none, none]) (it_tup (ev_name 4)) ⟨none, rfl⟩ ?_ ?_) ?_
    · rintro i' d S' ei ⟨a, rfl⟩
      obtain ⟨x, x1, x2, rfl⟩ := by_at ei
      refine ⟨_, asg_name 12 nd, ?_⟩
      refine sx_one (s_set 11 (d := .list (((nm.take (i' + 1)).filter fun x => decide (x ∈ hds pt)).map .str)) (Ev.to (ev_bin (ev_name 11) (ev_bin (ev_lst (eva_cons (ev_name 12) eva_nil)) (Ev.to (d' := .int (if decide (x ∈ hds pt) then 1 else 0)) (ev_ty c_intB (eva_cons (Ev.to (d' := .bool (decide (x ∈ hds pt))) (ev_cmp (ev_name 12) (ev_call g_headsof hr (eva_cons (ev_name 3) eva_nil) ⟨pt, rfl, pd8, hsz, rfl⟩) (o_inL hun (str_shaped (shd x x2)) (strs_shaped hhd).2)) (by rw [any_str]) rfl) eva_nil) B.int boot_tInt) rfl rfl) o_rep1) (o_catL ?_)) ?_ rfl) nd ⟨_, rfl⟩)
      · have h1 := List.length_filter_le (fun x => decide (x ∈ hds pt)) (nm.take i')
        rw [List.length_take] at h1
        rw [List.length_map]
        split
        · exact Nat.le_trans (m := 5) (by simp only [List.length_cons, List.length_nil]; omega) (by decide)
        · exact Nat.le_trans (m := 4) (by simp only [List.length_nil]; omega) (by decide)
      · rw [take_one x1, List.filter_append, List.map_append]
        by_cases h : x ∈ hds pt <;> simp [h]
    · rintro S' ⟨a, rfl⟩
      exact ⟨a, by rw [List.length_map, List.take_length]⟩
    rintro S' ⟨a12, rfl⟩
    have ssh : SeqAt.shaped (.list ((nm.filter fun x => decide (x ∈ hds pt)).map PyData.str)) = true := (strs_shaped fun x hx => shd x (List.mem_filter.mp hx).1).2
    refine sx_cons (s_ifS (t := false) (EvT.to (evw_and (c1 := (mres nm pt ot).isNone) (c2 := false) (EvT.to (evt_cmp (ev_name 10) ev_none o_isN) ?_) (fun h1 => ?_)).t (Bool.and_false _)) (fun h => by cases h) (fun _ => sx_nil ?_))
    · cases mres nm pt ot <;> rfl
    · have h1 : mres nm pt ot = none := Option.isNone_iff_eq_none.mp h1
      have e2 : PyData.eqv (.list ((nm.filter fun x => decide (x ∈ hds pt)).map PyData.str)) (.list []) = decide ((nm.filter fun x => decide (x ∈ hds pt)) = []) := by
        have pl : plainD (.list ((nm.filter fun x => decide (x ∈ hds pt)).map PyData.str)) = true := by rw [plainD]; exact strs_plain _
        rw [Bool.eq_iff_iff, eqv_iff _ _ pl rfl, decide_eq_true_iff]
        generalize (nm.filter fun x => decide (x ∈ hds pt)) = ss
        cases ss <;> simp
      have lsh : SeqAt.shaped (.list []) = true := rfl
      exact EvW.to (evw_and (c1 := decide ((nm.filter fun x => decide (x ∈ hds pt)) = [])) (c2 := false) (EvT.to (evt_cmp (ev_name 11) (ev_lst eva_nil) (o_eq hr.units ssh lsh)) e2) (fun h2 => evw_and1 (EvT.to (evt_cmp (ev_name 3) (ev_name 9) (o_eqT hr.units pok oo pd8 od8)) (decide_eq_false (tk.none h1 (of_decide_eq_true h2)))))) (Bool.and_false _)
    have hh : isHd (Str.ofString "h") = true := by decide +kernel
    have hf : isHd (Str.ofString "f") = true := by decide +kernel
    have hg : isHd (Str.ofString "g") = true := by decide +kernel
    have gsz : (putF σ pt).size ≤ 64 := by
      have h1 := size_depth (putF σ pt)
      have h2 : 2 ^ (putF σ pt).depth ≤ 2 ^ 6 := Nat.pow_le_pow_right (by decide) gdep
      omega
    have d1 : (T.t2 (Str.ofString "h") pt (putF σ pt)).depth ≤ 8 := by have := tm1.2; simp only [T.depth]; omega
    have s1 : (T.t2 (Str.ofString "h") pt (putF σ pt)).size ≤ 1000 := by simp only [T.size]; omega
    have d2 : (T.t1 (Str.ofString "f") (putF σ pt)).depth ≤ 8 := by simp only [T.depth]; omega
    refine sx_cons (s_if (t := false) (EvT.to (evt_cmp (ev_matchN (p := .t2 (Str.ofString "h") pt (putF σ pt)) (t := .t1 (Str.ofString "f") (putF σ pt)) g_matched hr (ev_tup (eva_cons ev_str (eva_cons (ev_name 3) (eva_cons (ev_name 7) eva_nil)))) (ev_name 4) (ev_tup (eva_cons ev_str (eva_cons (ev_name 7) eva_nil))) ⟨hh, pok, gok⟩ d1 s1 ⟨hf, gok⟩ d2 shd (mres_hf nm pt _ _ _)) ev_none o_notN) rfl) (fun h => by cases h) (fun _ => sx_nil ?_))
    refine sx_cons (s_set 13 (d := (T.t2 (Str.ofString "h") (putF σ pt) (.t1 (Str.ofString "g") (putF σ pt))).enc) (ev_tup (eva_cons ev_str (eva_cons (ev_name 7) (eva_cons (ev_tup (eva_cons ev_str (eva_cons (ev_name 7) eva_nil))) eva_nil)))) nd ?_)
    have d3 : (T.t2 (Str.ofString "h") pt pt).depth ≤ 8 := by have := tm1.2; simp only [T.depth]; omega
    have s3 : (T.t2 (Str.ofString "h") pt pt).size ≤ 1000 := by simp only [T.size]; omega
    have d4 : (T.t2 (Str.ofString "h") (putF σ pt) (.t1 (Str.ofString "g") (putF σ pt))).depth ≤ 8 := by simp only [T.depth]; omega
    refine sx_one (s_ifS (t := false) (EvT.to (evw_and (c1 := !PyData.eqv (bndD (dueB σ pt)) (.tuple [])) (c2 := false) (evt_cmp (ev_name 8) (ev_tup eva_nil) (o_ne hr.units dsh esh)) (fun _ => evw_and1 (EvT.to (evt_cmp (ev_matchN (p := .t2 (Str.ofString "h") pt pt) (t := .t2 (Str.ofString "h") (putF σ pt) (.t1 (Str.ofString "g") (putF σ pt))) g_matched hr (ev_tup (eva_cons ev_str (eva_cons (ev_name 3) (eva_cons (ev_name 3) eva_nil)))) (ev_name 4) (ev_name 13) ⟨hh, pok, pok⟩ d3 s3 ⟨hh, gok, hg, gok⟩ d4 shd (mres_spoilt nm pt _ _ _)) ev_none o_notN) rfl))).t (Bool.and_false _)) (fun h => by cases h) (fun _ => sx_nil ?_))
    exact ⟨n3, _, _, _, _, _, _, _, _, _, _, _, _, _, _, rfl, by omega⟩
  · rintro S' ⟨n, a3, a4, a5, a6, a7, a8, a9, b0, b1, b2, b3, b4, b5, b6, rfl, _⟩
    exact ⟨n, _, rfl, rfl⟩
  rintro S' ⟨n, r, rfl, hr14⟩
  have ha : isHd (Str.ofString "a") = true := by decide +kernel
  have hb : isHd (Str.ofString "b") = true := by decide +kernel
  have hc' : isHd (Str.ofString "c") = true := by decide +kernel
  have hh : isHd (Str.ofString "h") = true := by decide +kernel
  have e0 : mres [Str.ofString "a"] (.t2 (Str.ofString "h") (.t0 (Str.ofString "a")) (.t0 (Str.ofString "a"))) (.t2 (Str.ofString "h") (.t0 (Str.ofString "b")) (.t0 (Str.ofString "c"))) = none := by
    have : (matchT [Str.ofString "a"] (.t2 (Str.ofString "h") (.t0 (Str.ofString "a")) (.t0 (Str.ofString "a"))) (.t2 (Str.ofString "h") (.t0 (Str.ofString "b")) (.t0 (Str.ofString "c"))) []).1 = false := by decide +kernel
    unfold mres
    rw [this]; rfl
  refine sx_one (s_ret (ev_cmp (ev_matchN (p := .t2 (Str.ofString "h") (.t0 (Str.ofString "a")) (.t0 (Str.ofString "a"))) (nm := [Str.ofString "a"]) (t := .t2 (Str.ofString "h") (.t0 (Str.ofString "b")) (.t0 (Str.ofString "c"))) g_matched hr (ev_tup (eva_cons ev_str (eva_cons (ev_tup (eva_cons ev_str eva_nil)) (eva_cons (ev_tup (eva_cons ev_str eva_nil)) eva_nil)))) (Ev.to (ev_tup (eva_cons ev_str eva_nil)) rfl rfl) (ev_tup (eva_cons ev_str (eva_cons (ev_tup (eva_cons ev_str eva_nil)) (eva_cons (ev_tup (eva_cons ev_str eva_nil)) eva_nil)))) ⟨hh, ha, ha⟩ (by decide +kernel) (by decide +kernel) ⟨hh, hb, hc'⟩ (by decide +kernel) (fun x hx => by rw [List.mem_singleton.mp hx]; exact ha) e0) ev_none o_isN) ⟨_, back_data (ds := [_]), q⟩)
end

theorem all_mk {l : PySem.W.OpenLaw} {w : World} {K : PySem.W.Frag} {h : Heap} {mg : Str → Option Value} {fa : Addr} (X : K.In h) (G : h.Ns mainGlobals mg) (hfa : mg "law" = some (.ref fa))
    {od_put an_put : Option Addr} {sl_put : Array (Option Value)} {oc_put kV_put dc_put pm_put cd_put cv_put : Value} {f_put : Addr}
    {od_put_all an_put_all : Option Addr} {sl_put_all : Array (Option Value)} {oc_put_all kV_put_all dc_put_all pm_put_all cd_put_all cv_put_all : Value} {f_put_all : Addr}
    {od_match_on an_match_on : Option Addr} {sl_match_on : Array (Option Value)} {oc_match_on kV_match_on dc_match_on pm_match_on cd_match_on cv_match_on : Value} {f_match_on : Addr}
    {od_matched an_matched : Option Addr} {sl_matched : Array (Option Value)} {oc_matched kV_matched dc_matched pm_matched cd_matched cv_matched : Value} {f_matched : Addr}
    {od_draw an_draw : Option Addr} {sl_draw : Array (Option Value)} {oc_draw kV_draw dc_draw pm_draw cd_draw cv_draw : Value} {f_draw : Addr}
    {od_drawn an_drawn : Option Addr} {sl_drawn : Array (Option Value)} {oc_drawn kV_drawn dc_drawn pm_drawn cd_drawn cv_drawn : Value} {f_drawn : Addr}
    {od_heads_of an_heads_of : Option Addr} {sl_heads_of : Array (Option Value)} {oc_heads_of kV_heads_of dc_heads_of pm_heads_of cd_heads_of cv_heads_of : Value} {f_heads_of : Addr}
    {od_put_in an_put_in : Option Addr} {sl_put_in : Array (Option Value)} {oc_put_in kV_put_in dc_put_in pm_put_in cd_put_in cv_put_in : Value} {f_put_in : Addr}
    {od_law an_law : Option Addr} {sl_law : Array (Option Value)} {oc_law kV_law dc_law pm_law cd_law cv_law : Value} {f_law : Addr}
    (a_put : PySem.W.nsIn K mainGlobals "put" = some (some (.ref f_put))) (l_put : K.lookup f_put = some ⟨oc_put, od_put, .func (PySem.W.fnOf "put" "put" (defArgs st_put) (defBody st_put) (defScope st_put) .none kV_put dc_put pm_put an_put cd_put cv_put), sl_put⟩) (c_put : PySem.W.codeIn K cd_put "put" = true) (k_put : PySem.W.keepIn K (.ref f_put) = true)
    (a_put_all : PySem.W.nsIn K mainGlobals "put_all" = some (some (.ref f_put_all))) (l_put_all : K.lookup f_put_all = some ⟨oc_put_all, od_put_all, .func (PySem.W.fnOf "put_all" "put_all" (defArgs st_put_all) (defBody st_put_all) (defScope st_put_all) .none kV_put_all dc_put_all pm_put_all an_put_all cd_put_all cv_put_all), sl_put_all⟩) (c_put_all : PySem.W.codeIn K cd_put_all "put_all" = true) (k_put_all : PySem.W.keepIn K (.ref f_put_all) = true)
    (a_match_on : PySem.W.nsIn K mainGlobals "match_on" = some (some (.ref f_match_on))) (l_match_on : K.lookup f_match_on = some ⟨oc_match_on, od_match_on, .func (PySem.W.fnOf "match_on" "match_on" (defArgs st_match_on) (defBody st_match_on) (defScope st_match_on) .none kV_match_on dc_match_on pm_match_on an_match_on cd_match_on cv_match_on), sl_match_on⟩) (c_match_on : PySem.W.codeIn K cd_match_on "match_on" = true) (k_match_on : PySem.W.keepIn K (.ref f_match_on) = true)
    (a_matched : PySem.W.nsIn K mainGlobals "matched" = some (some (.ref f_matched))) (l_matched : K.lookup f_matched = some ⟨oc_matched, od_matched, .func (PySem.W.fnOf "matched" "matched" (defArgs st_matched) (defBody st_matched) (defScope st_matched) .none kV_matched dc_matched pm_matched an_matched cd_matched cv_matched), sl_matched⟩) (c_matched : PySem.W.codeIn K cd_matched "matched" = true) (k_matched : PySem.W.keepIn K (.ref f_matched) = true)
    (a_draw : PySem.W.nsIn K mainGlobals "_law_draw" = some (some (.ref f_draw))) (l_draw : K.lookup f_draw = some ⟨oc_draw, od_draw, .func (PySem.W.fnOf "_law_draw" "_law_draw" (defArgs st_draw) (defBody st_draw) (defScope st_draw) .none kV_draw dc_draw pm_draw an_draw cd_draw cv_draw), sl_draw⟩) (c_draw : PySem.W.codeIn K cd_draw "_law_draw" = true) (k_draw : PySem.W.keepIn K (.ref f_draw) = true)
    (a_drawn : PySem.W.nsIn K mainGlobals "_law_drawn" = some (some (.ref f_drawn))) (l_drawn : K.lookup f_drawn = some ⟨oc_drawn, od_drawn, .func (PySem.W.fnOf "_law_drawn" "_law_drawn" (defArgs st_drawn) (defBody st_drawn) (defScope st_drawn) .none kV_drawn dc_drawn pm_drawn an_drawn cd_drawn cv_drawn), sl_drawn⟩) (c_drawn : PySem.W.codeIn K cd_drawn "_law_drawn" = true) (k_drawn : PySem.W.keepIn K (.ref f_drawn) = true)
    (a_heads_of : PySem.W.nsIn K mainGlobals "_law_heads_of" = some (some (.ref f_heads_of))) (l_heads_of : K.lookup f_heads_of = some ⟨oc_heads_of, od_heads_of, .func (PySem.W.fnOf "_law_heads_of" "_law_heads_of" (defArgs st_heads_of) (defBody st_heads_of) (defScope st_heads_of) .none kV_heads_of dc_heads_of pm_heads_of an_heads_of cd_heads_of cv_heads_of), sl_heads_of⟩) (c_heads_of : PySem.W.codeIn K cd_heads_of "_law_heads_of" = true) (k_heads_of : PySem.W.keepIn K (.ref f_heads_of) = true)
    (a_put_in : PySem.W.nsIn K mainGlobals "_law_put_in" = some (some (.ref f_put_in))) (l_put_in : K.lookup f_put_in = some ⟨oc_put_in, od_put_in, .func (PySem.W.fnOf "_law_put_in" "_law_put_in" (defArgs st_put_in) (defBody st_put_in) (defScope st_put_in) .none kV_put_in dc_put_in pm_put_in an_put_in cd_put_in cv_put_in), sl_put_in⟩) (c_put_in : PySem.W.codeIn K cd_put_in "_law_put_in" = true) (k_put_in : PySem.W.keepIn K (.ref f_put_in) = true)
    (a_law : PySem.W.nsIn K mainGlobals "law" = some (some (.ref f_law))) (l_law : K.lookup f_law = some ⟨oc_law, od_law, .func (PySem.W.fnOf "law" "law" (defArgs st_law) (defBody st_law) (defScope st_law) .none kV_law dc_law pm_law an_law cd_law cv_law), sl_law⟩) (c_law : PySem.W.codeIn K cd_law "law" = true) (k_law : PySem.W.keepIn K (.ref f_law) = true)
    (z_len : PySem.W.nsIn K mainGlobals "len" = some none) (z_isinstance : PySem.W.nsIn K mainGlobals "isinstance" = some none) (z_str : PySem.W.nsIn K mainGlobals "str" = some none) (z_tuple : PySem.W.nsIn K mainGlobals "tuple" = some none) (z_list : PySem.W.nsIn K mainGlobals "list" = some none) (z_all : PySem.W.nsIn K mainGlobals "all" = some none) (z_any : PySem.W.nsIn K mainGlobals "any" = some none) (z_range : PySem.W.nsIn K mainGlobals "range" = some none) (z_sum : PySem.W.nsIn K mainGlobals "sum" = some none) (z_sorted : PySem.W.nsIn K mainGlobals "sorted" = some none) (z_set : PySem.W.nsIn K mainGlobals "set" = some none) (z_zip : PySem.W.nsIn K mainGlobals "zip" = some none) (z_enumerate : PySem.W.nsIn K mainGlobals "enumerate" = some none) (z_int : PySem.W.nsIn K mainGlobals "int" = some none) (z_bool : PySem.W.nsIn K mainGlobals "bool" = some none) (z_dict : PySem.W.nsIn K mainGlobals "dict" = some none) (z_max : PySem.W.nsIn K mainGlobals "max" = some none) (z_min : PySem.W.nsIn K mainGlobals "min" = some none) (z_reversed : PySem.W.nsIn K mainGlobals "reversed" = some none) :
    ∃ fd : FuncData, (∀ (s : Shared) (v : Value), BindsTo s fd ⟨[v], []⟩ [("_law_script", v)]) ∧ ∀ base : Heap, K.In base → base.Ns mainGlobals mg → FnOk l.prog w K mg base CX0 60 fa fd ["_law_script"] (spC l.prog w 1 ct_law) := by
  have e := hfa.symm.trans (PySem.W.mg_of X G a_law)
  cases e
  have F_put := fun_mk (st := st_put) l_put c_put k_put
  have F_put_all := fun_mk (st := st_put_all) l_put_all c_put_all k_put_all
  have F_match_on := fun_mk (st := st_match_on) l_match_on c_match_on k_match_on
  have F_matched := fun_mk (st := st_matched) l_matched c_matched k_matched
  have F_draw := fun_mk (st := st_draw) l_draw c_draw k_draw
  have F_drawn := fun_mk (st := st_drawn) l_drawn c_drawn k_drawn
  have F_heads_of := fun_mk (st := st_heads_of) l_heads_of c_heads_of k_heads_of
  have F_put_in := fun_mk (st := st_put_in) l_put_in c_put_in k_put_in
  have F_law := fun_mk (st := st_law) l_law c_law k_law
  have b_put := F_put.binds (ps := ["term", "name", "other"]) fun _ _ _ _ _ _ us hl => match us, hl with | [_, _, _], _ => rfl
  have m_put := PySem.W.mg_of X G a_put
  have b_put_all := F_put_all.binds (ps := ["term", "pairs"]) fun _ _ _ _ _ _ us hl => match us, hl with | [_, _], _ => rfl
  have m_put_all := PySem.W.mg_of X G a_put_all
  have b_match_on := F_match_on.binds (ps := ["pattern", "names", "term", "found"]) fun _ _ _ _ _ _ us hl => match us, hl with | [_, _, _, _], _ => rfl
  have m_match_on := PySem.W.mg_of X G a_match_on
  have b_matched := F_matched.binds (ps := ["pattern", "names", "term"]) fun _ _ _ _ _ _ us hl => match us, hl with | [_, _, _], _ => rfl
  have m_matched := PySem.W.mg_of X G a_matched
  have b_draw := F_draw.binds (ps := ["_law_script", "_law_town", "_law_many"]) fun _ _ _ _ _ _ us hl => match us, hl with | [_, _, _], _ => rfl
  have m_draw := PySem.W.mg_of X G a_draw
  have b_drawn := F_drawn.binds (ps := ["_law_script", "_law_town", "_law_deep"]) fun _ _ _ _ _ _ us hl => match us, hl with | [_, _, _], _ => rfl
  have m_drawn := PySem.W.mg_of X G a_drawn
  have b_heads_of := F_heads_of.binds (ps := ["_law_term"]) fun _ _ _ _ _ _ us hl => match us, hl with | [_], _ => rfl
  have m_heads_of := PySem.W.mg_of X G a_heads_of
  have b_put_in := F_put_in.binds (ps := ["_law_term", "_law_known"]) fun _ _ _ _ _ _ us hl => match us, hl with | [_, _], _ => rfl
  have m_put_in := PySem.W.mg_of X G a_put_in
  have b_law := F_law.binds (ps := ["_law_script"]) fun _ _ _ _ _ _ us hl => match us, hl with | [_], _ => rfl
  have m_law := PySem.W.mg_of X G a_law
  have B : Bt mg := ⟨PySem.W.mg_none_of X G z_len, PySem.W.mg_none_of X G z_isinstance, PySem.W.mg_none_of X G z_str, PySem.W.mg_none_of X G z_tuple, PySem.W.mg_none_of X G z_list, PySem.W.mg_none_of X G z_all, PySem.W.mg_none_of X G z_any, PySem.W.mg_none_of X G z_range, PySem.W.mg_none_of X G z_sum, PySem.W.mg_none_of X G z_sorted, PySem.W.mg_none_of X G z_set, PySem.W.mg_none_of X G z_zip, PySem.W.mg_none_of X G z_enumerate, PySem.W.mg_none_of X G z_int, PySem.W.mg_none_of X G z_bool, PySem.W.mg_none_of X G z_dict, PySem.W.mg_none_of X G z_max, PySem.W.mg_none_of X G z_min, PySem.W.mg_none_of X G z_reversed⟩
  refine ⟨PySem.W.fnOf "law" "law" (defArgs st_law) (defBody st_law) (defScope st_law) .none kV_law dc_law pm_law an_law cd_law cv_law, fun s v => .of_eq rfl, fun base _ _ => ?_⟩
  have g_draw := fc_mk F_draw (ok_draw (P := l.prog) (w := w) (base := base) F_draw B) b_draw m_draw mo_draw
  have g_drawn := fc_mk F_drawn (ok_drawn F_drawn b_drawn m_drawn g_draw 3) b_drawn m_drawn (mo_drawn 3)
  have g_put := fc_mk F_put (ok_put (P := l.prog) (w := w) (base := base) F_put B b_put m_put 8 (by decide)) b_put m_put (mo_put 8)
  have g_putall := fc_mk F_put_all (ok_put_all (P := l.prog) (w := w) (base := base) F_put_all B b_put_all m_put_all 8 (by decide)) b_put_all m_put_all (mo_putall 8)
  have g_match := fc_mk F_match_on (ok_match_on (P := l.prog) (w := w) (base := base) F_match_on B b_match_on m_match_on 8 (by decide)) b_match_on m_match_on (mo_match 8)
  have g_matched := fc_mk F_matched (ok_matched 8 (by decide) F_matched B g_match) b_matched m_matched (mo_matched 8)
  have g_headsof := fc_mk F_heads_of (ok_heads_of (P := l.prog) (w := w) (base := base) F_heads_of b_heads_of m_heads_of 8) b_heads_of m_heads_of (mo_headsof 8)
  have g_putin := fc_mk F_put_in (ok_put_in (P := l.prog) (w := w) (base := base) F_put_in B b_put_in m_put_in 8) b_put_in m_put_in (mo_putin 8)
  exact ok_law (k := 59) F_law B (g_draw.up (by decide)) (g_drawn.up (by decide)) (g_putin.up (by decide)) (g_headsof.up (by decide)) (g_putall.up (by decide)) (g_put.up (by decide)) (g_matched.up (by decide))
end SH
open PySem PySem.W PyProof.Rows
set_option maxRecDepth 100000 in
set_option maxHeartbeats 0 in
theorem PySem.Challenge.cw_samehall_k21_whole_matches_holds : PySem.Challenge.rw_samehall_k21_whole_matches.Holds := by
  w_on; o_law; k_head; (case hw => w_witness2)
  k_fill
  refine SH.walkC (l := PySem.Challenge.rw_samehall_k21_whole_matches) (k := 60) rfl rfl ⟨rfl, by decide, by decide⟩ (fun w h Y => PySem.W.kIn_of Y) ?NL ?F
  case NL =>
    intro w
    rfl
  case F =>
    intro w mg fa h KX G hmg
    refine' SH.all_mk KX G hmg ?a_put ?l_put ?c_put ?k_put ?a_put_all ?l_put_all ?c_put_all ?k_put_all ?a_match_on ?l_match_on ?c_match_on ?k_match_on ?a_matched ?l_matched ?c_matched ?k_matched ?a_draw ?l_draw ?c_draw ?k_draw ?a_drawn ?l_drawn ?c_drawn ?k_drawn ?a_heads_of ?l_heads_of ?c_heads_of ?k_heads_of ?a_put_in ?l_put_in ?c_put_in ?k_put_in ?a_law ?l_law ?c_law ?k_law ?z_len ?z_isinstance ?z_str ?z_tuple ?z_list ?z_all ?z_any ?z_range ?z_sum ?z_sorted ?z_set ?z_zip ?z_enumerate ?z_int ?z_bool ?z_dict ?z_max ?z_min ?z_reversed
    (case a_put => k_is); (case l_put => k_is); (case c_put => k_is); (case k_put => k_is)
    (case a_put_all => k_is); (case l_put_all => k_is); (case c_put_all => k_is); (case k_put_all => k_is)
    (case a_match_on => k_is); (case l_match_on => k_is); (case c_match_on => k_is); (case k_match_on => k_is)
    (case a_matched => k_is); (case l_matched => k_is); (case c_matched => k_is); (case k_matched => k_is)
    (case a_draw => k_is); (case l_draw => k_is); (case c_draw => k_is); (case k_draw => k_is)
    (case a_drawn => k_is); (case l_drawn => k_is); (case c_drawn => k_is); (case k_drawn => k_is)
    (case a_heads_of => k_is); (case l_heads_of => k_is); (case c_heads_of => k_is); (case k_heads_of => k_is)
    (case a_put_in => k_is); (case l_put_in => k_is); (case c_put_in => k_is); (case k_put_in => k_is)
    (case a_law => k_is); (case l_law => k_is); (case c_law => k_is); (case k_law => k_is)
    (case z_len => k_is); (case z_isinstance => k_is); (case z_str => k_is); (case z_tuple => k_is); (case z_list => k_is); (case z_all => k_is); (case z_any => k_is); (case z_range => k_is); (case z_sum => k_is); (case z_sorted => k_is); (case z_set => k_is); (case z_zip => k_is); (case z_enumerate => k_is); (case z_int => k_is); (case z_bool => k_is); (case z_dict => k_is); (case z_max => k_is); (case z_min => k_is); (case z_reversed => k_is)
