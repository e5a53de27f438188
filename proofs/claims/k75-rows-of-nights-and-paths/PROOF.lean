import PyProof.Rows.All
import Wide.All
import OpenK.AllK
import Wide.FinOn
import HandS.ForMost
import HandS.Exc
import HandS.Defaults
import HandS.HeadHook1
import HandS.HeadHook2
import KE.KStateDown
import HandS.Head0
import HandS.Head1
import HandS.Head2
import HandS.HeadEnd
import PySem.Challenge.RW_allnights_k75_rows_of_nights_and_paths
import KE.KNestM
import HandS.HeadHook3
import HandS.HeadHook4
import HandS.ExcIs
import HandS.TryMany
import HandS.TryOnly
import HandS.Lambda
import KE.KRevSl
import HandS.Style
import HandS.List
import PyProof.ReprRoads
import PyProof.ReprLen
import PyProof.FitsInt
import PyProof.CallFns
import HandS.Conv
import HandS.Iter
import HandS.Comp
import HandS.Dict
import HandS.DictComp
import HandS.Zip
import HandS.IsInst
import HandS.TupMul
import HandS.ExcOwn
import HandS.WordsExc
import HandS.Wide
import HandS.TupLen
import HandS.SortInts
import HandS.Deep
import HandS.TupAny
import HandS.TupLe
import HandS.More
import HandS.SetFor
import HandS.Strs
import HandS.TupSets
import HandS.SortKw
import HandS.Text
import KE.SortKeyHeap
import KE.SortData
import KE.GoesEnum
import KE.GoesMore
import KE.DataMinMax
import HandS.Ends
import HandS.EndBits
import HandS.EndTab
section
set_option Elab.async false
set_option linter.all false
set_option maxRecDepth 100000
/-! Mir0: pure values, a store of what is mutated, and how they lie in HandS's abstract heap. -/
namespace Mir
open PySem PySem.Spec PyProof.Rows L2

inductive D where
  | non | bl (b : Bool) | int (i : Int) | str (x : Str) | tup (xs : List D) | lst (xs : List D) | ref (n : Nat) | scr (ns : List Int)
  deriving Inhabited

inductive Ob where
  | lst (xs : List D) | dic (t : Bool) (kvs : List (D × D))
  deriving Inhabited
abbrev Store := List Ob
abbrev Env := List (Option D)

inductive Out (α : Type) where
  | ok (a : α) (S : Store) | ex (c : Nat) (S : Store) | bad

/-- no reference within -/
def D.nr : D → Bool
  | .tup xs => nrs xs
  | .lst xs => nrs xs
  | .ref _ => false
  | .scr _ => false
  | _ => true
where nrs : List D → Bool
  | [] => true
  | x :: xs => x.nr && nrs xs

/-- where the store's objects lie; what is hidden from all values -/
structure Rho where
  l : List Addr
  h : List Addr
  t : List (Addr × Str)
abbrev Rho.all (ρ : Rho) : List Addr := ρ.l ++ ρ.h
def Rho.push (ρ : Rho) (p : Addr) : Rho := ⟨ρ.l ++ [p], ρ.h, ρ.t⟩
def Rho.hide (ρ : Rho) (p : Addr) : Rho := ⟨ρ.l, p :: ρ.h, ρ.t⟩

/-- a list of the written part -/
def InK (K : PySem.W.Frag) (a : Addr) (xs : List V) : Prop := ∃ (o : Obj) (its : Array Value) (n : Nat), K.lookup a = some o ∧ o.cls = .type "list" ∧ o.dict = none ∧ o.data = .seq its n ∧ its.size ≤ sizeLine ∧ Vals xs its.toList
mutual
def RD (K : PySem.W.Frag) (ρ : Rho) (H : Hp) : D → V → Prop
  | .non, v => v = .non
  | .bl b, v => v = .bl b
  | .int i, v => v = .int i
  | .str x, v => v = .str x
  | .tup ds, v => ∃ a vs, v = .ref a ∧ (H a = some (.tup vs) ∧ a ∉ ρ.all) ∧ RDs K ρ H ds vs
  | .lst ds, v => ∃ a vs, v = .ref a ∧ (H a = some (.lst vs) ∧ a ∉ ρ.all) ∧ RDs K ρ H ds vs
  | .ref n, v => ∃ a, v = .ref a ∧ ρ.l[n]? = some a
  | .scr ns, v => ∃ a, v = .ref a ∧ ((∃ o, H a = some (.frz o (.lst (ns.map V.int))) ∧ a ∉ ρ.all) ∨ InK K a (ns.map V.int))
def RDs (K : PySem.W.Frag) (ρ : Rho) (H : Hp) : List D → List V → Prop
  | [], vs => vs = []
  | d :: ds, vs => ∃ v r, vs = v :: r ∧ RD K ρ H d v ∧ RDs K ρ H ds r
end

/-- keys -/
def keyD : D → Option Key
  | .int i => some (.inl i)
  | .str x => some (.inr x)
  | _ => none
def keyT : D → Option (List Key)
  | .tup ds => ds.mapM keyD
  | _ => none
def RKV {κ : Type} (K : PySem.W.Frag) (ρ : Rho) (H : Hp) (kf : D → Option κ) : List (D × D) → List (κ × V) → Prop :=
  Paired fun p q => kf p.1 = some q.1 ∧ RD K ρ H p.2 q.2
def ROb (K : PySem.W.Frag) (ρ : Rho) (H : Hp) : Ob → HO → Prop
  | .lst ds, o => ∃ vs, o = .lst vs ∧ RDs K ρ H ds vs
  | .dic false kvs, o => ∃ es, o = .dK es ∧ RKV K ρ H keyD kvs es
  | .dic true kvs, o => ∃ es, o = .dT es ∧ RKV K ρ H keyT kvs es

/-- no table of code objects, no code object -/
def NTab (o : HO) : Prop := (∀ ps, o ≠ .tbl ps) ∧ ∀ φ, o ≠ .ext φ
theorem ntab_lst {xs : List V} : NTab (.lst xs) := ⟨fun _ e => (by cases e), fun _ e => (by cases e)⟩
theorem ntab_dK {xs : List (Key × V)} : NTab (.dK xs) := ⟨fun _ e => (by cases e), fun _ e => (by cases e)⟩
theorem ntab_dT {xs : List (List Key × V)} : NTab (.dT xs) := ⟨fun _ e => (by cases e), fun _ e => (by cases e)⟩
theorem ntab_ob {K : PySem.W.Frag} {ρ : Rho} {H : Hp} {o : Ob} {h : HO} (r : ROb K ρ H o h) : NTab h := by
  cases o with
  | lst ds => obtain ⟨vs, rfl, _⟩ := r; exact ntab_lst
  | dic t kvs =>
    cases t with
    | false => obtain ⟨es, rfl, _⟩ := r; exact ntab_dK
    | true => obtain ⟨es, rfl, _⟩ := r; exact ntab_dT
theorem tabs_but {T : List (Addr × Str)} {H H' : Hp} {p : Addr} (t : LamX.Tabs T H) (hp : H p = none ∨ ∃ u, H p = some u ∧ NTab u) (e : ∀ b, b ≠ p → H' b = H b) : LamX.Tabs T H' := fun q hq => by
  obtain ⟨ps, h1, h2, h3⟩ := t q hq
  have ne : ∀ {b : Addr} {u : HO}, H b = some u → ¬ NTab u → b ≠ p := fun {b u} hb nu z => by
    subst z
    rcases hp with hp | ⟨u', hp, hu⟩
    · rw [hb] at hp; cases hp
    · rw [hb] at hp; cases hp; exact nu hu
  have n1 : ∀ qs, ¬ NTab (.tbl qs) := fun qs z => z.1 qs rfl
  have n2 : ∀ φ, ¬ NTab (.ext φ) := fun φ z => z.2 φ rfl
  refine ⟨ps, (e _ (ne h1 (n1 _))).trans h1, h2, fun pos cv hc => ?_⟩
  obtain ⟨c, e1, e2⟩ := h3 pos cv hc
  exact ⟨c, e1, (e _ (ne e2 (n2 _))).trans e2⟩
/-- nothing, or a table of code objects -/
def Bare (H : Hp) (a : Addr) : Prop := ∀ o, H a = some o → ∃ ps, o = .tbl ps
theorem bare_of {H : Hp} {a : Addr} (h : H a = none) : Bare H a := fun o e => by rw [h] at e; cases e
/-- the defs' tables, read off the written part: where they are not among what is written -/
def tabsK (K : PySem.W.Frag) : List (Addr × Str) := K.filterMap fun q => match q.2.data with
  | .func fd => (match fd.code with
    | .ref c => (match K.lookup c with
      | some o => (match o.data with
        | .fields vs => (match vs.getD 11 .none with
          | .ref P => (match K.lookup P with
            | none => some (P, fd.qualname ++ ".<locals>." ++ "<lambda>")
            | some _ => none)
          | _ => none)
        | _ => none)
      | none => none)
    | _ => none)
  | _ => none
structure RelS (K : PySem.W.Frag) (ρ : Rho) (S : Store) (H : Hp) : Prop where
  len : ρ.l.length = S.length
  nd : ρ.l.Nodup
  tab : LamX.Tabs ρ.t H
  told : ρ.t = tabsK K
  hid : ∀ a ∈ ρ.h, a ∉ ρ.l ∧ ∃ o, H a = some o ∧ NTab o
  ob : ∀ (n : Nat) (a : Addr) (o : Ob), ρ.l[n]? = some a → S[n]? = some o → ∃ h, H a = some h ∧ ROb K ρ H o h

def RelE (K : PySem.W.Frag) (ρ : Rho) (H : Hp) (env : Env) (σ : L2.St) : Prop :=
  env.length = σ.length ∧ ∀ (i : Nat) (d : D), env[i]? = some (some d) → ∃ v, σ[i]? = some (some v) ∧ RD K ρ H d v

/-- what may have happened: new mutable objects, all that isn't mutable as it was -/
structure Grow (ρ : Rho) (H : Hp) (ρ' : Rho) (H' : Hp) : Prop where
  pre : ∃ t, ρ'.l = ρ.l ++ t ∧ ∀ a ∈ t, Bare H a
  hid : ∃ xs, ρ'.h = xs ++ ρ.h ∧ ∀ a ∈ xs, Bare H a
  tb : ρ'.t = ρ.t
  fr : ∀ a o, H a = some o → a ∉ ρ.l → (∀ ps, o ≠ .tbl ps) → H' a = some o
  dom : ∀ a o, H a = some o → (∀ ps, o ≠ .tbl ps) → ∃ o', H' a = some o' ∧ ∀ ps, o' ≠ .tbl ps

section
variable {K : PySem.W.Frag} {ρ ρ' ρ'' : Rho} {H H' H'' : Hp}
theorem Grow.refl : Grow ρ H ρ H := ⟨⟨[], by simp, by simp⟩, ⟨[], by simp, by simp⟩, rfl, fun _ _ h _ _ => h, fun _ o h q => ⟨o, h, q⟩⟩
theorem bare_no {a : Addr} {o : HO} (b : Bare H a) (h : H a = some o) (q : ∀ ps, o ≠ .tbl ps) : False := by
  obtain ⟨ps, e⟩ := b o h
  exact q ps e
theorem Grow.notinl (g : Grow ρ H ρ' H') {a : Addr} {o : HO} (h : H a = some o) (q : ∀ ps, o ≠ .tbl ps) (n : a ∉ ρ.l) : a ∉ ρ'.l := by
  obtain ⟨t, e, ht⟩ := g.pre
  rw [e]
  intro z
  rcases List.mem_append.mp z with z | z
  · exact n z
  · exact bare_no (ht a z) h q
theorem Grow.notin (g : Grow ρ H ρ' H') {a : Addr} {o : HO} (h : H a = some o) (q : ∀ ps, o ≠ .tbl ps) (n : a ∉ ρ.all) : a ∉ ρ'.all := by
  have n1 : a ∉ ρ.l ∧ a ∉ ρ.h := by simpa [Rho.all] using n
  intro z
  rcases List.mem_append.mp z with z | z
  · exact g.notinl h q n1.1 z
  · obtain ⟨xs, e, hx⟩ := g.hid
    rw [e] at z
    rcases List.mem_append.mp z with z | z
    · exact bare_no (hx a z) h q
    · exact n1.2 z
theorem Grow.trans (g : Grow ρ H ρ' H') (g' : Grow ρ' H' ρ'' H'') : Grow ρ H ρ'' H'' := by
  have back : ∀ a, Bare H' a → Bare H a := fun a ha o e => by
    cases o with
    | tbl ps => exact ⟨ps, rfl⟩
    | _ =>
      obtain ⟨o', e', q'⟩ := g.dom a _ e (by intro _ z; cases z)
      exact (bare_no ha e' q').elim
  refine ⟨?_, ?_, g'.tb.trans g.tb, fun a o h n q => g'.fr a o (g.fr a o h n q) (g.notinl h q n) q, fun a o h q => ?_⟩
  · obtain ⟨t, e, ht⟩ := g.pre
    obtain ⟨t', e', ht'⟩ := g'.pre
    refine ⟨t ++ t', by rw [e', e, List.append_assoc], fun a ha => ?_⟩
    rcases List.mem_append.mp ha with ha | ha
    · exact ht a ha
    · exact back a (ht' a ha)
  · obtain ⟨t, e, ht⟩ := g.hid
    obtain ⟨t', e', ht'⟩ := g'.hid
    refine ⟨t' ++ t, by rw [e', e, List.append_assoc], fun a ha => ?_⟩
    rcases List.mem_append.mp ha with ha | ha
    · exact back a (ht' a ha)
    · exact ht a ha
  · obtain ⟨o', e, q'⟩ := g.dom a o h q
    exact g'.dom a o' e q'
theorem Grow.ix (g : Grow ρ H ρ' H') {n : Nat} {a : Addr} (h : ρ.l[n]? = some a) : ρ'.l[n]? = some a := by
  obtain ⟨t, e, _⟩ := g.pre
  rw [e, List.getElem?_append_left (List.getElem?_eq_some_iff.mp h).1]; exact h
theorem nl_of {a : Addr} (n : a ∉ ρ.all) : a ∉ ρ.l := fun z => n (List.mem_append_left _ z)
theorem at_grow (g : Grow ρ H ρ' H') {a : Addr} {u : HO} (h : H a = some u ∧ a ∉ ρ.all) (q : ∀ ps, u ≠ .tbl ps := by intro _ z; cases z) : H' a = some u ∧ a ∉ ρ'.all := ⟨g.fr _ _ h.1 (nl_of h.2) q, g.notin h.1 q h.2⟩
mutual
theorem RD.grow (g : Grow ρ H ρ' H') : ∀ {d : D} {v : V}, RD K ρ H d v → RD K ρ' H' d v
  | .non, _, h => h
  | .bl _, _, h => h
  | .int _, _, h => h
  | .str _, _, h => h
  | .tup ds, v, h => by
    unfold RD at h ⊢
    obtain ⟨a, vs, e, h1, h2⟩ := h
    exact ⟨a, vs, e, at_grow g h1, RDs.grow g h2⟩
  | .lst ds, v, h => by
    unfold RD at h ⊢
    obtain ⟨a, vs, e, h1, h2⟩ := h
    exact ⟨a, vs, e, at_grow g h1, RDs.grow g h2⟩
  | .ref n, v, h => by
    unfold RD at h ⊢
    obtain ⟨a, e, h1⟩ := h
    exact ⟨a, e, g.ix h1⟩
  | .scr ns, v, h => by
    unfold RD at h ⊢
    obtain ⟨a, e, h1⟩ := h
    exact ⟨a, e, h1.imp (fun ⟨o, h1⟩ => ⟨o, at_grow g h1⟩) id⟩
theorem RDs.grow (g : Grow ρ H ρ' H') : ∀ {ds : List D} {vs : List V}, RDs K ρ H ds vs → RDs K ρ' H' ds vs
  | [], _, h => h
  | d :: ds, vs, h => by
    unfold RDs at h ⊢
    obtain ⟨v, r, e, h1, h2⟩ := h
    exact ⟨v, r, e, RD.grow g h1, RDs.grow g h2⟩
end
theorem RelE.grow (g : Grow ρ H ρ' H') {env : Env} {σ : L2.St} (h : RelE K ρ H env σ) : RelE K ρ' H' env σ :=
  ⟨h.1, fun i d e => let ⟨v, e', r⟩ := h.2 i d e; ⟨v, e', r.grow g⟩⟩
theorem RKV.grow {κ : Type} {kf : D → Option κ} (g : Grow ρ H ρ' H') {kvs : List (D × D)} {es : List (κ × V)} (h : RKV K ρ H kf kvs es) : RKV K ρ' H' kf kvs es :=
  Paired.mapP h fun _ _ z => ⟨z.1, z.2.grow g⟩
theorem ROb.grow (g : Grow ρ H ρ' H') {o : Ob} {h : HO} (r : ROb K ρ H o h) : ROb K ρ' H' o h := by
  cases o with
  | lst ds => obtain ⟨vs, e, r⟩ := r; exact ⟨vs, e, r.grow g⟩
  | dic t kvs =>
    cases t with
    | false => obtain ⟨es, e, r⟩ := r; exact ⟨es, e, RKV.grow g r⟩
    | true => obtain ⟨es, e, r⟩ := r; exact ⟨es, e, RKV.grow g r⟩

/-! ### simple facts of RD -/
theorem RD.tupT {ds : List D} {v : V} (h : RD K ρ H (.tup ds) v) : ∃ a vs, v = .ref a ∧ SqT K H a vs ∧ RDs K ρ H ds vs := by
  unfold RD at h
  obtain ⟨a, vs, e, h1, h2⟩ := h
  exact ⟨a, vs, e, SqT.of h1.1, h2⟩
theorem RD.lstL {ds : List D} {v : V} (h : RD K ρ H (.lst ds) v) : ∃ a vs, v = .ref a ∧ SqL K H a vs ∧ RDs K ρ H ds vs := by
  unfold RD at h
  obtain ⟨a, vs, e, h1, h2⟩ := h
  exact ⟨a, vs, e, SqL.of h1.1, h2⟩
theorem RD.ofScr {ns : List Int} {v : V} (h : RD K ρ H (.scr ns) v) : ∃ a, v = .ref a ∧ SqL K H a (ns.map V.int) := by
  unfold RD at h
  obtain ⟨a, e, h⟩ := h
  exact ⟨a, e, h.imp (fun ⟨o, h, _⟩ => .inr ⟨o, h⟩) id⟩
theorem RD.ofInt {i : Int} {v : V} (h : RD K ρ H (.int i) v) : v = .int i := by unfold RD at h; exact h
theorem RD.ofBl {i : Bool} {v : V} (h : RD K ρ H (.bl i) v) : v = .bl i := by unfold RD at h; exact h
theorem RD.ofStr {i : Str} {v : V} (h : RD K ρ H (.str i) v) : v = .str i := by unfold RD at h; exact h
theorem RD.ofNon {v : V} (h : RD K ρ H .non v) : v = .non := by unfold RD at h; exact h
theorem RD.int {i : Int} : RD K ρ H (.int i) (.int i) := by unfold RD; rfl
theorem RD.bl {i : Bool} : RD K ρ H (.bl i) (.bl i) := by unfold RD; rfl
theorem RD.str {i : Str} : RD K ρ H (.str i) (.str i) := by unfold RD; rfl
theorem RD.non : RD K ρ H .non .non := by unfold RD; rfl
theorem RDs.nil : RDs K ρ H [] [] := by unfold RDs; rfl
theorem RDs.cons {d : D} {v : V} {ds : List D} {vs : List V} (h : RD K ρ H d v) (t : RDs K ρ H ds vs) : RDs K ρ H (d :: ds) (v :: vs) := by
  unfold RDs; exact ⟨v, vs, rfl, h, t⟩
theorem RDs.length : ∀ {ds : List D} {vs : List V}, RDs K ρ H ds vs → ds.length = vs.length
  | [], _, h => by unfold RDs at h; subst h; rfl
  | d :: ds, vs, h => by
    unfold RDs at h
    obtain ⟨v, r, rfl, _, h2⟩ := h
    simp only [List.length_cons, RDs.length h2]
theorem RDs.get : ∀ {ds : List D} {vs : List V} {i : Nat} {d : D}, RDs K ρ H ds vs → ds[i]? = some d → ∃ v, vs[i]? = some v ∧ RD K ρ H d v
  | [], _, _, _, _, e => by simp at e
  | d :: ds, vs, i, d', h, e => by
    unfold RDs at h
    obtain ⟨v, r, rfl, h1, h2⟩ := h
    cases i with
    | zero => simp at e; subst e; exact ⟨v, rfl, h1⟩
    | succ i => exact RDs.get (i := i) h2 (by simpa using e)
theorem RDs.append : ∀ {ds es : List D} {vs us : List V}, RDs K ρ H ds vs → RDs K ρ H es us → RDs K ρ H (ds ++ es) (vs ++ us)
  | [], _, _, _, h, t => by unfold RDs at h; subst h; exact t
  | d :: ds, es, vs, us, h, t => by
    unfold RDs at h
    obtain ⟨v, r, rfl, h1, h2⟩ := h
    exact RDs.cons h1 (RDs.append h2 t)
theorem RDs.take : ∀ {ds : List D} {vs : List V} (n : Nat), RDs K ρ H ds vs → RDs K ρ H (ds.take n) (vs.take n)
  | _, _, 0, _ => by simp only [List.take_zero]; exact RDs.nil
  | [], _, n + 1, h => by unfold RDs at h; subst h; exact RDs.nil
  | d :: ds, vs, n + 1, h => by
    unfold RDs at h
    obtain ⟨v, r, rfl, h1, h2⟩ := h
    exact RDs.cons h1 (RDs.take n h2)
theorem RDs.drop : ∀ {ds : List D} {vs : List V} (n : Nat), RDs K ρ H ds vs → RDs K ρ H (ds.drop n) (vs.drop n)
  | _, _, 0, h => h
  | [], _, n + 1, h => by unfold RDs at h; subst h; exact RDs.nil
  | d :: ds, vs, n + 1, h => by
    unfold RDs at h
    obtain ⟨v, r, rfl, h1, h2⟩ := h
    exact RDs.drop n h2
theorem RDs.set : ∀ {ds : List D} {vs : List V} {d : D} {v : V} (n : Nat), RD K ρ H d v → RDs K ρ H ds vs → RDs K ρ H (ds.set n d) (vs.set n v)
  | [], _, _, _, _, _, h => by unfold RDs at h; subst h; exact RDs.nil
  | x :: ds, vs, d, v, n, hd, h => by
    unfold RDs at h
    obtain ⟨u, r, rfl, h1, h2⟩ := h
    cases n with
    | zero => exact RDs.cons hd h2
    | succ n => exact RDs.cons h1 (RDs.set n hd h2)
theorem RDs.rep {ds : List D} {vs : List V} (h : RDs K ρ H ds vs) : ∀ n : Nat, RDs K ρ H (List.replicate n ds).flatten (List.replicate n vs).flatten
  | 0 => RDs.nil
  | n + 1 => by
    rw [List.replicate_succ, List.replicate_succ, List.flatten_cons, List.flatten_cons]
    exact RDs.append h (RDs.rep h n)
theorem RDs.one {d : D} {vs : List V} (h : RDs K ρ H [d] vs) : ∃ v, vs = [v] ∧ RD K ρ H d v := by
  unfold RDs at h
  obtain ⟨v, r, rfl, h1, h2⟩ := h
  unfold RDs at h2
  subst h2
  exact ⟨v, rfl, h1⟩
theorem RDs.two {d e : D} {vs : List V} (h : RDs K ρ H [d, e] vs) : ∃ v u, vs = [v, u] ∧ RD K ρ H d v ∧ RD K ρ H e u := by
  unfold RDs at h
  obtain ⟨v, r, rfl, h1, h2⟩ := h
  obtain ⟨u, rfl, h3⟩ := h2.one
  exact ⟨v, u, rfl, h1, h3⟩

/-! ### new objects, changed ones -/
theorem grow_upd {p : Addr} {o : HO} (np : H p = none) : Grow ρ H ρ (upd H p o) :=
  ⟨⟨[], by simp, by simp⟩, ⟨[], by simp, by simp⟩, rfl, fun a u h _ _ => by rw [upd_ne (ne_of_none h np)]; exact h, fun a u h q => ⟨u, by rw [upd_ne (ne_of_none h np)]; exact h, q⟩⟩
theorem grow_new {p : Addr} {o : HO} (np : H p = none) : Grow ρ H (ρ.push p) (upd H p o) :=
  ⟨⟨[p], rfl, fun a ha => by rw [List.mem_singleton.mp ha]; exact bare_of np⟩, ⟨[], by simp [Rho.push], by simp⟩, rfl, fun a u h _ _ => by rw [upd_ne (ne_of_none h np)]; exact h, fun a u h q => ⟨u, by rw [upd_ne (ne_of_none h np)]; exact h, q⟩⟩
theorem grow_set {p : Addr} {o : HO} (hp : p ∈ ρ.l) (nt : ∀ ps, o ≠ .tbl ps := by intro _ z; cases z) : Grow ρ H ρ (upd H p o) := by
  refine ⟨⟨[], by simp, by simp⟩, ⟨[], by simp, by simp⟩, rfl, fun a u h n _ => ?_, fun a u h q => ?_⟩
  · rw [upd_ne (fun e => n (by rw [e]; exact hp))]; exact h
  · by_cases e : a = p
    · subst e; exact ⟨o, upd_same, nt⟩
    · exact ⟨u, by rw [upd_ne e]; exact h, q⟩
theorem RelS.mem {S : Store} (r : RelS K ρ S H) {a : Addr} (ha : a ∈ ρ.l) : ∃ h, H a = some h := by
  obtain ⟨n, hn, rfl⟩ := List.getElem_of_mem ha
  have hs : n < S.length := by rw [← r.len]; exact hn
  obtain ⟨h, e, _⟩ := r.ob n _ _ (List.getElem?_eq_getElem hn) (List.getElem?_eq_getElem hs)
  exact ⟨h, e⟩
theorem RelS.fresh {S : Store} (r : RelS K ρ S H) {p : Addr} (np : H p = none) : p ∉ ρ.all := by
  intro z
  rcases List.mem_append.mp z with z | z
  · obtain ⟨_, e⟩ := r.mem z
    rw [np] at e; cases e
  · obtain ⟨_, _, e, _⟩ := r.hid p z
    rw [np] at e; cases e
/-- an object outside the store -/
theorem RelS.out {S : Store} (r : RelS K ρ S H) {p : Addr} {o : HO} (np : H p = none) (nt : ∀ ps, o ≠ .tbl ps := by intro _ z; cases z) : RelS K ρ S (upd H p o) :=
  ⟨r.len, r.nd, tabs_but r.tab (.inl np) fun b hb => upd_ne hb, r.told, fun a ha => let ⟨n, u, e, q⟩ := r.hid a ha; ⟨n, u, by rw [upd_ne (ne_of_none e np)]; exact e, q⟩, fun n a u h1 h2 => let ⟨h, e, q⟩ := r.ob n a u h1 h2; ⟨h, by rw [upd_ne (ne_of_none e np)]; exact e, q.grow (grow_upd np)⟩⟩
theorem RelS.push {S : Store} (r : RelS K ρ S H) {p : Addr} {o : Ob} {h : HO} (np : H p = none) (q : ROb K ρ H o h) : RelS K (ρ.push p) (S ++ [o]) (upd H p h) := by
  have nl := nl_of (r.fresh np)
  refine ⟨by simp [Rho.push, r.len], ?_, tabs_but r.tab (.inl np) fun b hb => upd_ne hb, r.told, fun a ha => ?_, fun n a u h1 h2 => ?_⟩
  · show (ρ.l ++ [p]).Nodup
    rw [List.nodup_append]
    refine ⟨r.nd, by simp, fun x hx y hy e => ?_⟩
    rw [List.mem_singleton.mp hy] at e
    subst e
    exact nl hx
  · obtain ⟨n, u, e, nt⟩ := r.hid a ha
    have ne := ne_of_none e np
    refine ⟨fun z => ?_, u, by rw [upd_ne ne]; exact e, nt⟩
    rcases List.mem_append.mp (show a ∈ ρ.l ++ [p] from z) with z | z
    · exact n z
    · exact ne (List.mem_singleton.mp z)
  · have h1 : (ρ.l ++ [p])[n]? = some a := h1
    by_cases hn : n < ρ.l.length
    · rw [List.getElem?_append_left hn] at h1
      rw [List.getElem?_append_left (by rw [← r.len]; exact hn)] at h2
      obtain ⟨w, e, z⟩ := r.ob n a u h1 h2
      exact ⟨w, by rw [upd_ne (ne_of_none e np)]; exact e, z.grow (grow_new np)⟩
    · have hl : n < (ρ.l ++ [p]).length := (List.getElem?_eq_some_iff.mp h1).1
      have hn' : n = ρ.l.length := by simp at hl; omega
      subst hn'
      rw [List.getElem?_append_right (Nat.le_refl _)] at h1
      rw [List.getElem?_append_right (by rw [r.len]; exact Nat.le_refl _)] at h2
      simp at h1
      simp [r.len] at h2
      subst h1; subst h2
      exact ⟨h, upd_same, q.grow (grow_new np)⟩
theorem RelS.set {S : Store} (r : RelS K ρ S H) {n : Nat} {p : Addr} {o : Ob} {h : HO} (hp : ρ.l[n]? = some p) (q : ROb K ρ H o h) : RelS K ρ (S.set n o) (upd H p h) := by
  have hpm : p ∈ ρ.l := List.mem_of_getElem? hp
  have hpn : H p = none ∨ ∃ u, H p = some u ∧ NTab u := by
    have hl := (List.getElem?_eq_some_iff.mp hp).1
    rw [r.len] at hl
    obtain ⟨u, e, q⟩ := r.ob n p _ hp (List.getElem?_eq_getElem hl)
    exact .inr ⟨u, e, ntab_ob q⟩
  refine ⟨by simp [r.len], r.nd, tabs_but r.tab hpn fun b hb => upd_ne hb, r.told, fun a ha => ?_, fun m a u h1 h2 => ?_⟩
  · obtain ⟨n, u, e, q⟩ := r.hid a ha
    exact ⟨n, u, by rw [upd_ne (fun z => n (by rw [z]; exact hpm))]; exact e, q⟩
  by_cases hm : m = n
  · subst hm
    rw [hp] at h1; cases h1
    have hl : m < S.length := by rw [← r.len]; exact (List.getElem?_eq_some_iff.mp hp).1
    rw [List.getElem?_set_self hl] at h2
    cases h2
    exact ⟨h, upd_same, q.grow (grow_set hpm (ntab_ob q).1)⟩
  · rw [List.getElem?_set_ne (Ne.symm hm)] at h2
    obtain ⟨w, e, z⟩ := r.ob m a u h1 h2
    have ne : a ≠ p := fun e => by
      subst e
      have h1' := List.getElem?_eq_some_iff.mp h1
      have h2' := List.getElem?_eq_some_iff.mp hp
      exact hm ((List.getElem_inj r.nd).mp (h1'.2.trans h2'.2.symm))
    exact ⟨w, by rw [upd_ne ne]; exact e, z.grow (grow_set hpm (ntab_ob q).1)⟩
theorem RD.newTup {S : Store} (r : RelS K ρ S H) {p : Addr} {ds : List D} {vs : List V} (np : H p = none) (q : RDs K ρ H ds vs) : RD K ρ (upd H p (.tup vs)) (.tup ds) (.ref p) := by
  unfold RD
  exact ⟨p, vs, rfl, ⟨upd_same, r.fresh np⟩, q.grow (grow_upd np)⟩
theorem RD.newLst {S : Store} (r : RelS K ρ S H) {p : Addr} {ds : List D} {vs : List V} (np : H p = none) (q : RDs K ρ H ds vs) : RD K ρ (upd H p (.lst vs)) (.lst ds) (.ref p) := by
  unfold RD
  exact ⟨p, vs, rfl, ⟨upd_same, r.fresh np⟩, q.grow (grow_upd np)⟩
theorem RD.newRef {S : Store} (r : RelS K ρ S H) {p : Addr} {H' : Hp} : RD K (ρ.push p) H' (.ref S.length) (.ref p) := by
  unfold RD
  refine ⟨p, rfl, ?_⟩
  show (ρ.l ++ [p])[S.length]? = some p
  rw [List.getElem?_append_right (by rw [r.len]; exact Nat.le_refl _)]
  simp [r.len]

/-! ### an object hidden, shown again -/
def del (H : Hp) (p : Addr) : Hp := fun a => if a = p then none else H a
theorem del_ne {p a : Addr} (h : a ≠ p) : del H p a = H a := by unfold del; rw [if_neg h]
theorem del_same {p : Addr} : del H p p = none := by unfold del; rw [if_pos rfl]
theorem del_upd {p : Addr} {o : HO} (h : H p = some o) : upd (del H p) p o = H := by
  funext a
  by_cases e : a = p
  · subst e; rw [upd_same, h]
  · rw [upd_ne e, del_ne e]
theorem grow_hide {p : Addr} {o : HO} (np : H p = none) : Grow ρ H (ρ.hide p) (upd H p o) :=
  ⟨⟨[], by simp [Rho.hide], by simp⟩, ⟨[p], rfl, fun a ha => by rw [List.mem_singleton.mp ha]; exact bare_of np⟩, rfl, fun a u h _ _ => by rw [upd_ne (ne_of_none h np)]; exact h, fun a u h q => ⟨u, by rw [upd_ne (ne_of_none h np)]; exact h, q⟩⟩
def Rho.shw (ρ : Rho) (p : Addr) : Rho := ⟨ρ.l, ρ.h.filter fun a => decide (a ≠ p), ρ.t⟩
theorem at_show {p a : Addr} {u : HO} (e : p ∈ ρ.h) (h : H a = some u ∧ a ∉ ρ.all) : del H p a = some u ∧ a ∉ (ρ.shw p).all := by
  have n1 : a ∉ ρ.l ∧ a ∉ ρ.h := by simpa [Rho.all] using h.2
  have ne : a ≠ p := fun z => n1.2 (by rw [z]; exact e)
  refine ⟨by rw [del_ne ne]; exact h.1, fun z => ?_⟩
  rcases List.mem_append.mp (show a ∈ ρ.l ++ ρ.h.filter fun a => decide (a ≠ p) from z) with z | z
  · exact n1.1 z
  · exact n1.2 (List.mem_filter.mp z).1
mutual
theorem RD.shw {p : Addr} (eh : p ∈ ρ.h) : ∀ {d : D} {v : V}, RD K ρ H d v → RD K (ρ.shw p) (del H p) d v
  | .non, _, h => h
  | .bl _, _, h => h
  | .int _, _, h => h
  | .str _, _, h => h
  | .tup ds, v, h => by
    unfold RD at h ⊢
    obtain ⟨a, vs, e, h1, h2⟩ := h
    exact ⟨a, vs, e, at_show eh h1, RDs.shw eh h2⟩
  | .lst ds, v, h => by
    unfold RD at h ⊢
    obtain ⟨a, vs, e, h1, h2⟩ := h
    exact ⟨a, vs, e, at_show eh h1, RDs.shw eh h2⟩
  | .ref n, v, h => by
    unfold RD at h ⊢
    exact h
  | .scr ns, v, h => by
    unfold RD at h ⊢
    obtain ⟨a, e, h1⟩ := h
    exact ⟨a, e, h1.imp (fun ⟨o, h1⟩ => ⟨o, at_show eh h1⟩) id⟩
theorem RDs.shw {p : Addr} (eh : p ∈ ρ.h) : ∀ {ds : List D} {vs : List V}, RDs K ρ H ds vs → RDs K (ρ.shw p) (del H p) ds vs
  | [], _, h => h
  | d :: ds, vs, h => by
    unfold RDs at h ⊢
    obtain ⟨v, r, e, h1, h2⟩ := h
    exact ⟨v, r, e, RD.shw eh h1, RDs.shw eh h2⟩
end
theorem ROb.map {K : PySem.W.Frag} {ρ ρ' : Rho} {H H' : Hp} (f : ∀ d v, RD K ρ H d v → RD K ρ' H' d v) (fs : ∀ ds vs, RDs K ρ H ds vs → RDs K ρ' H' ds vs) {o : Ob} {h : HO} (r : ROb K ρ H o h) : ROb K ρ' H' o h := by
  cases o with
  | lst ds => obtain ⟨vs, e, r⟩ := r; exact ⟨vs, e, fs _ _ r⟩
  | dic t kvs =>
    cases t with
    | false => obtain ⟨es, e, r⟩ := r; exact ⟨es, e, Paired.mapP r fun _ _ z => ⟨z.1, f _ _ z.2⟩⟩
    | true => obtain ⟨es, e, r⟩ := r; exact ⟨es, e, Paired.mapP r fun _ _ z => ⟨z.1, f _ _ z.2⟩⟩
theorem RelS.hide {S : Store} {p : Addr} {o : HO} (r : RelS K ρ S H) (np : H p = none) (nt : NTab o) : RelS K (ρ.hide p) S (upd H p o) := by
  refine ⟨r.len, r.nd, tabs_but r.tab (.inl np) fun b hb => upd_ne hb, r.told, fun a ha => ?_, fun n a u h1 h2 => ?_⟩
  · rcases List.mem_cons.mp (show a ∈ p :: ρ.h from ha) with rfl | ha
    · exact ⟨fun z => nl_of (r.fresh np) z, o, upd_same, nt⟩
    · obtain ⟨n, u, e, q⟩ := r.hid a ha
      exact ⟨n, u, by rw [upd_ne (ne_of_none e np)]; exact e, q⟩
  · obtain ⟨w, e, z⟩ := r.ob n a u h1 h2
    exact ⟨w, by rw [upd_ne (ne_of_none e np)]; exact e, z.grow (grow_hide np)⟩
theorem RelS.shw {S : Store} {p : Addr} (r : RelS K ρ S H) (eh : p ∈ ρ.h) : RelS K (ρ.shw p) S (del H p) := by
  have pl := (r.hid p eh).1
  refine ⟨r.len, r.nd, tabs_but r.tab (.inr (r.hid p eh).2) fun b hb => del_ne hb, r.told, fun a ha => ?_, fun n a u h1 h2 => ?_⟩
  · have ha := List.mem_filter.mp (show a ∈ ρ.h.filter fun a => decide (a ≠ p) from ha)
    obtain ⟨n, u, e, q⟩ := r.hid a ha.1
    exact ⟨n, u, by rw [del_ne (of_decide_eq_true ha.2)]; exact e, q⟩
  · obtain ⟨w, e, z⟩ := r.ob n a u h1 h2
    have ne : a ≠ p := fun z => pl (by rw [← z]; exact List.mem_of_getElem? h1)
    exact ⟨w, by rw [del_ne ne]; exact e, z.map (fun _ _ q => q.shw eh) fun _ _ q => q.shw eh⟩
/-- from a hidden object back to the state without it -/
theorem Grow.shw {p : Addr} {o : HO} (np : H p = none) (nh : p ∉ ρ.h) (g : Grow (ρ.hide p) (upd H p o) ρ' H') : Grow ρ H (ρ.shw p) (del (upd H p o) p) ∧ Grow ρ H (ρ'.shw p) (del H' p) ∧ p ∈ ρ'.h := by
  have g2 : Grow ρ H ρ' H' := (grow_hide np).trans g
  have key : ∀ {ρ1 : Rho} {H1 : Hp}, Grow ρ H ρ1 H1 → Grow ρ H (ρ1.shw p) (del H1 p) := by
    intro ρ1 H1 g
    refine ⟨g.pre, ?_, g.tb, fun a u h n q => ?_, fun a u h q => ?_⟩
    · obtain ⟨xs, e, hx⟩ := g.hid
      refine ⟨xs.filter fun a => decide (a ≠ p), ?_, fun a ha => hx a (List.mem_filter.mp ha).1⟩
      show ρ1.h.filter (fun a => decide (a ≠ p)) = _
      rw [e, List.filter_append]
      congr 1
      rw [List.filter_eq_self]
      intro a ha
      exact decide_eq_true fun z => nh (by rw [← z]; exact ha)
    · rw [del_ne (ne_of_none h np)]; exact g.fr a u h n q
    · rw [del_ne (ne_of_none h np)]; exact g.dom a u h q
  refine ⟨key (grow_upd np), key g2, ?_⟩
  obtain ⟨xs, e, _⟩ := g.hid
  rw [e]
  exact List.mem_append_right _ List.mem_cons_self
end
end Mir
end

section
set_option Elab.async false
set_option linter.all false
set_option maxRecDepth 100000
/-! Mir1: outcomes against HandS's wishes; operations by values. -/
namespace Mir
open PySem PySem.Spec L2
open PyProof.Rows (b2i)

/-- sizes that every state bears -/
structure Siz (H : Hp) : Prop where
  lst : ∀ a xs, H a = some (.lst xs) → xs.length ≤ 16777216
  tup : ∀ a xs, H a = some (.tup xs) → xs.length ≤ 16777216
  dK : ∀ a xs, H a = some (.dK xs) → xs.length ≤ 16777216
  dT : ∀ a xs, H a = some (.dT xs) → xs.length ≤ 16777216
theorem siz_of {P : Program} {w : World} {H : Hp} {h : Heap} (ok : HOk P w H h) : Siz H := by
  have e := sizeLine_eq
  refine ⟨fun a xs q => ?_, fun a xs q => ?_, fun a xs q => ?_, fun a xs q => ?_⟩
  all_goals
    have z := ok a _ q
    have z' := z.1
    omega

/-- what an outcome promises -/
def OKo {α β : Type} (K : PySem.W.Frag) (cl : Nat → Addr) (E : XK) (ρ : Rho) (H : Hp) (R : Rho → Hp → α → β → Prop) (Q : β → Hp → Prop) : Out α → Prop
  | .ok a S' => ∀ ρ' H' v, Grow ρ H ρ' H' → RelS K ρ' S' H' → R ρ' H' a v → Siz H' → Q v H'
  | .ex c S' => ∀ ρ' H', Grow ρ H ρ' H' → RelS K ρ' S' H' → E (.ref (cl c)) none H'
  | .bad => False
def Out.bind {α β : Type} (o : Out α) (f : α → Store → Out β) : Out β :=
  match o with
  | .ok a S => f a S
  | .ex c S => .ex c S
  | .bad => .bad
section
variable {α β γ δ : Type} {K : PySem.W.Frag} {cl : Nat → Addr} {E : XK} {ρ ρ' : Rho} {H H' : Hp} {R : Rho → Hp → α → β → Prop} {Q Q' : β → Hp → Prop}
theorem OKo.mono {o : Out α} (h : OKo K cl E ρ H R Q o) (q : ∀ v H1, Siz H1 → Q v H1 → Q' v H1) : OKo K cl E ρ H R Q' o := by
  cases o with
  | ok a S => exact fun ρ' H' v g rs r z => q v H' z (h ρ' H' v g rs r z)
  | ex c S => exact h
  | bad => exact h
theorem OKo.grow {o : Out α} (g : Grow ρ H ρ' H') (h : OKo K cl E ρ H R Q o) : OKo K cl E ρ' H' R Q o := by
  cases o with
  | ok a S => exact fun ρ1 H1 v g' rs r z => h ρ1 H1 v (g.trans g') rs r z
  | ex c S => exact fun ρ1 H1 g' rs => h ρ1 H1 (g.trans g') rs
  | bad => exact h
theorem OKo.bind {o : Out α} {f : α → Store → Out γ} {R2 : Rho → Hp → γ → δ → Prop} {Q2 : δ → Hp → Prop} (h : OKo K cl E ρ H R2 Q2 (o.bind f)) :
    OKo K cl E ρ H R (fun v H1 => ∃ ρ1 S1 a, Grow ρ H ρ1 H1 ∧ RelS K ρ1 S1 H1 ∧ R ρ1 H1 a v ∧ OKo K cl E ρ1 H1 R2 Q2 (f a S1)) o := by
  cases o with
  | ok a S => exact fun ρ' H' v g rs r _ => ⟨ρ', S, a, g, rs, r, OKo.grow g h⟩
  | ex c S => exact h
  | bad => exact h
end

/-- the readings made of outcomes -/
def lE (K : PySem.W.Frag) (cl : Nat → Addr) (E : XK) (m : Env → Store → Out D) : TE := fun σ H Q => ∃ ρ env S, RelS K ρ S H ∧ RelE K ρ H env σ ∧ OKo K cl E ρ H (RD K) Q (m env S)
def lA (K : PySem.W.Frag) (cl : Nat → Addr) (E : XK) (m : Env → Store → Out (List D)) : TA := fun σ H Q => ∃ ρ env S, RelS K ρ S H ∧ RelE K ρ H env σ ∧ OKo K cl E ρ H (RDs K) Q (m env S)
def RB : Rho → Hp → Bool → Bool → Prop := fun _ _ a b => a = b
def lT (K : PySem.W.Frag) (cl : Nat → Addr) (E : XK) (m : Env → Store → Out Bool) : TT := fun σ H Q => ∃ ρ env S, RelS K ρ S H ∧ RelE K ρ H env σ ∧ OKo K cl E ρ H RB Q (m env S)

section
variable {X : Cx} {e : Expr} {es : List Expr}
theorem PE.via {t t' : TE} (h : PE X e t) (i : ∀ σ H Q, Siz H → t' σ H Q → t σ H (fun v H' => Siz H' → Q v H')) : PE X e t' :=
  ⟨fun pins s σ H Q I q => thn (h.run pins s σ H _ I (i σ H Q (siz_of I.hok) q)) fun v s' ⟨x, H', I', r, q'⟩ => ⟨x, H', I', r, q' (siz_of I'.hok)⟩⟩
theorem PT.via {t t' : TT} (h : PT X e t) (i : ∀ σ H Q, Siz H → t' σ H Q → t σ H (fun v H' => Siz H' → Q v H')) : PT X e t' :=
  ⟨fun pins s σ H Q I q => thn (h.run pins s σ H _ I (i σ H Q (siz_of I.hok) q)) fun v s' ⟨H', I', q'⟩ => ⟨H', I', q' (siz_of I'.hok)⟩⟩
theorem PA.via {t t' : TA} (h : PA X es t) (i : ∀ σ H Q, Siz H → t' σ H Q → t σ H (fun v H' => Siz H' → Q v H')) : PA X es t' :=
  ⟨fun pos pins s σ H Q I q => thn (h.run pos pins s σ H _ I (i σ H Q (siz_of I.hok) q)) fun v s' ⟨x, H', I', r, q'⟩ => ⟨x, H', I', r, q' (siz_of I'.hok)⟩⟩
end

/-! ### lists and sequences among values -/
def listOf (S : Store) : D → Option (List D)
  | .lst xs => some xs
  | .ref n => match S[n]? with
    | some (.lst xs) => some xs
    | _ => none
  | _ => none
def seqOf (S : Store) : D → Option (List D)
  | .tup xs => some xs
  | d => listOf S d
def mkL (mt : Bool) (ds : List D) (S : Store) : Out D := if mt then .ok (.ref S.length) (S ++ [.lst ds]) else .ok (.lst ds) S
section
variable {K : PySem.W.Frag} {cl : Nat → Addr} {E : XK} {ρ : Rho} {H : Hp} {S : Store} {Q : VK}
theorem list_at (rs : RelS K ρ S H) {d : D} {xs : List D} {v : V} (e : listOf S d = some xs) (r : RD K ρ H d v) : ∃ a vs, v = .ref a ∧ H a = some (.lst vs) ∧ RDs K ρ H xs vs := by
  cases d with
  | lst ys =>
    cases (show some ys = some xs from e)
    unfold RD at r
    obtain ⟨a, vs, e1, h, q⟩ := r
    exact ⟨a, vs, e1, h.1, q⟩
  | ref n =>
    unfold RD at r
    obtain ⟨a, e1, h⟩ := r
    simp only [listOf] at e
    split at e
    · rename_i ys hs
      cases e
      obtain ⟨o, h1, vs, h2, q⟩ := rs.ob n a _ h hs
      subst h2
      exact ⟨a, vs, e1, h1, q⟩
    · cases e
  | _ => cases e
theorem seq_at (rs : RelS K ρ S H) {d : D} {xs : List D} {v : V} (e : seqOf S d = some xs) (r : RD K ρ H d v) : ∃ a vs, v = .ref a ∧ (SqL K H a vs ∨ SqT K H a vs) ∧ RDs K ρ H xs vs := by
  cases d with
  | tup ys =>
    cases (show some ys = some xs from e)
    obtain ⟨a, vs, e1, h, q⟩ := r.tupT
    exact ⟨a, vs, e1, .inr h, q⟩
  | lst ys =>
    obtain ⟨a, vs, e1, h, q⟩ := list_at rs (d := .lst ys) e r
    exact ⟨a, vs, e1, .inl (SqL.of h), q⟩
  | ref n =>
    obtain ⟨a, vs, e1, h, q⟩ := list_at rs (d := .ref n) e r
    exact ⟨a, vs, e1, .inl (SqL.of h), q⟩
  | _ => cases e
theorem mkL_ok {mt : Bool} {ds : List D} {vs : List V} {R : V → Hp → Prop} (rs : RelS K ρ S H) (q : RDs K ρ H ds vs) (h : OKo K cl E ρ H (RD K) R (mkL mt ds S)) : ∀ p, H p = none → Siz (upd H p (.lst vs)) → R (.ref p) (upd H p (.lst vs)) := by
  intro p np z
  cases mt with
  | false => exact h ρ _ _ (grow_upd np) (rs.out np) (RD.newLst rs np q) z
  | true => exact h (ρ.push p) _ _ (grow_new np) (rs.push np ⟨vs, rfl, q⟩) (RD.newRef rs) z
theorem tup_ok {ds : List D} {vs : List V} {R : V → Hp → Prop} (rs : RelS K ρ S H) (q : RDs K ρ H ds vs) (h : OKo K cl E ρ H (RD K) R (.ok (.tup ds) S)) : ∀ p, H p = none → Siz (upd H p (.tup vs)) → R (.ref p) (upd H p (.tup vs)) :=
  fun p np z => h ρ _ _ (grow_upd np) (rs.out np) (RD.newTup rs np q) z
end

/-! ### an operation by values -/
abbrev V2 := D → D → Store → Out D
abbrev V1 := D → Store → Out D
/-- x, y stand for a, b: the operation's wish -/
def w2 (K : PySem.W.Frag) (cl : Nat → Addr) (E : XK) (f : V2) : R2 := fun x y H Q => ∃ ρ S a b, RelS K ρ S H ∧ RD K ρ H a x ∧ RD K ρ H b y ∧ OKo K cl E ρ H (RD K) Q (f a b S)
def w1 (K : PySem.W.Frag) (cl : Nat → Addr) (E : XK) (f : V1) : V → Hp → VK → Prop := fun x H Q => ∃ ρ S a, RelS K ρ S H ∧ RD K ρ H a x ∧ OKo K cl E ρ H (RD K) Q (f a S)
section
variable {X : Cx} {cl : Nat → Addr} {E : XK}
theorem OpR.siz {f : Value → Value → Sem Value} {r r' : R2} (h : OpR X f r) (i : ∀ x y H Q, Siz H → r' x y H Q → r x y H (fun v H' => Siz H' → Q v H')) : OpR X f r' :=
  fun pins s σ H x y v u Q I rx ry q => thn (h pins s σ H x y v u _ I rx ry (i x y H Q (siz_of I.hok) q)) fun v s' ⟨x, H', I', r, q'⟩ => ⟨x, H', I', r, q' (siz_of I'.hok)⟩
theorem UnR.siz {f : Value → Sem Value} {r r' : V → Hp → VK → Prop} (h : UnR X f r) (i : ∀ x H Q, Siz H → r' x H Q → r x H (fun v H' => Siz H' → Q v H')) : UnR X f r' :=
  fun pins s σ H x v Q I rx q => thn (h pins s σ H x v _ I rx (i x H Q (siz_of I.hok) q)) fun v s' ⟨x, H', I', r, q'⟩ => ⟨x, H', I', r, q' (siz_of I'.hok)⟩
theorem CallR.siz {f : Value} {r r' : List V → Hp → VK → Prop} (h : CallR X f r) (i : ∀ xs H Q, Siz H → r' xs H Q → r xs H (fun v H' => Siz H' → Q v H')) : CallR X f r' :=
  fun pins s σ H xs us Q I rx q => thn (h pins s σ H xs us _ I rx (i xs H Q (siz_of I.hok) q)) fun v s' ⟨x, H', I', r, q'⟩ => ⟨x, H', I', r, q' (siz_of I'.hok)⟩
/-- a rule out of several -/
theorem OpR.cases {f : Value → Value → Sem Value} {r : R2} (h : ∀ x y H Q, Siz H → r x y H Q → ∃ r1 : R2, OpR X f r1 ∧ r1 x y H (fun v H' => Siz H' → Q v H')) : OpR X f r := by
  intro pins s σ H x y v u Q I rx ry q
  obtain ⟨r1, h1, q1⟩ := h x y H Q (siz_of I.hok) q
  exact thn (h1 pins s σ H x y v u _ I rx ry q1) fun v s' ⟨x, H', I', r, q'⟩ => ⟨x, H', I', r, q' (siz_of I'.hok)⟩
theorem CallR.cases {f : Value} {r : List V → Hp → VK → Prop} (h : ∀ xs H Q, Siz H → r xs H Q → ∃ r1, CallR X f r1 ∧ r1 xs H (fun v H' => Siz H' → Q v H')) : CallR X f r := by
  intro pins s σ H xs us Q I rx q
  obtain ⟨r1, h1, q1⟩ := h xs H Q (siz_of I.hok) q
  exact thn (h1 pins s σ H xs us _ I rx q1) fun v s' ⟨x, H', I', r, q'⟩ => ⟨x, H', I', r, q' (siz_of I'.hok)⟩
/-- an outcome that is a plain value -/
theorem ok_val {K : PySem.W.Frag} {ρ : Rho} {H : Hp} {S : Store} {Q : VK} {d : D} {v : V} (rs : RelS K ρ S H) (h : OKo K cl E ρ H (RD K) Q (.ok d S)) (r : RD K ρ H d v) : Siz H → Q v H := fun z => h ρ H v Grow.refl rs r z

/-! ### + -/
def vAdd (mt : Bool) : V2
  | .int i, .int j, S => .ok (.int (i + j)) S
  | .int i, .bl k, S => .ok (.int (i + b2i k)) S
  | .str i, .str j, S => if i.length + j.length ≤ 16777216 then .ok (.str (i ++ j)) S else .bad
  | .tup xs, .tup ys, S => if xs.length + ys.length ≤ 16777216 then .ok (.tup (xs ++ ys)) S else .bad
  | a, b, S => match listOf S a, listOf S b with
    | some xs, some ys => if xs.length + ys.length ≤ 16777216 then mkL mt (xs ++ ys) S else .bad
    | _, _ => .bad
theorem or_add {mt : Bool} : OpR X (binaryOp .Add) (w2 X.K cl E (vAdd mt)) := by
  have hsl := sizeLine_eq
  refine OpR.cases fun x y H Q z h => ?_
  obtain ⟨ρ, S, a, b, rs, ra, rb, h⟩ := h
  unfold vAdd at h
  split at h
  · cases ra.ofInt; cases rb.ofInt
    exact ⟨_, op_add, _, _, rfl, rfl, ok_val rs h RD.int⟩
  · cases ra.ofInt; cases rb.ofBl
    exact ⟨_, op_add_ib, _, _, rfl, rfl, ok_val rs h RD.int⟩
  · split at h
    · cases ra.ofStr; cases rb.ofStr
      exact ⟨_, op_add_str, _, _, rfl, rfl, by omega, ok_val rs h RD.str⟩
    · exact h.elim
  · split at h
    · rename_i hz
      obtain ⟨a, vs, rfl, hs, qs⟩ := ra.tupT
      obtain ⟨b, us, rfl, ht, qt⟩ := rb.tupT
      rename_i xs ys
      have l1 := qs.length
      have l2 := qt.length
      refine ⟨_, op_catA, a, b, vs, us, rfl, rfl, hs, ht, by omega, fun e => ?_, fun _ e => ?_, fun _ _ p np => ?_⟩
      · subst e
        have : xs = [] := List.eq_nil_of_length_eq_zero (by simpa using l1)
        subst this
        exact ok_val rs h rb
      · subst e
        have : ys = [] := List.eq_nil_of_length_eq_zero (by simpa using l2)
        subst this
        rw [List.append_nil] at h
        exact ok_val rs h ra
      · exact tup_ok rs (qs.append qt) h p np
    · exact h.elim
  · split at h
    · rename_i xs ys h1 h2
      split at h
      · obtain ⟨a, vs, rfl, hs, qs⟩ := list_at rs h1 ra
        obtain ⟨b, us, rfl, ht, qt⟩ := list_at rs h2 rb
        have l1 := qs.length
        have l2 := qt.length
        exact ⟨_, op_cat, a, b, vs, us, rfl, rfl, hs, ht, by omega, mkL_ok rs (qs.append qt) h⟩
      · exact h.elim
    · exact h.elim

/-! ### - * // % ** << >> & | ^ -/
def vInt (f : Int → Int → Int) : V2
  | .int i, .int j, S => .ok (.int (f i j)) S
  | _, _, _ => .bad
def vIntIf (c : Int → Int → Bool) (f : Int → Int → Int) : V2
  | .int i, .int j, S => if c i j then .ok (.int (f i j)) S else .bad
  | _, _, _ => .bad
theorem or_int {f : Int → Int → Int} {g : Value → Value → Sem Value} (h : OpR X g (rI0 fun i j => .int (f i j))) : OpR X g (w2 X.K cl E (vInt f)) := by
  refine OpR.siz h fun x y H Q z q => ?_
  obtain ⟨ρ, S, a, b, rs, ra, rb, q⟩ := q
  unfold vInt at q
  split at q
  · cases ra.ofInt; cases rb.ofInt
    exact ⟨_, _, rfl, rfl, ok_val rs q RD.int⟩
  · exact q.elim
theorem or_intIf {c : Int → Int → Bool} {C : Int → Int → Prop} (hc : ∀ i j, c i j = true → C i j) {f : Int → Int → Int} {g : Value → Value → Sem Value} (h : OpR X g (rI C fun i j => .int (f i j))) : OpR X g (w2 X.K cl E (vIntIf c f)) := by
  refine OpR.siz h fun x y H Q z q => ?_
  obtain ⟨ρ, S, a, b, rs, ra, rb, q⟩ := q
  unfold vIntIf at q
  split at q
  · split at q
    · cases ra.ofInt; cases rb.ofInt
      exact ⟨_, _, rfl, rfl, hc _ _ (by assumption), ok_val rs q RD.int⟩
    · exact q.elim
  · exact q.elim
def mulOk (i j : Int) : Bool := Nat.ble (i.natAbs.log2 + j.natAbs.log2) 100000000
def divOk (_ j : Int) : Bool := match j with
  | .ofNat n => Nat.ble 1 n && Nat.ble n.log2 8000
  | .negSucc _ => false
def modOk (_ j : Int) : Bool := match j with
  | .ofNat n => Nat.ble 1 n
  | .negSucc _ => false
def powOk (i j : Int) : Bool := Nat.ble i.natAbs.log2 62 && match j with
  | .ofNat n => Nat.ble n 1000000
  | .negSucc _ => false
def shrOk (_ j : Int) : Bool := match j with
  | .ofNat _ => true
  | .negSucc _ => false
theorem mulOk_ok (i j : Int) (h : mulOk i j = true) : PySem.IntMulOk i j := by
  have h := Nat.le_of_ble_eq_true h
  have len : ∀ x : Int, Builtin.Int.intBits x ≤ x.natAbs.log2 + 1 := by
    intro x
    unfold Builtin.Int.intBits
    split
    · omega
    · omega
  have l1 := len i
  have l2 := len j
  have line : bitsLine = 134217728 := by decide
  intro z
  have big := (Bool.and_eq_true_iff.mp z).2
  unfold Builtin.Int.intTooBig at big
  have big := of_decide_eq_true big
  omega
theorem modOk_ok (i j : Int) (h : modOk i j = true) : 0 < j := by
  unfold modOk at h
  split at h
  · rename_i n
    have h := Nat.le_of_ble_eq_true h
    show (0 : Int) < (n : Int)
    omega
  · cases h
theorem divOk_ok (i j : Int) (h : divOk i j = true) : CDivW i j := by
  unfold divOk at h
  split at h
  · rename_i n
    rw [Bool.and_eq_true] at h
    have h1 := Nat.le_of_ble_eq_true h.1
    have h2 := Nat.le_of_ble_eq_true h.2
    refine ⟨?_, ?_⟩
    · show (0 : Int) < (n : Int)
      omega
    · show (n : Int).natAbs.log2 < 9000
      rw [Int.natAbs_natCast]
      omega
  · cases h
theorem powOk_ok (i j : Int) (h : powOk i j = true) : CPow i j := by
  unfold powOk at h
  rw [Bool.and_eq_true] at h
  obtain ⟨h1, h2⟩ := h
  have h1 := Nat.le_of_ble_eq_true h1
  split at h2
  · rename_i n
    have h2 := Nat.le_of_ble_eq_true h2
    refine ⟨Int.natCast_nonneg n, ?_, ?_⟩
    · show (n : Int) ≤ 1000000
      omega
    · by_cases h0 : i.natAbs = 0
      · rw [h0]; decide
      · exact Nat.lt_of_lt_of_le ((Nat.log2_lt h0).mp (Nat.lt_succ_of_le h1)) (Nat.pow_le_pow_right (by decide) (by omega))
  · cases h2
theorem shrOk_ok (i j : Int) (h : shrOk i j = true) : 0 ≤ j := by
  unfold shrOk at h
  split at h
  · exact Int.natCast_nonneg _
  · cases h
def vSub : V2 := vInt fun i j => i - j
def vDiv : V2 := vIntIf divOk fun i j => i / j
def vMod : V2 := vIntIf modOk fun i j => i % j
def vPow : V2 := vIntIf powOk fun i j => i ^ j.toNat
def vShl : V2 := vIntIf powOk fun i j => i * 2 ^ j.toNat
def vShr : V2 := vIntIf shrOk fun i j => i / 2 ^ j.toNat
def vAnd : V2 := vInt Builtin.bitAnd
def vOr : V2 := vInt Builtin.bitOr
def vXor : V2 := vInt Builtin.bitXor
def vMul (mt : Bool) : V2
  | .int i, .int j, S => if mulOk i j then .ok (.int (i * j)) S else .bad
  | .tup xs, .int k, S => if decide (xs ≠ []) && (decide (2 ≤ k) && decide (k ≤ 1000) && Nat.ble xs.length 1000) then .ok (.tup (List.replicate k.toNat xs).flatten) S else .bad
  | a, .int k, S => match listOf S a with
    | some xs => if decide (k ≤ 16777216) && Nat.ble (xs.length * k.toNat) 16777216 && decide (-(16777216) ≤ k) then mkL mt (List.replicate k.toNat xs).flatten S else .bad
    | none => .bad
  | _, _, _ => .bad
end
end Mir
end

section
set_option Elab.async false
set_option linter.all false
set_option maxRecDepth 100000
/-! Mir2: comparisons, truth, subscripts by values. -/
namespace Mir
open PySem PySem.Spec L2
open PyProof.Rows (b2i)

/-! ### data within, read as the library's own -/
def okD : Nat → D → Bool
  | 0, _ => false
  | n + 1, d => match d with
    | .tup xs => xs.all (okD n)
    | .lst xs => xs.all (okD n)
    | .str x => PyData.strOk x
    | .ref _ => false
    | .scr _ => false
    | _ => true
def eqL (f : D → D → Bool) : List D → List D → Bool
  | [], [] => true
  | x :: xs, y :: ys => f x y && eqL f xs ys
  | _, _ => false
def eqF : Nat → D → D → Bool
  | 0, _, _ => false
  | n + 1, a, b => match a, b with
    | .non, .non => true
    | .bl a, .bl b => a == b
    | .bl a, .int j => (if a then 1 else 0) == j
    | .int i, .bl b => i == (if b then 1 else 0)
    | .int i, .int j => i == j
    | .str x, .str y => x == y
    | .tup xs, .tup ys => eqL (eqF n) xs ys
    | .lst xs, .lst ys => eqL (eqF n) xs ys
    | _, _ => false
mutual
def py : D → PyData
  | .non => .none
  | .bl b => .bool b
  | .int i => .int i
  | .str x => .str x
  | .tup xs => .tuple (pys xs)
  | .lst xs => .list (pys xs)
  | .ref _ => .none
  | .scr _ => .none
def pys : List D → List PyData
  | [] => []
  | x :: xs => py x :: pys xs
end
theorem okL {n : Nat} : ∀ {xs : List D}, xs.all (okD n) = true → PyData.canLayAll0 (pys xs) = true ∧ PyData.depthAll (pys xs) ≤ n → PyData.canLayAll0 (pys xs) = true ∧ PyData.depthAll (pys xs) ≤ n := fun _ h => h
theorem ok_py : ∀ (n : Nat) (d : D), okD n d = true → PyData.canLay0 (py d) = true ∧ PyData.depth (py d) ≤ n
  | 0, d, h => by cases h
  | n + 1, d, h => by
    have L : ∀ xs : List D, xs.all (okD n) = true → PyData.canLayAll0 (pys xs) = true ∧ PyData.depthAll (pys xs) ≤ n := by
      intro xs
      induction xs with
      | nil => intro _; exact ⟨by simp [pys, PyData.canLayAll0], by simp [pys, PyData.depthAll]⟩
      | cons x xs ih =>
        intro h
        rw [List.all_cons, Bool.and_eq_true] at h
        obtain ⟨a1, a2⟩ := ok_py n x h.1
        obtain ⟨b1, b2⟩ := ih h.2
        refine ⟨by simp [pys, PyData.canLayAll0, a1, b1], ?_⟩
        simp only [pys, PyData.depthAll]
        omega
    cases d with
    | tup xs =>
      obtain ⟨h1, h2⟩ := L xs h
      exact ⟨by simpa [py, PyData.canLay0] using h1, by simp only [py, PyData.depth]; omega⟩
    | lst xs =>
      obtain ⟨h1, h2⟩ := L xs h
      exact ⟨by simpa [py, PyData.canLay0] using h1, by simp only [py, PyData.depth]; omega⟩
    | str x => exact ⟨by simpa [py, PyData.canLay0] using (show PyData.strOk x = true from h), by simp [py, PyData.depth]⟩
    | non => exact ⟨by simp [py, PyData.canLay0], by simp [py, PyData.depth]⟩
    | bl b => exact ⟨by simp [py, PyData.canLay0], by simp [py, PyData.depth]⟩
    | int i => exact ⟨by simp [py, PyData.canLay0], by simp [py, PyData.depth]⟩
    | ref n => cases h
    | scr n => cases h
theorem eq_py : ∀ (n : Nat) (a b : D), okD n a = true → okD n b = true → PyData.eqv (py a) (py b) = eqF n a b
  | 0, a, b, h, _ => by cases h
  | n + 1, a, b, ha, hb => by
    have L : ∀ xs ys : List D, xs.all (okD n) = true → ys.all (okD n) = true → PyData.eqvAll (pys xs) (pys ys) = eqL (eqF n) xs ys := by
      intro xs
      induction xs with
      | nil => intro ys _ _; cases ys <;> simp [pys, PyData.eqvAll, eqL]
      | cons x xs ih =>
        intro ys h1 h2
        cases ys with
        | nil => simp [pys, PyData.eqvAll, eqL]
        | cons y ys =>
          rw [List.all_cons, Bool.and_eq_true] at h1 h2
          simp only [pys, PyData.eqvAll, eqL, eq_py n x y h1.1 h2.1, ih ys h1.2 h2.2]
    cases a with
    | tup xs =>
      cases b with
      | tup ys => simpa only [py, PyData.eqv, eqF] using L xs ys ha hb
      | ref n => cases hb
      | scr n => cases hb
      | _ => simp [py, PyData.eqv, eqF]
    | lst xs =>
      cases b with
      | lst ys => simpa only [py, PyData.eqv, eqF] using L xs ys ha hb
      | ref n => cases hb
      | scr n => cases hb
      | _ => simp [py, PyData.eqv, eqF]
    | ref n => cases ha
    | scr n => cases ha
    | _ =>
      cases b with
      | ref n => cases hb
      | scr n => cases hb
      | _ => simp [py, PyData.eqv, eqF]
section
variable {K : PySem.W.Frag} {ρ : Rho} {H : Hp}
theorem dp_of : ∀ (n : Nat) (d : D) (v : V), okD n d = true → RD K ρ H d v → Dp K H v (py d)
  | 0, d, v, h, _ => by cases h
  | n + 1, d, v, h, r => by
    have L : ∀ (xs : List D) (vs : List V), xs.all (okD n) = true → RDs K ρ H xs vs → DpAll K H vs (pys xs) := by
      intro xs
      induction xs with
      | nil => intro vs _ r; unfold RDs at r; subst r; exact DpAll.nil
      | cons x xs ih =>
        intro vs h r
        rw [List.all_cons, Bool.and_eq_true] at h
        unfold RDs at r
        obtain ⟨v, us, rfl, r1, r2⟩ := r
        exact DpAll.cons (dp_of n x v h.1 r1) (ih us h.2 r2)
    cases d with
    | tup xs =>
      obtain ⟨a, vs, rfl, hs, q⟩ := r.tupT
      exact Dp.tup hs (L xs vs h q)
    | lst xs =>
      obtain ⟨a, vs, rfl, hs, q⟩ := r.lstL
      exact Dp.lst hs (L xs vs h q)
    | str x => cases r.ofStr; exact Dp.str x
    | non => cases r.ofNon; exact Dp.non
    | bl b => cases r.ofBl; exact Dp.bl b
    | int i => cases r.ofInt; exact Dp.int i
    | ref n => cases h
    | scr n => cases h
theorem shaped_of {d : D} (h : okD 60 d = true) : SeqAt.shaped (py d) = true := by
  obtain ⟨h1, h2⟩ := ok_py 60 d h
  unfold SeqAt.shaped
  rw [h1, Bool.true_and]
  exact decide_eq_true (by omega)
end
/-- a mutable list as it stands -/
def flat1 (S : Store) : D → Option D
  | .ref n => match S[n]? with
    | some (.lst xs) => some (.lst xs)
    | _ => none
  | d => some d
theorem flat1_at {K : PySem.W.Frag} {ρ : Rho} {H : Hp} {S : Store} (rs : RelS K ρ S H) {d d' : D} {v : V} {n : Nat} (e : flat1 S d = some d') (ok : okD n d' = true) (r : RD K ρ H d v) : Dp K H v (py d') := by
  cases d with
  | ref k =>
    simp only [flat1] at e
    split at e
    · rename_i xs hs
      cases e
      obtain ⟨a, vs, rfl, h, q⟩ := list_at rs (d := .ref k) (xs := xs) (by simp only [listOf, hs]) r
      cases n with
      | zero => cases ok
      | succ n =>
        refine Dp.lst (SqL.of h) ?_
        have L : ∀ (xs : List D) (vs : List V), xs.all (okD n) = true → RDs K ρ H xs vs → DpAll K H vs (pys xs) := by
          intro xs
          induction xs with
          | nil => intro vs _ r; unfold RDs at r; subst r; exact DpAll.nil
          | cons x xs ih =>
            intro vs h r
            rw [List.all_cons, Bool.and_eq_true] at h
            unfold RDs at r
            obtain ⟨v, us, rfl, r1, r2⟩ := r
            exact DpAll.cons (dp_of n x v h.1 r1) (ih us h.2 r2)
        exact L xs vs ok q
    · cases e
  | _ => cases e; exact dp_of n _ _ ok r
def eqV (S : Store) (a b : D) : Option Bool := match flat1 S a, flat1 S b with
  | some x, some y => if okD 60 x && okD 60 y then some (eqF 60 x y) else none
  | _, _ => none
def vCmp (f : D → D → Store → Option Bool) : V2 := fun a b S => match f a b S with
  | some c => .ok (.bl c) S
  | none => .bad
def vEq : V2 := vCmp fun a b S => eqV S a b
def vNe : V2 := vCmp fun a b S => (eqV S a b).map (!·)
section
variable {X : Cx} {cl : Nat → Addr} {E : XK}
theorem eqV_at {K : PySem.W.Frag} {ρ : Rho} {H : Hp} {S : Store} (rs : RelS K ρ S H) {a b : D} {c : Bool} {x y : V} (e : eqV S a b = some c) (ra : RD K ρ H a x) (rb : RD K ρ H b y) :
    ∃ d e, Dp K H x d ∧ Dp K H y e ∧ SeqAt.shaped d = true ∧ SeqAt.shaped e = true ∧ PyData.eqv d e = c := by
  unfold eqV at e
  split at e
  · rename_i d f h1 h2
    split at e
    · rename_i ho
      cases e
      rw [Bool.and_eq_true] at ho
      exact ⟨py d, py f, flat1_at rs h1 ho.1 ra, flat1_at rs h2 ho.2 rb, shaped_of ho.1, shaped_of ho.2, eq_py 60 d f ho.1 ho.2⟩
    · cases e
  · cases e
theorem or_eq (hu : X.A.units + 64 < cLine) : OpR X (compareOp .Eq) (w2 X.K cl E vEq) := by
  refine OpR.siz (op_eqD hu) fun x y H Q z h => ?_
  obtain ⟨ρ, S, a, b, rs, ra, rb, h⟩ := h
  unfold vEq vCmp at h
  split at h
  · rename_i c hc
    obtain ⟨d, e, h1, h2, h3, h4, h5⟩ := eqV_at rs hc ra rb
    subst h5
    exact ⟨d, e, h1, h2, h3, h4, ok_val rs h RD.bl⟩
  · exact h.elim
theorem or_ne (hu : X.A.units + 64 < cLine) : OpR X (compareOp .NotEq) (w2 X.K cl E vNe) := by
  refine OpR.siz (op_neD hu) fun x y H Q z h => ?_
  obtain ⟨ρ, S, a, b, rs, ra, rb, h⟩ := h
  unfold vNe vCmp at h
  split at h
  · rename_i c hc
    have hc : (eqV S a b).map (!·) = some c := hc
    cases hq : eqV S a b with
    | none => rw [hq] at hc; cases hc
    | some k =>
      rw [hq] at hc
      cases hc
      obtain ⟨d, e, h1, h2, h3, h4, h5⟩ := eqV_at rs hq ra rb
      subst h5
      exact ⟨d, e, h1, h2, h3, h4, ok_val rs h RD.bl⟩
  · exact h.elim

/-! ### order of ints, of tuples of ints -/
def intOf : D → Option Int
  | .int i => some i
  | _ => none
def intsOf (ds : List D) : Option (List Int) := ds.mapM intOf
theorem intsOf_at {K : PySem.W.Frag} {ρ : Rho} {H : Hp} : ∀ {ds : List D} {ns : List Int} {vs : List V}, intsOf ds = some ns → RDs K ρ H ds vs → vs = ns.map V.int
  | [], ns, vs, e, r => by
    cases (show some [] = some ns from e)
    unfold RDs at r
    exact r
  | d :: ds, ns, vs, e, r => by
    unfold RDs at r
    obtain ⟨v, us, rfl, r1, r2⟩ := r
    unfold intsOf at e
    rw [List.mapM_cons] at e
    cases d with
    | int i =>
      cases h : List.mapM intOf ds with
      | none => rw [h] at e; cases e
      | some ms =>
        rw [h] at e
        cases (show some (i :: ms) = some ns from e)
        rw [r1.ofInt, intsOf_at (ds := ds) h r2]
        rfl
    | _ => cases e
def ordV (f : Int → Int → Bool) (g : List Int → List Int → Option Bool) : D → D → Store → Option Bool
  | .int i, .int j, _ => some (f i j)
  | .tup xs, .tup ys, _ => match intsOf xs, intsOf ys with
    | some a, some b => g a b
    | _, _ => none
  | _, _, _ => none
def vLt : V2 := vCmp (ordV (fun i j => decide (i < j)) fun a b => some (HT.lexLt a b))
def vLe : V2 := vCmp (ordV (fun i j => decide (i ≤ j)) fun _ _ => none)
def vGt : V2 := vCmp (ordV (fun i j => decide (j < i)) fun _ _ => none)
def vGe : V2 := vCmp (ordV (fun i j => decide (j ≤ i)) fun _ _ => none)
theorem or_ordI {f : Int → Int → Bool} {g : Value → Value → Sem Value} (h : OpR X g (rI0 fun i j => .bl (f i j))) : OpR X g (w2 X.K cl E (vCmp (ordV f fun _ _ => none))) := by
  refine OpR.siz h fun x y H Q z q => ?_
  obtain ⟨ρ, S, a, b, rs, ra, rb, q⟩ := q
  unfold vCmp at q
  split at q
  · rename_i c hc
    unfold ordV at hc
    split at hc
    · cases hc
      cases ra.ofInt; cases rb.ofInt
      exact ⟨_, _, rfl, rfl, ok_val rs q RD.bl⟩
    · split at hc <;> cases hc
    · cases hc
  · exact q.elim
theorem or_le : OpR X (compareOp .LtE) (w2 X.K cl E vLe) := or_ordI op_le
theorem or_gt : OpR X (compareOp .Gt) (w2 X.K cl E vGt) := or_ordI op_gt
theorem or_ge : OpR X (compareOp .GtE) (w2 X.K cl E vGe) := or_ordI op_ge
theorem or_lt (hu : X.A.units < cLine) : OpR X (compareOp .Lt) (w2 X.K cl E vLt) := by
  refine OpR.cases fun x y H Q z q => ?_
  obtain ⟨ρ, S, a, b, rs, ra, rb, q⟩ := q
  unfold vLt vCmp at q
  split at q
  · rename_i c hc
    unfold ordV at hc
    split at hc
    · cases hc
      cases ra.ofInt; cases rb.ofInt
      exact ⟨_, op_lt, _, _, rfl, rfl, ok_val rs q RD.bl⟩
    · split at hc
      · rename_i e1 e2
        cases hc
        obtain ⟨a, vs, rfl, h1, q1⟩ := ra.tupT
        obtain ⟨b, us, rfl, h2, q2⟩ := rb.tupT
        rw [intsOf_at e1 q1] at h1
        rw [intsOf_at e2 q2] at h2
        exact ⟨_, op_ltT hu, a, b, _, _, rfl, rfl, h1, h2, ok_val rs q RD.bl⟩
      · cases hc
    · cases hc
  · exact q.elim

/-! ### is -/
def isB : D → D → Option Bool
  | a, .non => some (match a with
    | .non => true
    | _ => false)
  | a, .bl b => some (match a with
    | .bl c => c == b
    | _ => false)
  | _, _ => none
def vIs : V2 := vCmp fun a b _ => isB a b
def vIsNot : V2 := vCmp fun a b _ => (isB a b).map (!·)
theorem isB_at {K : PySem.W.Frag} {ρ : Rho} {H : Hp} {a b : D} {c : Bool} {x y : V} {v u : Value} (e : isB a b = some c) (ra : RD K ρ H a x) (rb : RD K ρ H b y) (rx : RelV x v) (ry : RelV y u) : plainIs v u = true ∧ (v == u) = c := by
  have sh : ∀ {w : V}, RD K ρ H a w → w = .non ∧ a = .non ∨ (∃ k, w = .bl k ∧ a = .bl k) ∨ (a ≠ .non ∧ (∀ k, a ≠ .bl k) ∧ ((∃ i, w = .int i) ∨ (∃ i, w = .str i) ∨ ∃ i, w = .ref i)) := by
    intro w r
    cases a with
    | non => exact .inl ⟨r.ofNon, rfl⟩
    | bl k => exact .inr (.inl ⟨k, r.ofBl, rfl⟩)
    | int i => exact .inr (.inr ⟨fun z => (by cases z), fun k z => (by cases z), .inl ⟨i, r.ofInt⟩⟩)
    | str i => exact .inr (.inr ⟨fun z => (by cases z), fun k z => (by cases z), .inr (.inl ⟨i, r.ofStr⟩)⟩)
    | tup ds => obtain ⟨p, _, e, _⟩ := r.tupT; exact .inr (.inr ⟨fun z => (by cases z), fun k z => (by cases z), .inr (.inr ⟨p, e⟩)⟩)
    | lst ds => obtain ⟨p, _, e, _⟩ := r.lstL; exact .inr (.inr ⟨fun z => (by cases z), fun k z => (by cases z), .inr (.inr ⟨p, e⟩)⟩)
    | ref n => unfold RD at r; obtain ⟨p, e, _⟩ := r; exact .inr (.inr ⟨fun z => (by cases z), fun k z => (by cases z), .inr (.inr ⟨p, e⟩)⟩)
    | scr n => obtain ⟨p, e, _⟩ := r.ofScr; exact .inr (.inr ⟨fun z => (by cases z), fun k z => (by cases z), .inr (.inr ⟨p, e⟩)⟩)
  cases b with
  | non =>
    cases rb.ofNon
    cases (show u = Value.none from ry)
    rcases sh ra with ⟨rfl, rfl⟩ | ⟨k, rfl, rfl⟩ | ⟨n1, n2, ⟨i, rfl⟩ | ⟨i, rfl⟩ | ⟨i, rfl⟩⟩
    · cases (show v = Value.none from rx); cases e; exact ⟨rfl, rfl⟩
    · cases (show v = Value.bool k from rx); cases e; exact ⟨rfl, rfl⟩
    all_goals
      have e' : c = false := by
        cases a with
        | non => exact absurd rfl n1
        | _ => cases e; rfl
      subst e'
    · obtain ⟨t, rfl⟩ := rx; exact ⟨rfl, rfl⟩
    · obtain ⟨t, rfl⟩ := rx; exact ⟨rfl, rfl⟩
    · cases (show v = Value.ref i from rx); exact ⟨rfl, rfl⟩
  | bl b =>
    cases rb.ofBl
    cases (show u = Value.bool b from ry)
    rcases sh ra with ⟨rfl, rfl⟩ | ⟨k, rfl, rfl⟩ | ⟨n1, n2, ⟨i, rfl⟩ | ⟨i, rfl⟩ | ⟨i, rfl⟩⟩
    · cases (show v = Value.none from rx); cases e; exact ⟨rfl, rfl⟩
    · cases (show v = Value.bool k from rx); cases e
      refine ⟨rfl, ?_⟩
      cases k <;> cases b <;> rfl
    all_goals
      have e' : c = false := by
        cases a with
        | bl k => exact absurd rfl (n2 k)
        | _ => cases e; rfl
      subst e'
    · obtain ⟨t, rfl⟩ := rx; exact ⟨rfl, rfl⟩
    · obtain ⟨t, rfl⟩ := rx; exact ⟨rfl, rfl⟩
    · cases (show v = Value.ref i from rx); exact ⟨rfl, rfl⟩
  | _ => cases e
theorem or_is : OpR X (compareOp .Is) (w2 X.K cl E vIs) := by
  intro pins s σ H x y v u Q I rx ry q
  obtain ⟨ρ, S, a, b, rs, ra, rb, q⟩ := q
  unfold vIs vCmp at q
  split at q
  · rename_i c hc
    obtain ⟨h1, h2⟩ := isB_at hc ra rb rx ry
    exact wpAny_is_plain h1 ⟨.bl c, H, I, by rw [h2]; rfl, ok_val rs q RD.bl (siz_of I.hok)⟩
  · exact q.elim
theorem or_isNot : OpR X (compareOp .IsNot) (w2 X.K cl E vIsNot) := by
  intro pins s σ H x y v u Q I rx ry q
  obtain ⟨ρ, S, a, b, rs, ra, rb, q⟩ := q
  unfold vIsNot vCmp at q
  split at q
  · rename_i c hc
    have hc : (isB a b).map (!·) = some c := hc
    cases hq : isB a b with
    | none => rw [hq] at hc; cases hc
    | some k =>
      rw [hq] at hc
      cases hc
      obtain ⟨h1, h2⟩ := isB_at hq ra rb rx ry
      exact wpAny_isNot_plain h1 ⟨.bl (!k), H, I, by rw [h2]; rfl, ok_val rs q RD.bl (siz_of I.hok)⟩
  · exact q.elim

/-! ### in -/
def kEq {κ : Type} [DecidableEq κ] (kf : D → Option κ) (a b : D) : Bool := match kf a, kf b with
  | some k, some j => decide (k = j)
  | _, _ => false
def keyK (t : Bool) (a b : D) : Bool := match t with
  | false => kEq keyD a b
  | true => kEq keyT a b
def isKey : Bool → D → Bool
  | false, a => (keyD a).isSome
  | true, a => (keyT a).isSome
def dLook (t : Bool) (kvs : List (D × D)) (k : D) : Option D := (kvs.find? fun p => keyK t p.1 k).map (·.2)
def inB (S : Store) (a : D) : D → Option Bool
  | .ref n => match S[n]? with
    | some (.lst xs) => if okD 60 a && okD 60 (.lst xs) then some (xs.any fun z => eqF 60 z a) else none
    | some (.dic t kvs) => if isKey t a then some (dLook t kvs a).isSome else none
    | none => none
  | .lst xs => if okD 60 a && okD 60 (.lst xs) then some (xs.any fun z => eqF 60 z a) else none
  | .tup xs => if okD 60 a && okD 60 (.tup xs) then some (xs.any fun z => eqF 60 z a) else none
  | _ => none
def vIn : V2 := vCmp fun a b S => inB S a b
def vNotIn : V2 := vCmp fun a b S => (inB S a b).map (!·)
theorem okD_up : ∀ (n : Nat) (d : D), okD n d = true → okD (n + 1) d = true
  | 0, d, h => by cases h
  | n + 1, d, h => by
    cases d with
    | tup xs =>
      have h : xs.all (okD n) = true := h
      show xs.all (okD (n + 1)) = true
      rw [List.all_eq_true] at h ⊢
      exact fun x hx => okD_up n x (h x hx)
    | lst xs =>
      have h : xs.all (okD n) = true := h
      show xs.all (okD (n + 1)) = true
      rw [List.all_eq_true] at h ⊢
      exact fun x hx => okD_up n x (h x hx)
    | ref _ => cases h
    | scr _ => cases h
    | _ => exact h
theorem any_py {n : Nat} {a : D} (ha : okD n a = true) : ∀ {xs : List D}, xs.all (okD n) = true → ((pys xs).any fun z => PyData.eqv z (py a)) = xs.any fun z => eqF n z a
  | [], _ => rfl
  | x :: xs, h => by
    rw [List.all_cons, Bool.and_eq_true] at h
    simp only [pys, List.any_cons, eq_py n x a h.1 ha, any_py ha h.2]
end
end Mir
end

section
set_option Elab.async false
set_option linter.all false
set_option maxRecDepth 100000
/-! Mir3: in, truth, subscripts, stores, built-ins by values. -/
namespace Mir
open PySem PySem.Spec L2
open PyProof.Rows (b2i)
section
variable {K : PySem.W.Frag} {cl : Nat → Addr} {E : XK} {ρ : Rho} {H : Hp} {S : Store} {Q : VK} {X : Cx}

/-! ### keys -/
theorem keyD_at {d : D} {k : Key} {v : V} (e : keyD d = some k) (r : RD K ρ H d v) : v = kV k := by
  cases d with
  | int i => cases e; exact r.ofInt
  | str x => cases e; exact r.ofStr
  | _ => cases e
theorem keysD_at : ∀ {ds : List D} {ks : List Key} {vs : List V}, ds.mapM keyD = some ks → RDs K ρ H ds vs → vs = ks.map kV
  | [], ks, vs, e, r => by
    cases (show some [] = some ks from e)
    unfold RDs at r
    exact r
  | d :: ds, ks, vs, e, r => by
    unfold RDs at r
    obtain ⟨v, us, rfl, r1, r2⟩ := r
    rw [List.mapM_cons] at e
    cases h0 : keyD d with
    | none => rw [h0] at e; cases e
    | some k0 =>
      rw [h0] at e
      cases h : List.mapM keyD ds with
      | none => rw [h] at e; cases e
      | some ms =>
        rw [h] at e
        cases (show some (k0 :: ms) = some ks from e)
        rw [keyD_at h0 r1, keysD_at (ds := ds) h r2]
        rfl
theorem keyT_at {d : D} {ks : List Key} {v : V} (e : keyT d = some ks) (r : RD K ρ H d v) : ∃ p, v = .ref p ∧ H p = some (.tup (ks.map kV)) := by
  cases d with
  | tup ds =>
    unfold RD at r
    obtain ⟨a, vs, rfl, h, q⟩ := r
    rw [keysD_at (show ds.mapM keyD = some ks from e) q] at h
    exact ⟨a, rfl, h.1⟩
  | _ => cases e
section
variable {κ : Type} [DecidableEq κ] {kf : D → Option κ}
theorem look_at {kvs : List (D × D)} {es : List (κ × V)} (r : RKV K ρ H kf kvs es) {d : D} {k : κ} (hk : kf d = some k) :
    match (kvs.find? fun p => kEq kf p.1 d).map (·.2) with
    | some x => ∃ v, valV es k = some v ∧ RD K ρ H x v
    | none => valV es k = none := by
  induction r with
  | nil => rfl
  | @cons p q kvs es h t ih =>
    obtain ⟨h1, h2⟩ := h
    have e : kEq kf p.1 d = decide (q.1 = k) := by unfold kEq; rw [h1, hk]
    by_cases hq : q.1 = k
    · rw [List.find?_cons, e, decide_eq_true hq]
      exact ⟨q.2, valV_pos hq, h2⟩
    · rw [List.find?_cons, e, decide_eq_false hq, valV_neg hq]
      exact ih
theorem put_at {kvs : List (D × D)} {es : List (κ × V)} (r : RKV K ρ H kf kvs es) {d x : D} {k : κ} {v : V} (hk : kf d = some k) (hx : RD K ρ H x v) :
    RKV K ρ H kf (if (kvs.find? fun p => kEq kf p.1 d).isSome then kvs.map fun p => if kEq kf p.1 d then (p.1, x) else p else kvs ++ [(d, x)]) (putK es k v) := by
  have hl := look_at r hk
  have hrep : RKV K ρ H kf (kvs.map fun p => if kEq kf p.1 d then (p.1, x) else p) (es.map fun kv => if kv.1 = k then (kv.1, v) else kv) := by
    clear hl
    induction r with
    | nil => exact .nil
    | @cons p q kvs es h t ih =>
      obtain ⟨h1, h2⟩ := h
      have e : kEq kf p.1 d = decide (q.1 = k) := by unfold kEq; rw [h1, hk]
      refine .cons ?_ ih
      simp only [e]
      by_cases hq : q.1 = k
      · rw [if_pos (decide_eq_true hq), if_pos hq]; exact ⟨h1, hx⟩
      · rw [if_neg (by simpa using hq), if_neg hq]; exact ⟨h1, h2⟩
  have hap : RKV K ρ H kf (kvs ++ [(d, x)]) (es ++ [(k, v)]) := by
    clear hl hrep
    induction r with
    | nil => exact .cons ⟨hk, hx⟩ .nil
    | cons h t ih => exact .cons h ih
  cases hf : kvs.find? fun p => kEq kf p.1 d with
  | none =>
    rw [hf] at hl
    rw [putK_new v hl]
    exact hap
  | some p =>
    rw [hf] at hl
    obtain ⟨w', hw, _⟩ := hl
    have ha : (es.any fun kv => decide (kv.1 = k)) = true := by rw [valV_any, hw]; rfl
    unfold putK
    rw [if_pos ha]
    exact hrep
end
theorem dLook_f (kvs : List (D × D)) (k : D) : dLook false kvs k = (kvs.find? fun p => kEq keyD p.1 k).map (·.2) := rfl
theorem dLook_t (kvs : List (D × D)) (k : D) : dLook true kvs k = (kvs.find? fun p => kEq keyT p.1 k).map (·.2) := rfl
def dPut (t : Bool) (kvs : List (D × D)) (k x : D) : List (D × D) :=
  if (kvs.find? fun p => keyK t p.1 k).isSome then kvs.map fun p => if keyK t p.1 k then (p.1, x) else p else kvs ++ [(k, x)]
/-- what a dict in the store holds -/
theorem dget_at (rs : RelS K ρ S H) {n : Nat} {t : Bool} {kvs : List (D × D)} {a : Addr} (hn : ρ.l[n]? = some a) (hs : S[n]? = some (.dic t kvs)) {k : D} {y : V} (hk : isKey t k = true) (ry : RD K ρ H k y) :
    match dLook t kvs k with
    | some x => ∃ v, DGet H a y (some v) ∧ RD K ρ H x v
    | none => DGet H a y none := by
  obtain ⟨h, e, q⟩ := rs.ob n a _ hn hs
  cases t with
  | false =>
    obtain ⟨es, rfl, r⟩ := q
    obtain ⟨kk, hkk⟩ := Option.isSome_iff_exists.mp (show (keyD k).isSome = true from hk)
    have z := look_at r hkk
    rw [dLook_f]
    cases keyD_at hkk ry
    generalize (kvs.find? fun p => kEq keyD p.1 k).map (·.2) = o at z
    cases o with
    | none => have g := DGet.k (k := kk) e; rw [show valV es kk = none from z] at g; exact g
    | some x =>
      obtain ⟨v, hv, rv⟩ := z
      have g := DGet.k (k := kk) e
      rw [hv] at g
      exact ⟨v, g, rv⟩
  | true =>
    obtain ⟨es, rfl, r⟩ := q
    obtain ⟨kk, hkk⟩ := Option.isSome_iff_exists.mp (show (keyT k).isSome = true from hk)
    have z := look_at r hkk
    rw [dLook_t]
    obtain ⟨p, rfl, hp⟩ := keyT_at hkk ry
    generalize (kvs.find? fun p => kEq keyT p.1 k).map (·.2) = o at z
    cases o with
    | none => have g := DGet.t e hp; rw [show valV es kk = none from z] at g; exact g
    | some x =>
      obtain ⟨v, hv, rv⟩ := z
      have g := DGet.t e hp
      rw [hv] at g
      exact ⟨v, g, rv⟩

/-! ### in -/
theorem in_core (hu : X.A.units + 65 < cLine) {pins : List (Addr × Obj)} {s : Shared} {σ : L2.St} {a b : D} {c : Bool} {x y : V} {v u : Value} {Ex : Value → Shared → Prop} (I : Inv X pins σ H s) (rs : RelS X.K ρ S H) (ra : RD X.K ρ H a x) (rb : RD X.K ρ H b y) (rx : RelV x v) (ry : RelV y u) (hc : inB S a b = some c) {Qv : Value → Shared → Prop} :
    ((∀ s', Inv X pins σ H s' → Qv (.bool c) s') → wpAny (model X.prog X.w) X.A (compareOp .In v u) Qv Ex s) ∧ ((∀ s', Inv X pins σ H s' → Qv (.bool (!c)) s') → wpAny (model X.prog X.w) X.A (compareOp .NotIn v u) Qv Ex s) := by
  have data : ∀ (xs : List D) (p : Addr) (vs : List V) (tup : Bool), (okD 60 a && okD 60 (if tup then .tup xs else .lst xs)) = true → (xs.any fun z => eqF 60 z a) = c → y = .ref p → (if tup then SqT X.K H p vs else SqL X.K H p vs) → RDs X.K ρ H xs vs →
      ((∀ s', Inv X pins σ H s' → Qv (.bool c) s') → wpAny (model X.prog X.w) X.A (compareOp .In v u) Qv Ex s) ∧ ((∀ s', Inv X pins σ H s' → Qv (.bool (!c)) s') → wpAny (model X.prog X.w) X.A (compareOp .NotIn v u) Qv Ex s) := by
    intro xs p vs tup ho hcc ey hs qs
    subst ey
    rw [Bool.and_eq_true] at ho
    obtain ⟨as, r1⟩ := Dp.reads I (py a) x v (dp_of 60 a x ho.1 ra) rx
    have sd := shaped_of ho.1
    have hall : xs.all (okD 60) = true := by
      have : xs.all (okD 59) = true := by cases tup <;> exact ho.2
      rw [List.all_eq_true] at this ⊢
      exact fun z hz => okD_up 59 z (this z hz)
    have hany := any_py ho.1 hall
    rw [hcc] at hany
    have hD : DpAll X.K H vs (pys xs) := by
      have L : ∀ (xs : List D) (vs : List V), xs.all (okD 60) = true → RDs X.K ρ H xs vs → DpAll X.K H vs (pys xs) := by
        intro xs
        induction xs with
        | nil => intro vs _ r; unfold RDs at r; subst r; exact DpAll.nil
        | cons x xs ih =>
          intro vs h r
          rw [List.all_cons, Bool.and_eq_true] at h
          unfold RDs at r
          obtain ⟨v, us, rfl, r1, r2⟩ := r
          exact DpAll.cons (dp_of 60 x v h.1 r1) (ih us h.2 r2)
      exact L xs vs hall qs
    have hlay : PyData.canLayAll0 (pys xs) = true := by
      cases tup with
      | true => simpa [py, PyData.canLay0] using (ok_py 60 (.tup xs) ho.2).1
      | false => simpa [py, PyData.canLay0] using (ok_py 60 (.lst xs) ho.2).1
    cases tup with
    | true =>
      obtain ⟨bs, r2⟩ := Dp.reads I (.tuple (pys xs)) (.ref p) u (Dp.tup hs hD) ry
      exact ⟨fun q => SeqAt.in_tuple_reads r2 r1 hlay (SeqAt.canLay_of_shaped sd) (PyProof.Rows.room_in_shaped sd hu) (by rw [hany]; exact q s I), fun q => SeqAt.notIn_tuple_reads r2 r1 hlay (SeqAt.canLay_of_shaped sd) (PyProof.Rows.room_in_shaped sd hu) (by rw [hany]; exact q s I)⟩
    | false =>
      obtain ⟨bs, r2⟩ := Dp.reads I (.list (pys xs)) (.ref p) u (Dp.lst hs hD) ry
      exact ⟨fun q => SeqAt.in_list_reads r2 r1 hlay (SeqAt.canLay_of_shaped sd) (PyProof.Rows.room_in_shaped sd hu) (by rw [hany]; exact q s I), fun q => SeqAt.notIn_list_reads r2 r1 hlay (SeqAt.canLay_of_shaped sd) (PyProof.Rows.room_in_shaped sd hu) (by rw [hany]; exact q s I)⟩
  cases b with
  | lst xs =>
    simp only [inB] at hc
    split at hc
    · rename_i ho
      obtain ⟨p, vs, e, hs, qs⟩ := rb.lstL
      exact data xs p vs false ho (Option.some.inj hc) e hs qs
    · cases hc
  | tup xs =>
    simp only [inB] at hc
    split at hc
    · rename_i ho
      obtain ⟨p, vs, e, hs, qs⟩ := rb.tupT
      exact data xs p vs true ho (Option.some.inj hc) e hs qs
    · cases hc
  | ref n =>
    simp only [inB] at hc
    split at hc
    · rename_i xs hS
      split at hc
      · rename_i ho
        obtain ⟨p, vs, e, hs, qs⟩ := list_at rs (d := .ref n) (xs := xs) (by simp only [listOf, hS]) rb
        exact data xs p vs false ho (Option.some.inj hc) e (SqL.of hs) qs
      · cases hc
    · rename_i t kvs hS
      split at hc
      · rename_i hk
        unfold RD at rb
        obtain ⟨p, rfl, hn⟩ := rb
        cases (show u = Value.ref p from ry)
        have z := dget_at rs hn hS hk ra
        have hu1 : X.A.units + 1 < cLine := by omega
        cases hl : dLook t kvs a with
        | none =>
          rw [hl] at z hc
          cases hc
          exact ⟨fun q => d_in hu1 I z rx fun s' I' => q s' I', fun q => d_notIn hu1 I z rx fun s' I' => q s' I'⟩
        | some d =>
          rw [hl] at z hc
          obtain ⟨w', g, _⟩ := z
          cases hc
          exact ⟨fun q => d_in hu1 I g rx fun s' I' => q s' I', fun q => d_notIn hu1 I g rx fun s' I' => q s' I'⟩
      · cases hc
    · cases hc
  | _ => cases hc
theorem or_in (hu : X.A.units + 65 < cLine) : OpR X (compareOp .In) (w2 X.K cl E vIn) := by
  intro pins s σ H x y v u Q I rx ry q
  obtain ⟨ρ, S, a, b, rs, ra, rb, q⟩ := q
  unfold vIn vCmp at q
  split at q
  · rename_i c hc
    exact (in_core hu I rs ra rb rx ry hc).1 fun s' I' => ⟨.bl c, H, I', rfl, ok_val rs q RD.bl (siz_of I.hok)⟩
  · exact q.elim
theorem or_notIn (hu : X.A.units + 65 < cLine) : OpR X (compareOp .NotIn) (w2 X.K cl E vNotIn) := by
  intro pins s σ H x y v u Q I rx ry q
  obtain ⟨ρ, S, a, b, rs, ra, rb, q⟩ := q
  unfold vNotIn vCmp at q
  split at q
  · rename_i c hc
    have hc : (inB S a b).map (!·) = some c := hc
    cases hq : inB S a b with
    | none => rw [hq] at hc; cases hc
    | some k =>
      rw [hq] at hc
      cases hc
      exact (in_core hu I rs ra rb rx ry hq).2 fun s' I' => ⟨.bl (!k), H, I', rfl, ok_val rs q RD.bl (siz_of I.hok)⟩
  · exact q.elim

/-! ### truth -/
def truD (S : Store) : D → Option Bool
  | .non => some false
  | .bl b => some b
  | .int i => some (i != 0)
  | .str y => if y.length ≤ 16777216 then some ((y.length : Int) != 0) else none
  | .tup xs => some (!xs.isEmpty)
  | .lst xs => some (!xs.isEmpty)
  | .ref n => match S[n]? with
    | some (.lst xs) => some (!xs.isEmpty)
    | some (.dic false kvs) => some (!kvs.isEmpty)
    | _ => none
  | .scr _ => none
theorem paired_empty {α β : Type} {G : α → β → Prop} {xs : List α} {ys : List β} (h : Paired G xs ys) : ys.isEmpty = xs.isEmpty := by cases h <;> rfl
theorem rds_empty {ds : List D} {vs : List V} (h : RDs K ρ H ds vs) : vs.isEmpty = ds.isEmpty := by
  have := h.length
  cases ds <;> cases vs <;> simp_all
theorem truD_at (rs : RelS K ρ S H) {d : D} {v : V} {c : Bool} (h : truD S d = some c) (r : RD K ρ H d v) : TruV K v H c := by
  have hsl := sizeLine_eq
  cases d with
  | non => cases r.ofNon; cases h; exact rfl
  | bl b => cases r.ofBl; cases h; exact rfl
  | int i => cases r.ofInt; cases h; exact rfl
  | str y =>
    cases r.ofStr
    simp only [truD] at h
    split at h
    · cases h; exact ⟨by omega, rfl⟩
    · cases h
  | tup xs => obtain ⟨a, vs, rfl, hs, q⟩ := r.tupT; cases h; exact .inr (.inl ⟨vs, hs, by rw [rds_empty q]⟩)
  | lst xs => obtain ⟨a, vs, rfl, hs, q⟩ := r.lstL; cases h; exact .inl ⟨vs, hs, by rw [rds_empty q]⟩
  | ref n =>
    unfold RD at r
    obtain ⟨a, rfl, hn⟩ := r
    simp only [truD] at h
    split at h
    · rename_i xs hS
      cases h
      obtain ⟨o, e, vs, rfl, q⟩ := rs.ob n a _ hn hS
      exact .inl ⟨vs, SqL.of e, by rw [rds_empty q]⟩
    · rename_i kvs hS
      cases h
      obtain ⟨o, e, es, rfl, q⟩ := rs.ob n a _ hn hS
      exact .inr (.inr ⟨es, e, by rw [paired_empty q]⟩)
    · cases h
  | scr ns => cases h

/-! ### a[i] -/
def vIx : V2 := fun a b S => match a, b with
  | .tup xs, .int i => match atI xs i with
    | some d => .ok d S
    | none => .bad
  | .lst xs, .int i => match atI xs i with
    | some d => .ok d S
    | none => .bad
  | .scr ns, .int i => match atI ns i with
    | some d => .ok (.int d) S
    | none => .bad
  | .str z, .int i => if z.length ≤ 16777216 then (match atI z.cps.toList i with
    | some c => .ok (.str ⟨#[c]⟩) S
    | none => .bad) else .bad
  | .ref n, k => match S[n]? with
    | some (.lst xs) => match k with
      | .int i => match atI xs i with
        | some d => .ok d S
        | none => .bad
      | _ => .bad
    | some (.dic t kvs) => if isKey t k then (match dLook t kvs k with
      | some d => .ok d S
      | none => .bad) else .bad
    | none => .bad
  | _, _ => .bad
theorem atI_rds {xs : List D} {vs : List V} {i : Int} {d : D} (q : RDs K ρ H xs vs) (h : atI xs i = some d) : ∃ v, atI vs i = some v ∧ RD K ρ H d v := by
  unfold atI at h ⊢
  rw [← q.length]
  cases e : ixN xs.length i with
  | none => rw [e] at h; cases h
  | some j => rw [e] at h; exact q.get h
theorem IxR.cases {X : Cx} {r : R2} (h : ∀ x y H Q, Siz H → r x y H Q → ∃ r1 : R2, IxR X r1 ∧ r1 x y H (fun v H' => Siz H' → Q v H')) : IxR X r := by
  intro value slice pins s σ H x y v u Q I rx ry q hs
  obtain ⟨r1, h1, q1⟩ := h x y H Q (siz_of I.hok) q
  exact thn (h1 value slice pins s σ H x y v u _ I rx ry q1 hs) fun v s' ⟨x, H', I', r, q'⟩ => ⟨x, H', I', r, q' (siz_of I'.hok)⟩
def rIxDict : R2 := fun x y H Q => ∃ a v, x = .ref a ∧ DGet H a y (some v) ∧ Q v H
theorem ix_dict (hu : X.A.units + 1 < cLine) : IxR X rIxDict := by
  intro value slice pins s σ H x y v u Q I rx ry h hs
  obtain ⟨a, z, rfl, g, q⟩ := h
  cases (show v = Value.ref a from rx)
  exact PyProof.Rows.tail_any (dict_typeIs I g) PySem.F.slot_dict_getitem.lookup (d_getItem hu I g ry fun w' s' I' r' => ⟨z, H, I', r', q⟩) hs
theorem or_ix (hu : X.A.units + 1 < cLine) : IxR X (w2 X.K cl E vIx) := by
  have hsl := sizeLine_eq
  refine IxR.cases fun x y H Q z q => ?_
  obtain ⟨ρ, S, a, b, rs, ra, rb, q⟩ := q
  unfold vIx at q
  split at q
  · split at q
    · rename_i hd
      obtain ⟨p, vs, rfl, hs, qs⟩ := ra.tupT
      cases rb.ofInt
      obtain ⟨w, hw, rw'⟩ := atI_rds qs hd
      exact ⟨_, ix_tup, p, vs, _, w, rfl, rfl, hs, hw, ok_val rs q rw'⟩
    · exact q.elim
  · split at q
    · rename_i hd
      obtain ⟨p, vs, rfl, hs, qs⟩ := ra.lstL
      cases rb.ofInt
      obtain ⟨w, hw, rw'⟩ := atI_rds qs hd
      exact ⟨_, ix_list, p, vs, _, w, rfl, rfl, hs, hw, ok_val rs q rw'⟩
    · exact q.elim
  · split at q
    · rename_i ns i _ d hd
      obtain ⟨p, rfl, hs⟩ := ra.ofScr
      cases rb.ofInt
      refine ⟨_, ix_list, p, ns.map V.int, _, .int d, rfl, rfl, hs, ?_, ok_val rs q RD.int⟩
      unfold atI at hd ⊢
      rw [List.length_map]
      cases e : ixN ns.length i with
      | none => rw [e] at hd; cases hd
      | some j =>
        rw [e] at hd
        show (ns.map V.int)[j]? = _
        rw [List.getElem?_map, show ns[j]? = some d from hd]
        rfl
    · exact q.elim
  · split at q
    · split at q
      · rename_i hd
        cases ra.ofStr; cases rb.ofInt
        exact ⟨_, ix_str, _, _, _, rfl, rfl, by omega, hd, ok_val rs q RD.str⟩
      · exact q.elim
    · exact q.elim
  · split at q
    · rename_i xs hS
      split at q
      · split at q
        · rename_i hd
          obtain ⟨p, vs, rfl, hs, qs⟩ := list_at rs (d := .ref _) (xs := xs) (by simp only [listOf, hS]) ra
          cases rb.ofInt
          obtain ⟨w, hw, rw'⟩ := atI_rds qs hd
          exact ⟨_, ix_list, p, vs, _, w, rfl, rfl, SqL.of hs, hw, ok_val rs q rw'⟩
        · exact q.elim
      · exact q.elim
    · rename_i t kvs hS
      split at q
      · rename_i hk
        unfold RD at ra
        obtain ⟨p, rfl, hn⟩ := ra
        have g := dget_at rs hn hS hk rb
        split at q
        · rename_i d hd
          rw [hd] at g
          obtain ⟨w, g1, rw'⟩ := g
          exact ⟨_, ix_dict hu, p, w, rfl, g1, ok_val rs q rw'⟩
        · exact q.elim
      · exact q.elim
    · exact q.elim
  · exact q.elim

/-! ### a[i:j] -/
def cutD (xs : List D) (lo hi : Option Int) : List D := (xs.drop (HT.sIx xs.length 0 lo)).take (HT.sIx xs.length xs.length hi - HT.sIx xs.length 0 lo)
def vSl (mt : Bool) (a : D) (lo hi : Option Int) (S : Store) : Out D := match a with
  | .tup xs => .ok (.tup (cutD xs lo hi)) S
  | d => match listOf S d with
    | some xs => mkL mt (cutD xs lo hi) S
    | none => .bad
def wSl (K : PySem.W.Frag) (cl : Nat → Addr) (E : XK) (mt : Bool) : V → Option Int → Option Int → Hp → VK → Prop := fun x lo hi H Q => ∃ ρ S a, RelS K ρ S H ∧ RD K ρ H a x ∧ OKo K cl E ρ H (RD K) Q (vSl mt a lo hi S)
theorem cut_rds {xs : List D} {vs : List V} (q : RDs K ρ H xs vs) (lo hi : Option Int) : RDs K ρ H (cutD xs lo hi) (cutV vs lo hi) := by
  unfold cutD cutV
  rw [← q.length]
  exact (q.drop _).take _
theorem sr_cut {mt : Bool} : SlR X (wSl X.K cl E mt) := by
  intro pins s σ H x v vl vu lo hi sl Q I rx hs pl pu h
  obtain ⟨ρ, S, a, rs, ra, h⟩ := h
  have fin : ∀ {r : V → Option Int → Option Int → Hp → VK → Prop}, SlR X r → r x lo hi H (fun v H' => Siz H' → Q v H') →
      ∃ T id, typeLookup (.type T) "__getitem__" = pure (some (.builtin id)) ∧ s.TypeIs v T ∧ wpAny (model X.prog X.w) X.A (getItem v (.ref sl)) (EP X pins σ Q) X.xe s := by
    intro r hr q
    obtain ⟨T, id, h1, h2, h3⟩ := hr pins s σ H x v vl vu lo hi sl _ I rx hs pl pu q
    exact ⟨T, id, h1, h2, thn h3 fun v s' ⟨x, H', I', r, q'⟩ => ⟨x, H', I', r, q' (siz_of I'.hok)⟩⟩
  unfold vSl at h
  split at h
  · rename_i xs
    obtain ⟨p, vs, rfl, hsq, qs⟩ := ra.tupT
    refine fin sl_tupA ⟨p, vs, rfl, hsq, fun e => ?_, fun _ => tup_ok rs (cut_rds qs lo hi) h⟩
    have l := qs.length
    have ec : cutD xs lo hi = xs := by
      unfold cutD
      rw [l, e.1, e.2]
      rw [List.drop_zero, Nat.sub_zero, ← l, List.take_length]
    rw [ec] at h
    exact ok_val rs h ra
  · split at h
    · rename_i xs hl
      obtain ⟨p, vs, rfl, hsq, qs⟩ := list_at rs hl ra
      exact fin sl_list ⟨p, vs, rfl, SqL.of hsq, mkL_ok rs (cut_rds qs lo hi) h⟩
    · exact h.elim
end
end Mir
end

section
set_option Elab.async false
set_option linter.all false
set_option maxRecDepth 100000
/-! Mir4: products, stores, unary, built-ins by values. -/
namespace Mir
open PySem PySem.Spec L2
section
variable {K : PySem.W.Frag} {cl : Nat → Addr} {E : XK} {ρ : Rho} {H : Hp} {S : Store} {Q : VK} {X : Cx}

theorem or_sub : OpR X (binaryOp .Sub) (w2 X.K cl E vSub) := or_int op_sub
theorem or_div : OpR X (binaryOp .FloorDiv) (w2 X.K cl E vDiv) := or_intIf divOk_ok op_fdivW
theorem or_mod : OpR X (binaryOp .Mod) (w2 X.K cl E vMod) := or_intIf modOk_ok op_mod
theorem or_pow : OpR X (binaryOp .Pow) (w2 X.K cl E vPow) := or_intIf powOk_ok op_pow
theorem or_shl : OpR X (binaryOp .LShift) (w2 X.K cl E vShl) := or_intIf powOk_ok op_shl
theorem or_shr : OpR X (binaryOp .RShift) (w2 X.K cl E vShr) := or_intIf shrOk_ok op_shr
theorem or_band : OpR X (binaryOp .BitAnd) (w2 X.K cl E vAnd) := or_int op_and
theorem or_bor : OpR X (binaryOp .BitOr) (w2 X.K cl E vOr) := or_int op_or
theorem or_bxor : OpR X (binaryOp .BitXor) (w2 X.K cl E vXor) := or_int op_xor
theorem op_mulM : OpR X (binaryOp .Mult) (rI (fun i j => mulOk i j = true) fun i j => .int (i * j)) := opI fun i j _ _ _ _ _ hc q => PyProof.Rows.mul_int q (mulOk_ok i j hc)
theorem or_mul {mt : Bool} : OpR X (binaryOp .Mult) (w2 X.K cl E (vMul mt)) := by
  have hsl := sizeLine_eq
  refine OpR.cases fun x y H Q z h => ?_
  obtain ⟨ρ, S, a, b, rs, ra, rb, h⟩ := h
  unfold vMul at h
  split at h
  · split at h
    · rename_i hc
      cases ra.ofInt; cases rb.ofInt
      exact ⟨_, op_mulM, _, _, rfl, rfl, hc, ok_val rs h RD.int⟩
    · exact h.elim
  · split at h
    · rename_i hc
      simp only [Bool.and_eq_true, decide_eq_true_eq] at hc
      obtain ⟨c1, ⟨c2, c3⟩, c4⟩ := hc
      have c4 := Nat.le_of_ble_eq_true c4
      obtain ⟨p, vs, rfl, hs, qs⟩ := ra.tupT
      cases rb.ofInt
      have l := qs.length
      refine ⟨_, op_repT, p, _, vs, rfl, rfl, hs, fun e => c1 ?_, c2, c3, by omega, tup_ok rs (qs.rep _) h⟩
      subst e
      exact List.eq_nil_of_length_eq_zero (by simpa using l)
    · exact h.elim
  · split at h
    · rename_i xs hl
      split at h
      · rename_i hc
        simp only [Bool.and_eq_true, decide_eq_true_eq] at hc
        obtain ⟨⟨c1, c2⟩, c3⟩ := hc
        have c2 := Nat.le_of_ble_eq_true c2
        obtain ⟨p, vs, rfl, hs, qs⟩ := list_at rs hl ra
        cases rb.ofInt
        have l := qs.length
        exact ⟨_, op_rep, p, _, vs, rfl, rfl, hs, by omega, by omega, by rw [← l]; omega, mkL_ok rs (qs.rep _) h⟩
      · exact h.elim
    · exact h.elim
  · exact h.elim
/-- in place: ints alone, and what a new value is -/
def vIadd : V2
  | .int i, .int j, S => .ok (.int (i + j)) S
  | .str i, .str j, S => if i.length + j.length ≤ 16777216 then .ok (.str (i ++ j)) S else .bad
  | _, _, _ => .bad
theorem or_iadd : OpR X (inplaceOp .Add) (w2 X.K cl E vIadd) := by
  have hsl := sizeLine_eq
  refine OpR.cases fun x y H Q z h => ?_
  obtain ⟨ρ, S, a, b, rs, ra, rb, h⟩ := h
  unfold vIadd at h
  split at h
  · cases ra.ofInt; cases rb.ofInt
    exact ⟨_, iop_add, _, _, rfl, rfl, ok_val rs h RD.int⟩
  · split at h
    · cases ra.ofStr; cases rb.ofStr
      exact ⟨_, iop_add_str, _, _, rfl, rfl, by omega, ok_val rs h RD.str⟩
    · exact h.elim
  · exact h.elim
def vImul : V2 := vIntIf (fun i j => Nat.ble i.natAbs 18446744073709551615) fun i j => i * j
theorem or_imul : OpR X (inplaceOp .Mult) (w2 X.K cl E vImul) := or_intIf (fun i j h => by
  have h := Nat.le_of_ble_eq_true h
  exact .inl ⟨by omega, by omega⟩) iop_mul
theorem or_isub : OpR X (inplaceOp .Sub) (w2 X.K cl E vSub) := or_int iop_sub
theorem or_ixor : OpR X (inplaceOp .BitXor) (w2 X.K cl E vXor) := or_int iop_xor
def vNeg : V1
  | .int i, S => .ok (.int (-i)) S
  | _, _ => .bad
theorem ur_neg : UnR X (unaryOp .USub) (w1 X.K cl E vNeg) := by
  refine UnR.siz un_neg fun x H Q z h => ?_
  obtain ⟨ρ, S, a, rs, ra, h⟩ := h
  unfold vNeg at h
  split at h
  · cases ra.ofInt
    exact ⟨_, rfl, ok_val rs h RD.int⟩
  · exact h.elim

/-! ### a[i] = v -/
def RU : Rho → Hp → Unit → Unit → Prop := fun _ _ _ _ => True
def vSet (c i v : D) (S : Store) : Out Unit := match c with
  | .ref n => match S[n]? with
    | some (.lst xs) => match i with
      | .int k => match ixN xs.length k with
        | some j => .ok () (S.set n (.lst (xs.set j v)))
        | none => .bad
      | _ => .bad
    | some (.dic t kvs) => if isKey t i && Nat.ble kvs.length 16000000 then .ok () (S.set n (.dic t (dPut t kvs i v))) else .bad
    | none => .bad
  | _ => .bad
def wSet (K : PySem.W.Frag) (cl : Nat → Addr) (E : XK) : TSet := fun o i v H Q => ∃ ρ S c k d, RelS K ρ S H ∧ RD K ρ H c o ∧ RD K ρ H k i ∧ RD K ρ H d v ∧ OKo K cl E ρ H RU (fun _ H' => Q H') (vSet c k d S)
theorem sr_set (hu : X.A.units + 1 < cLine) : PSet X (wSet X.K cl E) := by
  have hsl := sizeLine_eq
  intro pins s σ H o i v ov iv u Q I ro ri rv h
  obtain ⟨ρ, S, c, k, d, rs, rc, rk, rd, h⟩ := h
  unfold vSet at h
  split at h
  · rename_i n
    unfold RD at rc
    obtain ⟨a, rfl, hn⟩ := rc
    · split at h
      · rename_i xs hS
        split at h
        · split at h
          · rename_i j hj
            obtain ⟨o, e, vs, rfl, q⟩ := rs.ob n a _ hn hS
            cases rk.ofInt
            refine thn (set_list pins s σ H _ _ v ov iv u (fun H' => Siz H' → Q H') I ro ri rv ⟨a, vs, _, j, rfl, rfl, e, by rw [← q.length]; exact hj, fun z => ?_⟩) fun _ s' ⟨H', I', q'⟩ => ⟨H', I', q' (siz_of I'.hok)⟩
            exact h ρ _ () (grow_set (List.mem_of_getElem? hn)) (rs.set hn ⟨_, rfl, q.set j rd⟩) trivial z
          · exact h.elim
        · exact h.elim
      · rename_i t kvs hS
        split at h
        · rename_i hc
          rw [Bool.and_eq_true] at hc
          have hl := Nat.le_of_ble_eq_true hc.2
          cases (show ov = Value.ref a from ro)
          obtain ⟨o, e, q⟩ := rs.ob n a _ hn hS
          cases t with
          | false =>
            obtain ⟨es, rfl, r⟩ := q
            obtain ⟨kk, hkk⟩ := Option.isSome_iff_exists.mp (show (keyD k).isSome = true from hc.1)
            have hle : kvs.length = es.length := Paired.length r
            cases keyD_at hkk rk
            refine d_setItem hu I (DPut.k e (by omega)) ri rv fun s' I' => ⟨_, I', ?_⟩
            exact h ρ _ () (grow_set (List.mem_of_getElem? hn)) (rs.set hn ⟨_, rfl, put_at r hkk rd⟩) trivial (siz_of I'.hok)
          | true =>
            obtain ⟨es, rfl, r⟩ := q
            obtain ⟨kk, hkk⟩ := Option.isSome_iff_exists.mp (show (keyT k).isSome = true from hc.1)
            have hle : kvs.length = es.length := Paired.length r
            obtain ⟨p, rfl, hp⟩ := keyT_at hkk rk
            refine d_setItem hu I (DPut.t e hp (by omega)) ri rv fun s' I' => ⟨_, I', ?_⟩
            exact h ρ _ () (grow_set (List.mem_of_getElem? hn)) (rs.set hn ⟨_, rfl, put_at r hkk rd⟩) trivial (siz_of I'.hok)
        · exact h.elim
      · exact h.elim
  · exact h.elim

/-! ### built-ins -/
abbrev VL := List D → Store → Out D
def wL (K : PySem.W.Frag) (cl : Nat → Addr) (E : XK) (f : VL) : List V → Hp → VK → Prop := fun vs H Q => ∃ ρ S ds, RelS K ρ S H ∧ RDs K ρ H ds vs ∧ OKo K cl E ρ H (RD K) Q (f ds S)
def vLen : VL
  | [d], S => match d with
    | .tup xs => .ok (.int xs.length) S
    | .lst xs => .ok (.int xs.length) S
    | .scr xs => .ok (.int xs.length) S
    | .str z => if z.length ≤ 16777216 then .ok (.int z.length) S else .bad
    | .ref n => match S[n]? with
      | some (.lst xs) => .ok (.int xs.length) S
      | some (.dic t kvs) => .ok (.int kvs.length) S
      | none => .bad
    | _ => .bad
  | _, _ => .bad
theorem cb_len : CallR X (.builtin "len") (wL X.K cl E vLen) := by
  have hsl := sizeLine_eq
  refine CallR.cases fun xs H Q z h => ?_
  obtain ⟨ρ, S, ds, rs, rd, h⟩ := h
  unfold vLen at h
  split at h
  · obtain ⟨v, rfl, r⟩ := rd.one
    split at h
    · obtain ⟨p, vs, rfl, hs, qs⟩ := r.tupT
      rw [qs.length] at h
      exact ⟨_, call_len, _, _, rfl, .inr ⟨vs, hs, rfl⟩, ok_val rs h RD.int⟩
    · obtain ⟨p, vs, rfl, hs, qs⟩ := r.lstL
      rw [qs.length] at h
      exact ⟨_, call_len, _, _, rfl, .inl ⟨vs, hs, rfl⟩, ok_val rs h RD.int⟩
    · rename_i ns
      obtain ⟨p, rfl, hs⟩ := r.ofScr
      exact ⟨_, call_len, _, _, rfl, .inl ⟨ns.map V.int, hs, (List.length_map ..).symm⟩, ok_val rs h RD.int⟩
    · split at h
      · cases r.ofStr
        exact ⟨_, call_len_str, _, rfl, by omega, ok_val rs h RD.int⟩
      · exact h.elim
    · split at h
      · rename_i n _ ys hS
        obtain ⟨p, vs, rfl, hs, qs⟩ := list_at rs (d := .ref n) (xs := ys) (by simp only [listOf, hS]) r
        rw [qs.length] at h
        exact ⟨_, call_len, _, _, rfl, .inl ⟨vs, SqL.of hs, rfl⟩, ok_val rs h RD.int⟩
      · rename_i n _ t kvs hS
        unfold RD at r
        obtain ⟨a, rfl, hn⟩ := r
        obtain ⟨o, e, q⟩ := rs.ob n a _ hn hS
        cases t with
        | false =>
          obtain ⟨es, rfl, q⟩ := q
          rw [Paired.length q] at h
          exact ⟨_, call_lenD, a, es, rfl, e, ok_val rs h RD.int⟩
        | true =>
          obtain ⟨es, rfl, q⟩ := q
          rw [Paired.length q] at h
          exact ⟨_, call_len_dT, a, es, rfl, e, ok_val rs h RD.int⟩
      · exact h.elim
    · exact h.elim
  · exact h.elim
def vAbs : VL
  | [.int i], S => .ok (.int (if i < 0 then -i else i)) S
  | _, _ => .bad
theorem cb_abs : CallR X (.builtin "abs") (wL X.K cl E vAbs) := by
  refine CallR.siz call_abs fun xs H Q z h => ?_
  obtain ⟨ρ, S, ds, rs, rd, h⟩ := h
  unfold vAbs at h
  split at h
  · obtain ⟨v, rfl, r⟩ := rd.one
    cases r.ofInt
    exact ⟨_, rfl, ok_val rs h RD.int⟩
  · exact h.elim
def vIntC : VL
  | [.int i], S => .ok (.int i) S
  | [.bl k], S => .ok (.int (if k then 1 else 0)) S
  | _, _ => .bad
theorem cb_int : CallR X (.type "int") (wL X.K cl E vIntC) := by
  refine CallR.siz call_int1 fun xs H Q z h => ?_
  obtain ⟨ρ, S, ds, rs, rd, h⟩ := h
  unfold vIntC at h
  split at h
  · obtain ⟨v, rfl, r⟩ := rd.one
    cases r.ofInt
    exact .inl ⟨_, rfl, ok_val rs h RD.int⟩
  · obtain ⟨v, rfl, r⟩ := rd.one
    cases r.ofBl
    exact .inr ⟨_, rfl, ok_val rs h RD.int⟩
  · exact h.elim
def listInts (S : Store) (d : D) : Option (List Int) := (listOf S d).bind intsOf
theorem listInts_at (rs : RelS K ρ S H) {d : D} {ns : List Int} {v : V} (h : listInts S d = some ns) (r : RD K ρ H d v) : ∃ a, v = .ref a ∧ H a = some (.lst (ns.map V.int)) := by
  unfold listInts at h
  cases e : listOf S d with
  | none => rw [e] at h; cases h
  | some xs =>
    rw [e] at h
    obtain ⟨a, vs, rfl, hs, qs⟩ := list_at rs e r
    rw [intsOf_at (show intsOf xs = some ns from h) qs] at hs
    exact ⟨a, rfl, hs⟩
def vSum : VL
  | [d], S => match listInts S d with
    | some ns => .ok (.int ns.sum) S
    | none => .bad
  | _, _ => .bad
theorem cb_sum (hc : X.calm = true) : CallR X (.builtin "sum") (wL X.K cl E vSum) := by
  refine CallR.siz (cr_sum hc) fun xs H Q z h => ?_
  obtain ⟨ρ, S, ds, rs, rd, h⟩ := h
  unfold vSum at h
  split at h
  · obtain ⟨v, rfl, r⟩ := rd.one
    split at h
    · rename_i hi
      obtain ⟨a, rfl, hs⟩ := listInts_at rs hi r
      exact ⟨a, _, rfl, SqL.of hs, ok_val rs h RD.int⟩
    · exact h.elim
  · exact h.elim
def maxI : Int → List Int → Int
  | m, [] => m
  | m, x :: xs => maxI (if x > m then x else m) xs
def minI : Int → List Int → Int
  | m, [] => m
  | m, x :: xs => minI (if x < m then x else m) xs
theorem maxI_ge : ∀ (xs : List Int) (m : Int), m ≤ maxI m xs ∧ ∀ y ∈ xs, y ≤ maxI m xs
  | [], m => ⟨Int.le_refl _, by simp⟩
  | x :: xs, m => by
    obtain ⟨h1, h2⟩ := maxI_ge xs (if x > m then x else m)
    have g : m ≤ (if x > m then x else m) ∧ x ≤ (if x > m then x else m) := by constructor <;> split <;> omega
    show m ≤ maxI _ xs ∧ ∀ y ∈ x :: xs, y ≤ maxI _ xs
    refine ⟨by omega, fun y hy => ?_⟩
    rcases List.mem_cons.mp hy with rfl | hy
    · omega
    · exact h2 y hy
theorem maxI_mem : ∀ (xs : List Int) (m : Int), maxI m xs ∈ m :: xs
  | [], m => by simp [maxI]
  | x :: xs, m => by
    have h := maxI_mem xs (if x > m then x else m)
    show maxI _ xs ∈ _
    rcases List.mem_cons.mp h with e | e
    · rw [e]; split <;> simp
    · simp [e]
theorem minI_le : ∀ (xs : List Int) (m : Int), minI m xs ≤ m ∧ ∀ y ∈ xs, minI m xs ≤ y
  | [], m => ⟨Int.le_refl _, by simp⟩
  | x :: xs, m => by
    obtain ⟨h1, h2⟩ := minI_le xs (if x < m then x else m)
    have g : (if x < m then x else m) ≤ m ∧ (if x < m then x else m) ≤ x := by constructor <;> split <;> omega
    show minI _ xs ≤ m ∧ ∀ y ∈ x :: xs, minI _ xs ≤ y
    refine ⟨by omega, fun y hy => ?_⟩
    rcases List.mem_cons.mp hy with rfl | hy
    · omega
    · exact h2 y hy
theorem minI_mem : ∀ (xs : List Int) (m : Int), minI m xs ∈ m :: xs
  | [], m => by simp [minI]
  | x :: xs, m => by
    have h := minI_mem xs (if x < m then x else m)
    show minI _ xs ∈ _
    rcases List.mem_cons.mp h with e | e
    · rw [e]; split <;> simp
    · simp [e]
def vMax : VL
  | [d], S => match listInts S d with
    | some (n :: ns) => .ok (.int (maxI n ns)) S
    | _ => .bad
  | [.int i, .int j], S => .ok (.int (if j > i then j else i)) S
  | _, _ => .bad
def vMin : VL
  | [d], S => match listInts S d with
    | some (n :: ns) => .ok (.int (minI n ns)) S
    | _ => .bad
  | [.int i, .int j], S => .ok (.int (if j < i then j else i)) S
  | _, _ => .bad
theorem cb_max (hc : X.calm = true) : CallR X (.builtin "max") (wL X.K cl E vMax) := by
  refine CallR.cases fun xs H Q z h => ?_
  obtain ⟨ρ, S, ds, rs, rd, h⟩ := h
  unfold vMax at h
  split at h
  · obtain ⟨v, rfl, r⟩ := rd.one
    split at h
    · rename_i n ns hi
      obtain ⟨a, rfl, hs⟩ := listInts_at rs hi r
      refine ⟨_, cr_max hc, a, _, rfl, SqL.of hs, by simp, fun m hm hy => ?_⟩
      have e : m = maxI n ns := by
        have h1 := hy _ (maxI_mem ns n)
        obtain ⟨h2, h3⟩ := maxI_ge ns n
        rcases List.mem_cons.mp hm with rfl | hm
        · omega
        · have := h3 m hm; omega
      rw [e]
      exact ok_val rs h RD.int
    · exact h.elim
  · obtain ⟨v, u, rfl, r1, r2⟩ := rd.two
    cases r1.ofInt; cases r2.ofInt
    exact ⟨_, call_max2 hc, _, _, rfl, ok_val rs h RD.int⟩
  · exact h.elim
theorem cb_min (hc : X.calm = true) : CallR X (.builtin "min") (wL X.K cl E vMin) := by
  refine CallR.cases fun xs H Q z h => ?_
  obtain ⟨ρ, S, ds, rs, rd, h⟩ := h
  unfold vMin at h
  split at h
  · obtain ⟨v, rfl, r⟩ := rd.one
    split at h
    · rename_i n ns hi
      obtain ⟨a, rfl, hs⟩ := listInts_at rs hi r
      refine ⟨_, cr_min hc, a, _, rfl, SqL.of hs, by simp, fun m hm hy => ?_⟩
      have e : m = minI n ns := by
        have h1 := hy _ (minI_mem ns n)
        obtain ⟨h2, h3⟩ := minI_le ns n
        rcases List.mem_cons.mp hm with rfl | hm
        · omega
        · have := h3 m hm; omega
      rw [e]
      exact ok_val rs h RD.int
    · exact h.elim
  · obtain ⟨v, u, rfl, r1, r2⟩ := rd.two
    cases r1.ofInt; cases r2.ofInt
    exact ⟨_, call_min2 hc, _, _, rfl, ok_val rs h RD.int⟩
  · exact h.elim
def blOf : D → Option Bool
  | .bl b => some b
  | _ => none
theorem blsOf_at : ∀ {ds : List D} {bs : List Bool} {vs : List V}, ds.mapM blOf = some bs → RDs K ρ H ds vs → vs = bs.map V.bl
  | [], ns, vs, e, r => by
    cases (show some [] = some ns from e)
    unfold RDs at r
    exact r
  | d :: ds, ns, vs, e, r => by
    unfold RDs at r
    obtain ⟨v, us, rfl, r1, r2⟩ := r
    rw [List.mapM_cons] at e
    cases d with
    | bl i =>
      cases h : List.mapM blOf ds with
      | none => rw [h] at e; cases e
      | some ms =>
        rw [h] at e
        cases (show some (i :: ms) = some ns from e)
        rw [r1.ofBl, blsOf_at (ds := ds) h r2]
        rfl
    | _ => cases e
def vAnyAll (all : Bool) : VL
  | [d], S => match (listOf S d).bind fun xs => xs.mapM blOf with
    | some bs => .ok (.bl (if all then bs.all id else bs.any id)) S
    | none => .bad
  | _, _ => .bad
theorem cb_anyAll (hc : X.calm = true) {all : Bool} : CallR X (.builtin (if all then "all" else "any")) (wL X.K cl E (vAnyAll all)) := by
  refine CallR.cases fun xs H Q z h => ?_
  obtain ⟨ρ, S, ds, rs, rd, h⟩ := h
  unfold vAnyAll at h
  split at h
  · obtain ⟨v, rfl, r⟩ := rd.one
    split at h
    · rename_i bs hi
      obtain ⟨xs, h1, h2⟩ := Option.bind_eq_some_iff.mp hi
      obtain ⟨a, vs, rfl, hs, qs⟩ := list_at rs h1 r
      rw [blsOf_at h2 qs] at hs
      cases all with
      | true => exact ⟨_, cr_all hc, a, bs, rfl, SqL.of hs, ok_val rs h RD.bl⟩
      | false => exact ⟨_, cr_any hc, a, bs, rfl, SqL.of hs, ok_val rs h RD.bl⟩
    · exact h.elim
  · exact h.elim
def vList (mt : Bool) : VL
  | [d], S => match seqOf S d with
    | some xs => mkL mt xs S
    | none => .bad
  | _, _ => .bad
theorem cb_list {mt : Bool} : CallR X (.type "list") (wL X.K cl E (vList mt)) := by
  refine CallR.cases fun xs H Q z h => ?_
  obtain ⟨ρ, S, ds, rs, rd, h⟩ := h
  unfold vList at h
  split at h
  · obtain ⟨v, rfl, r⟩ := rd.one
    split at h
    · rename_i hi
      obtain ⟨a, vs, rfl, hs, qs⟩ := seq_at rs hi r
      exact ⟨_, call_list_of, a, vs, rfl, hs, mkL_ok rs qs h⟩
    · exact h.elim
  · exact h.elim
theorem seq_two {d : D} {xs : List D} (h : seqOf S d = some xs) : d = .tup xs ∨ listOf S d = some xs := by
  cases d with
  | tup ys => exact .inl (congrArg D.tup (Option.some.inj h))
  | _ => exact .inr h
def vTuple : VL
  | [d], S => match seqOf S d with
    | some xs => .ok (.tup xs) S
    | none => .bad
  | _, _ => .bad
theorem cb_tuple : CallR X (.type "tuple") (wL X.K cl E vTuple) := by
  refine CallR.cases fun xs H Q z h => ?_
  obtain ⟨ρ, S, ds, rs, rd, h⟩ := h
  unfold vTuple at h
  split at h
  · obtain ⟨v, rfl, r⟩ := rd.one
    split at h
    · rename_i hi
      rcases seq_two hi with e | e
      · subst e
        obtain ⟨a, vs, rfl, hs, qs⟩ := r.tupT
        exact ⟨_, call_tuple_of, a, vs, rfl, .inr ⟨hs, ok_val rs h r⟩⟩
      · obtain ⟨a, vs, rfl, hs, qs⟩ := list_at rs e r
        exact ⟨_, call_tuple_of, a, vs, rfl, .inl ⟨SqL.of hs, tup_ok rs qs h⟩⟩
    · exact h.elim
  · exact h.elim
/-- a sort by places -/
def insI (x : Int) : List Int → List Int
  | [] => [x]
  | y :: ys => if x ≤ y then x :: y :: ys else y :: insI x ys
def sortI : List Int → List Int
  | [] => []
  | x :: xs => insI x (sortI xs)
theorem insI_perm (x : Int) : ∀ ys, (insI x ys).Perm (x :: ys)
  | [] => List.Perm.refl _
  | y :: ys => by
    unfold insI
    split
    · exact List.Perm.refl _
    · exact ((insI_perm x ys).cons y).trans (List.Perm.swap x y ys)
theorem insI_sorted (x : Int) : ∀ ys : List Int, ys.Pairwise (· ≤ ·) → (insI x ys).Pairwise (· ≤ ·)
  | [], _ => by simp [insI]
  | y :: ys, h => by
    unfold insI
    rw [List.pairwise_cons] at h
    split
    · rename_i hx
      rw [List.pairwise_cons]
      refine ⟨fun z hz => ?_, List.pairwise_cons.mpr h⟩
      rcases List.mem_cons.mp hz with rfl | hz
      · exact hx
      · exact Int.le_trans hx (h.1 z hz)
    · rename_i hx
      rw [List.pairwise_cons]
      refine ⟨fun z hz => ?_, insI_sorted x ys h.2⟩
      rcases List.mem_cons.mp ((insI_perm x ys).mem_iff.mp hz) with rfl | hz
      · omega
      · exact h.1 z hz
theorem sortI_perm : ∀ xs, (sortI xs).Perm xs
  | [] => List.Perm.refl _
  | x :: xs => (insI_perm x (sortI xs)).trans ((sortI_perm xs).cons x)
theorem sortI_sorted : ∀ xs, (sortI xs).Pairwise (· ≤ ·)
  | [] => List.Pairwise.nil
  | x :: xs => insI_sorted x _ (sortI_sorted xs)
theorem ints_rds : ∀ ns : List Int, RDs K ρ H (ns.map D.int) (ns.map V.int)
  | [] => RDs.nil
  | n :: ns => RDs.cons RD.int (ints_rds ns)
def vSorted (mt : Bool) : VL
  | [d], S => match listInts S d with
    | some ns => mkL mt ((sortI ns).map D.int) S
    | none => .bad
  | _, _ => .bad
theorem cb_sorted {mt : Bool} : CallR X (.builtin "sorted") (wL X.K cl E (vSorted mt)) := by
  refine CallR.siz cr_sortedI fun xs H Q z h => ?_
  obtain ⟨ρ, S, ds, rs, rd, h⟩ := h
  unfold vSorted at h
  split at h
  · obtain ⟨v, rfl, r⟩ := rd.one
    split at h
    · rename_i ns hi
      obtain ⟨a, rfl, hs⟩ := listInts_at rs hi r
      refine ⟨a, ns, rfl, SqL.of hs, fun ns' p hp ho np => ?_⟩
      have e : ns' = sortI ns := (hp.trans (sortI_perm ns).symm).eq_of_pairwise (fun x y _ _ h1 h2 => Int.le_antisymm h1 h2) ho (sortI_sorted ns)
      rw [e]
      exact mkL_ok rs (ints_rds _) h p np
    · exact h.elim
  · exact h.elim
end
end Mir
end

section
set_option Elab.async false
set_option linter.all false
set_option maxRecDepth 100000
/-! Mir5: expressions as functions of the slots and the store. -/
namespace Mir
open PySem PySem.Spec L2

abbrev SE := Env → Store → Out D
abbrev ST := Env → Store → Out Bool
abbrev SA := Env → Store → Out (List D)
abbrev FSem := List D → Store → Out D

def mVar (i : Nat) : SE := fun env S => match env[i]? with
  | some (some d) => .ok d S
  | _ => .bad
def mC (d : D) : SE := fun _ S => .ok d S
def mBad : SE := fun _ _ => .bad
def m1 (f : V1) (a : SE) : SE := fun env S => (a env S).bind f
def m2 (f : V2) (a c : SE) : SE := fun env S => (a env S).bind fun x S1 => (c env S1).bind fun y S2 => f x y S2
def mTst (a : SE) : ST := fun env S => (a env S).bind fun x S1 => match x with
  | .bl k => .ok k S1
  | _ => .bad
def mTru (a : SE) : ST := fun env S => (a env S).bind fun x S1 => match truD S1 x with
  | some k => .ok k S1
  | none => .bad
def mNotT (t : ST) : ST := fun env S => (t env S).bind fun k S1 => .ok (!k) S1
def mAndT (t u : ST) : ST := fun env S => (t env S).bind fun k S1 => if k then u env S1 else .ok false S1
def mOrT (t u : ST) : ST := fun env S => (t env S).bind fun k S1 => if k then .ok true S1 else u env S1
def mAndV (a c : SE) : SE := fun env S => (a env S).bind fun x S1 => match x with
  | .bl true => c env S1
  | .bl false => .ok (.bl false) S1
  | _ => .bad
def mOrV (a c : SE) : SE := fun env S => (a env S).bind fun x S1 => match x with
  | .bl true => .ok (.bl true) S1
  | .bl false => c env S1
  | _ => .bad
def mNotV (a : SE) : SE := fun env S => (a env S).bind fun x S1 => match x with
  | .bl k => .ok (.bl (!k)) S1
  | _ => .bad
def mIf (t : ST) (a c : SE) : SE := fun env S => (t env S).bind fun k S1 => if k then a env S1 else c env S1
def mChain (f g : V2) (a b c : SE) : SE := fun env S => (a env S).bind fun x S1 => (b env S1).bind fun y S2 => (f x y S2).bind fun z S3 => match z with
  | .bl true => (c env S3).bind fun w S4 => g y w S4
  | .bl false => .ok (.bl false) S3
  | _ => .bad
def mNil : SA := fun _ S => .ok [] S
def mCons (a : SE) (as : SA) : SA := fun env S => (a env S).bind fun x S1 => (as env S1).bind fun xs S2 => .ok (x :: xs) S2
def mTup (as : SA) : SE := fun env S => (as env S).bind fun xs S1 => if Nat.ble xs.length 16777216 then .ok (.tup xs) S1 else .bad
def mLst (mt : Bool) (as : SA) : SE := fun env S => (as env S).bind fun xs S1 => if Nat.ble xs.length 16777216 then mkL mt xs S1 else .bad
def mCall (f : FSem) (as : SA) : SE := fun env S => (as env S).bind f
def mDic (t : Bool) : SE := fun _ S => .ok (.ref S.length) (S ++ [.dic t []])
def intO : Option SE → Env → Store → Out (Option Int)
  | none, _, S => .ok none S
  | some a, env, S => (a env S).bind fun x S1 => match x with
    | .int i => .ok (some i) S1
    | _ => .bad
def mSl (mt : Bool) (a : SE) (lo hi : Option SE) : SE := fun env S => (a env S).bind fun x S1 => (intO lo env S1).bind fun l S2 => (intO hi env S2).bind fun h S3 => vSl mt x l h S3

section
variable {K : PySem.W.Frag} {cl : Nat → Addr} {E : XK} {ρ : Rho} {H : Hp} {S : Store} {σ : L2.St} {X : Cx}
theorem PE.imp {e : Expr} {t t' : TE} (h : PE X e t) (i : ∀ σ H Q, t' σ H Q → t σ H Q) : PE X e t' := ⟨fun pins s σ H Q I q => h.run pins s σ H Q I (i σ H Q q)⟩
theorem PT.imp {e : Expr} {t t' : TT} (h : PT X e t) (i : ∀ σ H Q, t' σ H Q → t σ H Q) : PT X e t' := ⟨fun pins s σ H Q I q => h.run pins s σ H Q I (i σ H Q q)⟩
theorem PW.imp {e : Expr} {t t' : TT} (h : PW X e t) (i : ∀ σ H Q, t' σ H Q → t σ H Q) : PW X e t' := ⟨fun w pins s σ H Q I q => h.run w pins s σ H Q I (i σ H Q q)⟩
theorem PA.imp {e : List Expr} {t t' : TA} (h : PA X e t) (i : ∀ σ H Q, t' σ H Q → t σ H Q) : PA X e t' := ⟨fun w pins s σ H Q I q => h.run w pins s σ H Q I (i σ H Q q)⟩

/-- one step of a reading -/
theorem lE_step {ma : SE} {γ δ : Type} {R2 : Rho → Hp → γ → δ → Prop} {Q2 : δ → Hp → Prop} {f : D → Store → Out γ} {env : Env} (rs : RelS K ρ S H) (re : RelE K ρ H env σ) (h : OKo K cl E ρ H R2 Q2 ((ma env S).bind f)) {P : V → Hp → Prop}
    (k : ∀ x H1 ρ1 S1 a, Siz H1 → Grow ρ H ρ1 H1 → RelS K ρ1 S1 H1 → RelE K ρ1 H1 env σ → RD K ρ1 H1 a x → OKo K cl E ρ1 H1 R2 Q2 (f a S1) → P x H1) : lE K cl E ma σ H P :=
  ⟨ρ, env, S, rs, re, OKo.mono (OKo.bind h) fun x H1 z ⟨ρ1, S1, a, g, rs1, ra, h1⟩ => k x H1 ρ1 S1 a z g rs1 (re.grow g) ra h1⟩
theorem lT_step {ma : ST} {γ δ : Type} {R2 : Rho → Hp → γ → δ → Prop} {Q2 : δ → Hp → Prop} {f : Bool → Store → Out γ} {env : Env} (rs : RelS K ρ S H) (re : RelE K ρ H env σ) (h : OKo K cl E ρ H R2 Q2 ((ma env S).bind f)) {P : Bool → Hp → Prop}
    (k : ∀ x H1 ρ1 S1, Siz H1 → Grow ρ H ρ1 H1 → RelS K ρ1 S1 H1 → RelE K ρ1 H1 env σ → OKo K cl E ρ1 H1 R2 Q2 (f x S1) → P x H1) : lT K cl E ma σ H P :=
  ⟨ρ, env, S, rs, re, OKo.mono (OKo.bind h) fun x H1 z ⟨ρ1, S1, a, g, rs1, ra, h1⟩ => by
    cases (show a = x from ra)
    exact k _ H1 ρ1 S1 z g rs1 (re.grow g) h1⟩
theorem lA_step {ma : SA} {γ δ : Type} {R2 : Rho → Hp → γ → δ → Prop} {Q2 : δ → Hp → Prop} {f : List D → Store → Out γ} {env : Env} (rs : RelS K ρ S H) (re : RelE K ρ H env σ) (h : OKo K cl E ρ H R2 Q2 ((ma env S).bind f)) {P : List V → Hp → Prop}
    (k : ∀ x H1 ρ1 S1 a, Siz H1 → Grow ρ H ρ1 H1 → RelS K ρ1 S1 H1 → RelE K ρ1 H1 env σ → RDs K ρ1 H1 a x → OKo K cl E ρ1 H1 R2 Q2 (f a S1) → P x H1) : lA K cl E ma σ H P :=
  ⟨ρ, env, S, rs, re, OKo.mono (OKo.bind h) fun x H1 z ⟨ρ1, S1, a, g, rs1, ra, h1⟩ => k x H1 ρ1 S1 a z g rs1 (re.grow g) ra h1⟩
theorem lE_is {ma : SE} {Q : VK} {env : Env} (rs : RelS K ρ S H) (re : RelE K ρ H env σ) (h : OKo K cl E ρ H (RD K) Q (ma env S)) : lE K cl E ma σ H Q := ⟨ρ, env, S, rs, re, h⟩
theorem lT_is {ma : ST} {Q : Bool → Hp → Prop} {env : Env} (rs : RelS K ρ S H) (re : RelE K ρ H env σ) (h : OKo K cl E ρ H RB Q (ma env S)) : lT K cl E ma σ H Q := ⟨ρ, env, S, rs, re, h⟩

theorem c_var {i : Nat} {x : Str} {pos : Pos} (hN : X.N[i]? = some x) (hv : Vis X.env.scope x) (hd : (x == ("__debug__" : Str)) = false) (hcd : (x == ("__classdict__" : Str)) = false) : PE X (.Name x pos) (lE X.K cl E (mVar i)) := by
  refine PE.via (pe_var hN hv hd hcd) fun σ H Q z h => ?_
  obtain ⟨ρ, env, S, rs, re, h⟩ := h
  unfold mVar at h
  split at h
  · rename_i d hd
    obtain ⟨v, e, r⟩ := re.2 i d hd
    exact ⟨v, e, fun z' => ok_val rs h r z'⟩
  · exact h.elim
theorem c_val {e : Expr} {v : V} {d : D} (h : PE X e (tC v)) (r : ∀ ρ H, RD X.K ρ H d v) : PE X e (lE X.K cl E (mC d)) := by
  refine PE.via h fun σ H Q z h => ?_
  obtain ⟨ρ, env, S, rs, re, h⟩ := h
  exact fun z' => ok_val rs h (r ρ H) z'
theorem l_op {f : V2} {ma mb : SE} (σ : L2.St) (H : Hp) (Q : VK) (h : lE K cl E (m2 f ma mb) σ H Q) : tOp (w2 K cl E f) (lE K cl E ma) (lE K cl E mb) σ H Q := by
  obtain ⟨ρ, env, S, rs, re, h⟩ := h
  refine lE_step rs re h fun x H1 ρ1 S1 a z1 g1 rs1 re1 ra h1 => ?_
  refine lE_step rs1 re1 h1 fun y H2 ρ2 S2 b z2 g2 rs2 re2 rb h2 => ?_
  exact ⟨ρ2, S2, a, b, rs2, ra.grow g2, rb, h2⟩
theorem c_bin {e : Expr} {f : V2} {ma mb : SE} (h : PE X e (tOp (w2 X.K cl E f) (lE X.K cl E ma) (lE X.K cl E mb))) : PE X e (lE X.K cl E (m2 f ma mb)) := PE.imp h l_op
theorem c_un {e : Expr} {f : V1} {ma : SE} (h : PE X e (tUn (w1 X.K cl E f) (lE X.K cl E ma))) : PE X e (lE X.K cl E (m1 f ma)) := by
  refine PE.imp h fun σ H Q h => ?_
  obtain ⟨ρ, env, S, rs, re, h⟩ := h
  refine lE_step rs re h fun x H1 ρ1 S1 a z1 g1 rs1 re1 ra h1 => ?_
  exact ⟨ρ1, S1, a, rs1, ra, h1⟩
theorem l_chain {f g : V2} {ma mb mc : SE} (σ : L2.St) (H : Hp) (Q : VK) (h : lE K cl E (mChain f g ma mb mc) σ H Q) : tChain (w2 K cl E f) (w2 K cl E g) (lE K cl E ma) (lE K cl E mb) (lE K cl E mc) σ H Q := by
  obtain ⟨ρ, env, S, rs, re, h⟩ := h
  refine lE_step rs re h fun x H1 ρ1 S1 a z1 g1 rs1 re1 ra h1 => ?_
  refine lE_step rs1 re1 h1 fun y H2 ρ2 S2 b z2 g2 rs2 re2 rb h2 => ?_
  refine ⟨ρ2, S2, a, b, rs2, ra.grow g2, rb, OKo.mono (OKo.bind h2) fun x3 H3 z3 ⟨ρ3, S3, c, g3, rs3, rc, h3⟩ => ?_⟩
  split at h3
  · cases rc.ofBl
    refine ⟨true, rfl, ?_⟩
    rw [if_pos rfl]
    refine lE_step rs3 (re2.grow g3) h3 fun y4 H4 ρ4 S4 d z4 g4 rs4 re4 rd h4 => ?_
    exact ⟨ρ4, S4, b, d, rs4, (rb.grow g3).grow g4, rd, h4⟩
  · cases rc.ofBl
    exact ⟨false, rfl, ok_val rs3 h3 RD.bl z3⟩
  · exact h3.elim
theorem c_chain {e : Expr} {f g : V2} {ma mb mc : SE} (h : PE X e (tChain (w2 X.K cl E f) (w2 X.K cl E g) (lE X.K cl E ma) (lE X.K cl E mb) (lE X.K cl E mc))) : PE X e (lE X.K cl E (mChain f g ma mb mc)) := PE.imp h l_chain
theorem c_tst {e : Expr} {t : TE} {ma : SE} (ht : PT X e (tTest t)) (hi : ∀ σ H Q, lE X.K cl E ma σ H Q → t σ H Q) : PT X e (lT X.K cl E (mTst ma)) := by
  refine PT.imp ht fun σ H Q h => ?_
  obtain ⟨ρ, env, S, rs, re, h⟩ := h
  refine hi σ H _ (lE_step rs re h fun x H1 ρ1 S1 a z1 g1 rs1 re1 ra h1 => ?_)
  split at h1
  · cases ra.ofBl
    exact ⟨_, rfl, h1 ρ1 H1 _ Grow.refl rs1 rfl z1⟩
  · exact h1.elim
theorem c_truth {e : Expr} {ma : SE} (ha : PE X e (lE X.K cl E ma)) (he : ∀ whole, isTrue e X.env whole = (do let v ← whole; standAt e.pos; holding [v] (truthy v))) : PT X e (lT X.K cl E (mTru ma)) := by
  refine PT.via (pt_truth ha he) fun σ H Q z h => ?_
  obtain ⟨ρ, env, S, rs, re, h⟩ := h
  refine lE_step rs re h fun x H1 ρ1 S1 a z1 g1 rs1 re1 ra h1 => ?_
  split at h1
  · rename_i k hk
    exact ⟨k, truD_at rs1 hk ra, h1 ρ1 H1 k Grow.refl rs1 rfl⟩
  · exact h1.elim
theorem c_notT {e : Expr} {pos : Pos} {t : ST} (h : PT X e (lT X.K cl E t)) : PT X (.UnaryOp .Not e pos) (lT X.K cl E (mNotT t)) := by
  refine PT.via (pt_not h) fun σ H Q z h => ?_
  obtain ⟨ρ, env, S, rs, re, h⟩ := h
  refine lT_step rs re h fun x H1 ρ1 S1 z1 g1 rs1 re1 h1 => ?_
  exact h1 ρ1 H1 (!x) Grow.refl rs1 rfl
theorem c_and1 {e : Expr} {pos : Pos} {t : ST} (h : PT X e (lT X.K cl E t)) : PW X (.BoolOp .And [e] pos) (lT X.K cl E t) := pw_and1 h
theorem c_or1 {e : Expr} {pos : Pos} {t : ST} (h : PT X e (lT X.K cl E t)) : PW X (.BoolOp .Or [e] pos) (lT X.K cl E t) := pw_or1 h
theorem PW.via {e : Expr} {t t' : TT} (h : PW X e t) (i : ∀ σ H Q, Siz H → t' σ H Q → t σ H (fun v H' => Siz H' → Q v H')) : PW X e t' :=
  ⟨fun w pins s σ H Q I q => thn (h.run w pins s σ H _ I (i σ H Q (siz_of I.hok) q)) fun v s' ⟨H', I', q'⟩ => ⟨H', I', q' (siz_of I'.hok)⟩⟩
theorem c_andT {a b : Expr} {rest : List Expr} {pos : Pos} {t u : ST} (h : PT X a (lT X.K cl E t)) (h' : PW X (.BoolOp .And (b :: rest) pos) (lT X.K cl E u)) : PW X (.BoolOp .And (a :: b :: rest) pos) (lT X.K cl E (mAndT t u)) := by
  refine PW.via (pw_and h h') fun σ H Q z h => ?_
  obtain ⟨ρ, env, S, rs, re, h⟩ := h
  refine lT_step rs re h fun x H1 ρ1 S1 z1 g1 rs1 re1 h1 => ?_
  cases x with
  | true =>
    rw [if_pos rfl] at h1 ⊢
    exact lT_is rs1 re1 (h1.mono fun _ _ _ q _ => q)
  | false => exact h1 ρ1 H1 false Grow.refl rs1 rfl
theorem c_orT {a b : Expr} {rest : List Expr} {pos : Pos} {t u : ST} (h : PT X a (lT X.K cl E t)) (h' : PW X (.BoolOp .Or (b :: rest) pos) (lT X.K cl E u)) : PW X (.BoolOp .Or (a :: b :: rest) pos) (lT X.K cl E (mOrT t u)) := by
  refine PW.via (pw_or h h') fun σ H Q z h => ?_
  obtain ⟨ρ, env, S, rs, re, h⟩ := h
  refine lT_step rs re h fun x H1 ρ1 S1 z1 g1 rs1 re1 h1 => ?_
  cases x with
  | true => exact h1 ρ1 H1 true Grow.refl rs1 rfl
  | false => exact lT_is rs1 re1 (h1.mono fun _ _ _ q _ => q)
theorem c_andV {a b : Expr} {rest : List Expr} {pos : Pos} {ma mb : SE} (h : PE X a (lE X.K cl E ma)) (h' : PE X (.BoolOp .And (b :: rest) pos) (lE X.K cl E mb)) : PE X (.BoolOp .And (a :: b :: rest) pos) (lE X.K cl E (mAndV ma mb)) := by
  refine PE.via (pe_and h h') fun σ H Q z h => ?_
  obtain ⟨ρ, env, S, rs, re, h⟩ := h
  refine lE_step rs re h fun x H1 ρ1 S1 a z1 g1 rs1 re1 ra h1 => ?_
  split at h1
  · cases ra.ofBl
    exact ⟨true, rfl, lE_is rs1 re1 (h1.mono fun _ _ _ q _ => q)⟩
  · cases ra.ofBl
    exact ⟨false, rfl, ok_val rs1 h1 RD.bl⟩
  · exact h1.elim
theorem c_orV {a b : Expr} {rest : List Expr} {pos : Pos} {ma mb : SE} (h : PE X a (lE X.K cl E ma)) (h' : PE X (.BoolOp .Or (b :: rest) pos) (lE X.K cl E mb)) : PE X (.BoolOp .Or (a :: b :: rest) pos) (lE X.K cl E (mOrV ma mb)) := by
  refine PE.via (pe_or h h') fun σ H Q z h => ?_
  obtain ⟨ρ, env, S, rs, re, h⟩ := h
  refine lE_step rs re h fun x H1 ρ1 S1 a z1 g1 rs1 re1 ra h1 => ?_
  split at h1
  · cases ra.ofBl
    exact ⟨true, rfl, ok_val rs1 h1 RD.bl⟩
  · cases ra.ofBl
    exact ⟨false, rfl, lE_is rs1 re1 (h1.mono fun _ _ _ q _ => q)⟩
  · exact h1.elim
theorem c_notV {a : Expr} {pos : Pos} {t : ST} (h : PT X a (lT X.K cl E t)) (h' : PE X (.UnaryOp .Not a pos) (fun σ H Q => lT X.K cl E t σ H fun k H1 => Q (.bl (!k)) H1)) : PE X (.UnaryOp .Not a pos) (lE X.K cl E (fun env S => (t env S).bind fun k S1 => .ok (.bl (!k)) S1)) := by
  refine PE.via h' fun σ H Q z h => ?_
  obtain ⟨ρ, env, S, rs, re, h⟩ := h
  refine lT_step rs re h fun x H1 ρ1 S1 z1 g1 rs1 re1 h1 => ?_
  exact ok_val rs1 h1 RD.bl
theorem c_if {c a b : Expr} {pos : Pos} {t : ST} {ma mb : SE} (hc : PT X c (lT X.K cl E t)) (ha : PE X a (lE X.K cl E ma)) (hb : PE X b (lE X.K cl E mb)) : PE X (.IfExp c a b pos) (lE X.K cl E (mIf t ma mb)) := by
  refine PE.via (pe_ifExp hc ha hb) fun σ H Q z h => ?_
  obtain ⟨ρ, env, S, rs, re, h⟩ := h
  refine lT_step rs re h fun x H1 ρ1 S1 z1 g1 rs1 re1 h1 => ?_
  cases x with
  | true => exact lE_is rs1 re1 (h1.mono fun _ _ _ q _ => q)
  | false => exact lE_is rs1 re1 (h1.mono fun _ _ _ q _ => q)
theorem c_nil : PA X [] (lA X.K cl E mNil) := by
  refine PA.via pa_nil fun σ H Q z h => ?_
  obtain ⟨ρ, env, S, rs, re, h⟩ := h
  exact h ρ H [] Grow.refl rs RDs.nil
theorem c_cons {e : Expr} {es : List Expr} {a : SE} {as : SA} (ha : PE X e (lE X.K cl E a)) (hr : PA X es (lA X.K cl E as)) (hs : starEach (e :: es) X.env = (false, eval e X.env) :: starEach es X.env) : PA X (e :: es) (lA X.K cl E (mCons a as)) := by
  refine PA.via (pa_cons ha hr hs) fun σ H Q z h => ?_
  obtain ⟨ρ, env, S, rs, re, h⟩ := h
  refine lE_step rs re h fun x H1 ρ1 S1 a z1 g1 rs1 re1 ra h1 => ?_
  refine lA_step rs1 re1 h1 fun xs H2 ρ2 S2 as z2 g2 rs2 re2 ras h2 => ?_
  exact h2 ρ2 H2 (x :: xs) Grow.refl rs2 (RDs.cons (ra.grow g2) ras)
theorem c_tup {es : List Expr} {k : Nat} {pos : Pos} {as : SA} (h : PA X es (lA X.K cl E as)) : PE X (.Tuple es k pos) (lE X.K cl E (mTup as)) := by
  have hsl := sizeLine_eq
  refine PE.via (pe_tup h) fun σ H Q z h => ?_
  obtain ⟨ρ, env, S, rs, re, h⟩ := h
  refine lA_step rs re h fun xs H1 ρ1 S1 a z1 g1 rs1 re1 ra h1 => ?_
  split at h1
  · rename_i hc
    have hc := Nat.le_of_ble_eq_true hc
    have l := ra.length
    exact ⟨by omega, tup_ok rs1 ra h1⟩
  · exact h1.elim
theorem c_lst {es : List Expr} {pos : Pos} {as : SA} {mt : Bool} (h : PA X es (lA X.K cl E as)) : PE X (.List es pos) (lE X.K cl E (mLst mt as)) := by
  have hsl := sizeLine_eq
  refine PE.via (pe_lst h) fun σ H Q z h => ?_
  obtain ⟨ρ, env, S, rs, re, h⟩ := h
  refine lA_step rs re h fun xs H1 ρ1 S1 a z1 g1 rs1 re1 ra h1 => ?_
  split at h1
  · rename_i hc
    have hc := Nat.le_of_ble_eq_true hc
    have l := ra.length
    exact ⟨by omega, mkL_ok rs1 ra h1⟩
  · exact h1.elim
theorem c_dic {pos : Pos} {t : Bool} : PE X (.Dict [] [] pos) (lE X.K cl E (mDic t)) := by
  cases t with
  | false =>
    refine PE.via pe_dnewK fun σ H Q z h => ?_
    obtain ⟨ρ, env, S, rs, re, h⟩ := h
    exact fun p np z => h (ρ.push p) _ _ (grow_new np) (rs.push np ⟨[], rfl, .nil⟩) (RD.newRef rs) z
  | true =>
    refine PE.via pe_dnewT fun σ H Q z h => ?_
    obtain ⟨ρ, env, S, rs, re, h⟩ := h
    exact fun p np z => h (ρ.push p) _ _ (grow_new np) (rs.push np ⟨[], rfl, .nil⟩) (RD.newRef rs) z
theorem c_callB {e : Expr} {f : VL} {as : SA} (h : PE X e (tCB (wL X.K cl E f) (lA X.K cl E as))) : PE X e (lE X.K cl E (mCall f as)) := by
  refine PE.imp h fun σ H Q h => ?_
  obtain ⟨ρ, env, S, rs, re, h⟩ := h
  refine lA_step rs re h fun xs H1 ρ1 S1 a z1 g1 rs1 re1 ra h1 => ?_
  exact ⟨ρ1, S1, a, rs1, ra, h1⟩
def RO : Rho → Hp → Option Int → Option Int → Prop := fun _ _ a b => a = b
def lO (K : PySem.W.Frag) (cl : Nat → Addr) (E : XK) (m : Option SE) : TO := fun σ H Q => ∃ ρ env S, RelS K ρ S H ∧ RelE K ρ H env σ ∧ OKo K cl E ρ H RO Q (intO m env S)
theorem po_n : PO X none (lO X.K cl E none) := by
  refine ⟨fun pins s σ H Q I q => po_none.run pins s σ H Q I ?_⟩
  obtain ⟨ρ, env, S, rs, re, h⟩ := q
  exact h ρ H none Grow.refl rs rfl (siz_of I.hok)
theorem po_s {e : Expr} {m : SE} (he : PE X e (lE X.K cl E m)) : PO X (some e) (lO X.K cl E (some m)) := by
  refine ⟨fun pins s σ H Q I q => (po_some he).run pins s σ H Q I ?_⟩
  obtain ⟨ρ, env, S, rs, re, h⟩ := q
  refine lE_step rs re h fun x H1 ρ1 S1 a z1 g1 rs1 re1 ra h1 => ?_
  split at h1
  · cases ra.ofInt
    exact ⟨_, rfl, h1 ρ1 H1 _ Grow.refl rs1 rfl z1⟩
  · exact h1.elim
theorem lO_step {m : Option SE} {γ δ : Type} {R2 : Rho → Hp → γ → δ → Prop} {Q2 : δ → Hp → Prop} {f : Option Int → Store → Out γ} {env : Env} (rs : RelS K ρ S H) (re : RelE K ρ H env σ) (h : OKo K cl E ρ H R2 Q2 ((intO m env S).bind f)) {P : Option Int → Hp → Prop}
    (k : ∀ x H1 ρ1 S1, Siz H1 → Grow ρ H ρ1 H1 → RelS K ρ1 S1 H1 → RelE K ρ1 H1 env σ → OKo K cl E ρ1 H1 R2 Q2 (f x S1) → P x H1) : lO K cl E m σ H P :=
  ⟨ρ, env, S, rs, re, OKo.mono (OKo.bind h) fun x H1 z ⟨ρ1, S1, a, g, rs1, ra, h1⟩ => by
    cases (show a = x from ra)
    exact k _ H1 ρ1 S1 z g rs1 (re.grow g) h1⟩
theorem c_sl {e : Expr} {lo hi : Option Expr} {p2 pos : Pos} {mt : Bool} {ma : SE} {ml mh : Option SE} (ha : PE X e (lE X.K cl E ma)) (hl : PO X lo (lO X.K cl E ml)) (hh : PO X hi (lO X.K cl E mh)) :
    PE X (.Subscript e (.Slice lo hi none p2) pos) (lE X.K cl E (mSl mt ma ml mh)) := by
  refine PE.imp (pe_slice (sr_cut (cl := cl) (E := E) (mt := mt)) ha hl hh) fun σ H Q h => ?_
  obtain ⟨ρ, env, S, rs, re, h⟩ := h
  refine lE_step rs re h fun x H1 ρ1 S1 a z1 g1 rs1 re1 ra h1 => ?_
  refine lO_step rs1 re1 h1 fun l H2 ρ2 S2 z2 g2 rs2 re2 h2 => ?_
  refine lO_step rs2 re2 h2 fun u H3 ρ3 S3 z3 g3 rs3 re3 h3 => ?_
  exact ⟨ρ3, S3, a, rs3, (ra.grow g2).grow g3, h3⟩

/-! ### defs -/
/-- what a def's function promises -/
def spM (K : PySem.W.Frag) (cl : Nat → Addr) (f : FSem) : Sp := fun vs H Q E => ∃ ρ S ds, RelS K ρ S H ∧ RDs K ρ H ds vs ∧ OKo K cl E ρ H (RD K) Q (f ds S)
/-- a def's promise, called where no object is being told -/
structure FnG (P : Program) (w : World) (K : PySem.W.Frag) (mg : Str → Option Value) (base : Heap) (k : Nat) (f : Addr) (fd : FuncData) (ps : List Str) (sp : Sp) : Prop where
  many : ∀ vs H Q E, sp vs H Q E → vs.length = ps.length
  does : ∀ (A : Around) (outer : List PySem.Env) (s : Shared) (H : Hp) (args : Args) (us : List Value) (vs : List V) (Q : VK) (E : XK), Room k A → A.guards = some [] → Env0 P w K mg base A outer s H → BindsTo s fd args (ps.zip us) → Vals vs us → sp vs H Q E →
    codeAny (model P w) A (.call (.ref f) args) (CR (L2.CX P w) outer P w H s Q E) s
theorem FnG.up {P : Program} {w : World} {K : PySem.W.Frag} {mg : Str → Option Value} {base : Heap} {j k : Nat} {f : Addr} {fd : FuncData} {ps : List Str} {sp : Sp} (F : FnG P w K mg base j f fd ps sp) (h : j ≤ k) : FnG P w K mg base k f fd ps sp :=
  ⟨F.many, fun A outer s H args us vs Q E hr => F.does A outer s H args us vs Q E (hr.mono h)⟩
/-- a def as its callers see it -/
structure Cal (P : Program) (w : World) (K : PySem.W.Frag) (mg : Str → Option Value) (base : Heap) (cl : Nat → Addr) (k : Nat) (x : Str) (f : FSem) : Prop where
  ex : ∃ (a : Addr) (fd : FuncData) (ps : List Str), FnG P w K mg base k a fd ps (spM K cl f) ∧ mg x = some (.ref a) ∧ PySem.W.keepIn K (.ref a) = true ∧ Binds K fd ps []
theorem Cal.mono {P : Program} {w : World} {mg : Str → Option Value} {base : Heap} {j k : Nat} {x : Str} {f : FSem} (C : Cal P w K mg base cl j x f) (h : j ≤ k) : Cal P w K mg base cl k x f :=
  ⟨let ⟨a, fd, ps, F, r⟩ := C.ex; ⟨a, fd, ps, F.up h, r⟩⟩
theorem c_call {x : Str} {p pos : Pos} {e : Expr} {es : List Expr} {as : SA} {k : Nat} {f : FSem} (C : Cal X.prog X.w X.K X.mg X.base cl k x f) (hr : Room k X.A) (hgd : X.A.guards = some []) (hg : Gl X x) (tk : Takes X (fun c d _ H => E c d H)) (ha : PA X (e :: es) (lA X.K cl E as))
    (hdb : (x == ("__debug__" : Str)) = false) (he : starEach (e :: es) X.env = (false, eval e X.env) :: starEach es X.env) (hpl : (backTo pos (starEach es X.env)).any (·.1) = false) :
    PE X (.Call (.Name x p) (e :: es) [] pos) (lE X.K cl E (mCall f as)) := by
  obtain ⟨a, fd, ps, F, hm, hk, hb⟩ := C.ex
  refine ⟨fun pins s σ H Q I h => ?_⟩
  obtain ⟨ρ, env, S, rs, re, h⟩ := h
  have hA := lA_step rs re h (P := fun vs H1 => spM X.K cl f vs H1 Q E) fun xs H1 ρ1 S1 ds z1 g1 rs1 re1 ra h1 => ⟨ρ1, S1, ds, rs1, ra, h1⟩
  refine wpAny_Call_Name_kw (ld_glob I hg hm ?_ hdb)
  refine PySem.W.callWith_K (h₀ := X.base) I.ok.mod.kin hk (thn (ha.run pos pins s σ H _ I hA) fun us s1 ⟨vs, H1, I1, r, q⟩ => ⟨I1.kIn, ?_⟩) he hpl
  have hl : us.length = ps.length := r.length.symm.trans (F.many _ _ _ _ q)
  have b := hb s1 us I1.kIn (by simpa using hl)
  simp only [List.append_nil] at b
  refine wpAny_call (codeAny_mono (F.does X.A X.stack s1 H1 ⟨us, []⟩ us vs Q E hr hgd I1.env0 b r q) fun res s2 hq => ?_)
  cases res with
  | ok fl => cases fl with
    | ret u => exact I1.after hq
    | next => exact (show False from hq).elim
    | brk => exact (show False from hq).elim
    | cont => exact (show False from hq).elim
  | error ev => exact passAt tk σ pins H1 s1 ev s2 I1 hq
end
end Mir
end

section
set_option Elab.async false
set_option linter.all false
set_option maxRecDepth 100000
/-! Mir6: targets, what is walked, comprehensions. -/
namespace Mir
open PySem PySem.Spec L2
section
variable {K : PySem.W.Frag} {cl : Nat → Addr} {E : XK} {ρ : Rho} {H : Hp} {S : Store} {σ : L2.St} {X : Cx} {ow : Option (List Nat)}

/-! ### targets -/
abbrev SG := D → Env → Store → Out Env
abbrev SGs := List D → Env → Store → Out Env
def RE (K : PySem.W.Frag) : Rho → Hp → Env → L2.St → Prop := fun ρ H env σ => RelE K ρ H env σ
/-- in a comprehension: only its own slots are changed -/
def WOk (ow : Option (List Nat)) (σ σ' : L2.St) : Prop := match ow with
  | none => True
  | some vs => wipe σ' vs = wipe σ vs
theorem WOk.refl {ow : Option (List Nat)} {σ : L2.St} : WOk ow σ σ := by
  cases ow with
  | none => trivial
  | some vs => exact rfl
theorem WOk.trans {ow : Option (List Nat)} {σ σ' σ'' : L2.St} (a : WOk ow σ σ') (b : WOk ow σ' σ'') : WOk ow σ σ'' := by
  cases ow with
  | none => trivial
  | some vs => exact Eq.trans (show wipe σ'' vs = wipe σ' vs from b) a
theorem wipe_get : ∀ (vs : List Nat) (σ : L2.St) (j : Nat), (wipe σ vs)[j]? = if j ∈ vs then σ[j]?.map (fun _ => none) else σ[j]?
  | [], σ, j => by simp [wipe]
  | v :: vs, σ, j => by
    unfold wipe
    by_cases hj : v = j
    · subst hj
      by_cases hl : v < (wipe σ vs).length
      · rw [List.getElem?_set_self hl]
        rw [wipe_length] at hl
        simp [List.getElem?_eq_getElem hl]
      · rw [List.getElem?_eq_none (by simpa using hl)]
        rw [wipe_length] at hl
        simp [List.getElem?_eq_none (Nat.not_lt.mp hl)]
    · rw [List.getElem?_set_ne hj, wipe_get vs σ j]
      have : (j ∈ v :: vs) ↔ j ∈ vs := by simp [Ne.symm hj]
      simp only [this]
theorem wipe_idem (σ : L2.St) (vs : List Nat) : wipe (wipe σ vs) vs = wipe σ vs := by
  apply List.ext_getElem?
  intro j
  rw [wipe_get, wipe_get]
  split
  · cases σ[j]? <;> rfl
  · rfl
theorem wipe_set {σ : L2.St} {vs : List Nat} {i : Nat} {x : Option V} (hi : i ∈ vs) : wipe (σ.set i x) vs = wipe σ vs := by
  apply List.ext_getElem?
  intro j
  rw [wipe_get, wipe_get]
  by_cases hj : i = j
  · subst hj
    rw [if_pos hi, if_pos hi]
    by_cases hl : i < σ.length
    · rw [List.getElem?_set_self hl, List.getElem?_eq_getElem hl]; rfl
    · rw [List.getElem?_eq_none (by simpa using hl), List.getElem?_eq_none (Nat.not_lt.mp hl)]
  · rw [List.getElem?_set_ne hj]
def lG (K : PySem.W.Frag) (cl : Nat → Addr) (E : XK) (ow : Option (List Nat)) (g : SG) : TG := fun v σ H Q => ∃ ρ env S d, RelS K ρ S H ∧ RelE K ρ H env σ ∧ RD K ρ H d v ∧ OKo K cl E ρ H (RE K) (fun σ' H' => WOk ow σ σ' → Q σ' H') (g d env S)
def lGs (K : PySem.W.Frag) (cl : Nat → Addr) (E : XK) (ow : Option (List Nat)) (g : SGs) : TGs := fun vs σ H Q => ∃ ρ env S ds, RelS K ρ S H ∧ RelE K ρ H env σ ∧ RDs K ρ H ds vs ∧ OKo K cl E ρ H (RE K) (fun σ' H' => WOk ow σ σ' → Q σ' H') (g ds env S)
def gSet (i : Nat) : SG := fun d env S => .ok (env.set i (some d)) S
def gNone : SGs := fun ds env S => match ds with
  | [] => .ok env S
  | _ => .bad
def gMore (g : SG) (gs : SGs) : SGs := fun ds env S => match ds with
  | d :: r => (g d env S).bind fun env1 S1 => gs r env1 S1
  | [] => .bad
def gTupD (n : Nat) (gs : SGs) : SG := fun d env S => match d with
  | .tup ds => if ds.length = n then gs ds env S else .bad
  | _ => .bad
theorem PG.imp {e : Expr} {t t' : TG} (h : PG X e t) (i : ∀ v σ H Q, Siz H → t' v σ H Q → t v σ H fun σ' H' => Siz H' → Q σ' H') : PG X e t' :=
  ⟨fun pins s σ H v u Q I r q => thn (h.run pins s σ H v u _ I r (i v σ H Q (siz_of I.hok) q)) fun _ s' ⟨σ', H', I', q'⟩ => ⟨σ', H', I', q' (siz_of I'.hok)⟩⟩
theorem PGs.imp {e : List Expr} {t t' : TGs} (h : PGs X e t) (i : ∀ v σ H Q, Siz H → t' v σ H Q → t v σ H fun σ' H' => Siz H' → Q σ' H') : PGs X e t' :=
  ⟨fun pins s σ H v u Q I r q => thn (h.run pins s σ H v u _ I r (i v σ H Q (siz_of I.hok) q)) fun _ s' ⟨σ', H', I', q'⟩ => ⟨σ', H', I', q' (siz_of I'.hok)⟩⟩
theorem RelE.set {env : Env} {i : Nat} {d : D} {v : V} (re : RelE K ρ H env σ) (r : RD K ρ H d v) : RelE K ρ H (env.set i (some d)) (σ.set i (some v)) := by
  refine ⟨by simp [re.1], fun j e h => ?_⟩
  by_cases hj : i = j
  · subst hj
    have hl : i < (env.set i (some d)).length := (List.getElem?_eq_some_iff.mp h).1
    rw [List.length_set] at hl
    rw [List.getElem?_set_self hl] at h
    cases h
    exact ⟨v, List.getElem?_set_self (by rw [← re.1]; exact hl), r⟩
  · rw [List.getElem?_set_ne hj] at h ⊢
    exact re.2 j e h
theorem g_name {i : Nat} {x : Str} {pos : Pos} (hN : X.N.Nodup) (hi : X.N[i]? = some x) (hx : Loc X.env.scope x) (hf : X.fn x = true ∨ X.env.scope.names.lookup x = some .local) (ho : ∀ vs, ow = some vs → i ∈ vs) : PG X (.Name x pos) (lG X.K cl E ow (gSet i)) := by
  refine PG.imp (pg_name hN hi hx hf) fun v σ H Q z h => ?_
  obtain ⟨ρ, env, S, d, rs, re, r, h⟩ := h
  refine fun z' => h ρ H _ Grow.refl rs (re.set r) z' ?_
  cases ow with
  | none => trivial
  | some vs => exact wipe_set (ho vs rfl)
theorem g_nil : PGs X [] (lGs X.K cl E ow gNone) := by
  refine PGs.imp pgs_nil fun v σ H Q z h => ?_
  obtain ⟨ρ, env, S, ds, rs, re, r, h⟩ := h
  unfold gNone at h
  split at h
  · unfold RDs at r
    exact ⟨r, fun z' => h ρ H σ Grow.refl rs re z' WOk.refl⟩
  · exact h.elim
theorem g_cons {e : Expr} {es : List Expr} {g : SG} {gs : SGs} (h1 : PG X e (lG X.K cl E ow g)) (h2 : PGs X es (lGs X.K cl E ow gs)) (hs : (assignEach (e :: es) X.env).map (·.2) = assign e X.env :: (assignEach es X.env).map (·.2)) : PGs X (e :: es) (lGs X.K cl E ow (gMore g gs)) := by
  refine PGs.imp (pgs_cons h1 h2 hs) fun v σ H Q z h => ?_
  obtain ⟨ρ, env, S, ds, rs, re, r, h⟩ := h
  unfold gMore at h
  split at h
  · rename_i d ds
    unfold RDs at r
    obtain ⟨v, vs, rfl, r1, r2⟩ := r
    refine ⟨v, vs, rfl, ρ, env, S, d, rs, re, r1, OKo.mono (OKo.bind h) fun σ1 H1 z1 ⟨ρ1, S1, env1, g1, rs1, re1, h1⟩ => ?_⟩
    exact fun w1 => ⟨ρ1, env1, S1, ds, rs1, re1, r2.grow g1, h1.mono fun _ _ _ q w2 _ => q (w1.trans w2)⟩
  · exact h.elim
theorem g_tup {es : List Expr} {k : Nat} {pos : Pos} {gs : SGs} {n : Nat} (hc : X.calm = true) (h : PGs X es (lGs X.K cl E ow gs)) (hn : (assignEach es X.env).length = n) (hst : (assignEach es X.env).findIdx? (·.1) = none) : PG X (.Tuple es k pos) (lG X.K cl E ow (gTupD n gs)) := by
  refine PG.imp (pg_tup hc h hn hst) fun v σ H Q z h => ?_
  obtain ⟨ρ, env, S, d, rs, re, r, h⟩ := h
  unfold gTupD at h
  split at h
  · split at h
    · rename_i ds hl
      obtain ⟨a, vs, rfl, hs, q⟩ := r.tupT
      exact ⟨a, vs, rfl, hs, by rw [← q.length]; exact hl, ρ, env, S, ds, rs, re, q, h.mono fun _ _ _ q w _ => q w⟩
    · exact h.elim
  · exact h.elim
def gSubD (o i : SE) : SG := fun d env S => (o env S).bind fun c S1 => (i env S1).bind fun k S2 => (vSet c k d S2).bind fun _ S3 => .ok env S3
theorem g_sub {o i : Expr} {pos : Pos} {mo mi : SE} (hu : X.A.units + 1 < cLine) (ho : PE X o (lE X.K cl E mo)) (hi : PE X i (lE X.K cl E mi)) (ha : ∀ v, assign (.Subscript o i pos) X.env v = (do
      let ov ← holding [v] (eval o X.env)
      let iv ← holding [v, ov] (eval i X.env)
      standAt pos
      holding [v, ov, iv] (setItem ov iv v)
      release [v, ov, iv] [])) : PG X (.Subscript o i pos) (lG X.K cl E ow (gSubD mo mi)) := by
  refine PG.imp (pg_sub ho hi (sr_set (cl := cl) (E := E) hu) ha) fun v σ H Q z h => ?_
  obtain ⟨ρ, env, S, d, rs, re, r, h⟩ := h
  refine lE_step rs re h fun x H1 ρ1 S1 c z1 g1 rs1 re1 rc h1 => ?_
  refine lE_step rs1 re1 h1 fun y H2 ρ2 S2 k z2 g2 rs2 re2 rk h2 => ?_
  refine ⟨ρ2, S2, c, k, d, rs2, rc.grow g2, rk, (r.grow g1).grow g2, OKo.mono (OKo.bind h2) fun _ H3 z3 ⟨ρ3, S3, _, g3, rs3, _, h3⟩ => ?_⟩
  exact fun z' => h3 ρ3 H3 σ Grow.refl rs3 (re2.grow g3) z' WOk.refl

/-! ### what is walked -/
structure Src where
  len : Nat
  get : Nat → Store → Option D
  fin : Store → Bool
def Src.items (ds : List D) : Src := ⟨ds.length, fun i _ => ds[i]?, fun _ => true⟩
def Src.live (n len : Nat) : Src := ⟨len, fun i S => match S[n]? with
  | some (.lst xs) => if xs.length = len then xs[i]? else none
  | _ => none, fun S => match S[n]? with
  | some (.lst xs) => decide (xs.length = len)
  | _ => false⟩
/-- an iterator gives what a source says -/
def Serves0 (K : PySem.W.Frag) (J : It) (s : Src) (ρ : Rho) (H : Hp) : Prop := ∀ ρ1 H1 S1, Grow ρ H ρ1 H1 → RelS K ρ1 S1 H1 →
  (∀ i d, i < s.len → s.get i S1 = some d → J.go i H1 ∧ ∀ x H2, J.yld i H1 x H2 → Grow ρ1 H1 ρ1 H2 ∧ RelS K ρ1 S1 H2 ∧ RD K ρ1 H2 d x) ∧ (s.fin S1 = true → J.stop s.len H1)
/-- a hidden object is let go, or nothing -/
inductive Shr (ρ : Rho) (H : Hp) : Rho → Hp → Prop
  | refl : Shr ρ H ρ H
  | one {p : Addr} (h : p ∈ ρ.h) : Shr ρ H (ρ.shw p) (del H p)
theorem RD.shr {K : PySem.W.Frag} {ρ ρ0 : Rho} {H H0 : Hp} (h : Shr ρ H ρ0 H0) {d : D} {v : V} (r : RD K ρ H d v) : RD K ρ0 H0 d v := by
  cases h with
  | refl => exact r
  | one h => exact r.shw h
theorem RelS.shr {K : PySem.W.Frag} {ρ ρ0 : Rho} {H H0 : Hp} (h : Shr ρ H ρ0 H0) {S : Store} (r : RelS K ρ S H) : RelS K ρ0 S H0 := by
  cases h with
  | refl => exact r
  | one h => exact r.shw h
def Serves (K : PySem.W.Frag) (J : It) (s : Src) (ρ : Rho) (H : Hp) : Prop := ∀ ρ0 H0, Shr ρ H ρ0 H0 → Serves0 K J s ρ0 H0
def lI (K : PySem.W.Frag) (cl : Nat → Addr) (E : XK) (m : Env → Store → Out Src) : TI := fun σ H R => ∃ ρ env S, RelS K ρ S H ∧ RelE K ρ H env σ ∧ OKo K cl E ρ H (fun ρ H s J => Serves K J s ρ H) R (m env S)
theorem PI.imp {tg e : Expr} {t t' : TI} (h : PI X tg e t) (i : ∀ σ H R, Siz H → t' σ H R → t σ H fun J H' => Siz H' → R J H') : PI X tg e t' :=
  ⟨fun pins s σ H R I q => thn (h.run pins s σ H _ I (i σ H R (siz_of I.hok) q)) fun _ _ h1 => thn h1 fun _ s2 ⟨it, fp, tn, J, H', e, I', T, t0, f, r⟩ => ⟨it, fp, tn, J, H', e, I', T, t0, f, r (siz_of I'.hok)⟩⟩
theorem serves0_tup {ds : List D} {v : V} (r : RD K ρ H (.tup ds) v) : ∃ a, v = .ref a ∧ (∃ xs, SqT K H a xs) ∧ Serves0 K (Itt K a) (.items ds) ρ H := by
  unfold RD at r
  obtain ⟨a, vs, rfl, h, q⟩ := r
  refine ⟨a, rfl, ⟨vs, SqT.of h.1⟩, fun ρ1 H1 S1 g rs => ?_⟩
  have h1 := at_grow g h
  have q1 := q.grow g
  refine ⟨fun i d hi hd => ?_, fun _ => ⟨vs, SqT.of h1.1, by rw [← q.length]; exact Nat.le_refl _⟩⟩
  obtain ⟨v, hv, rv⟩ := q1.get (show ds[i]? = some d from hd)
  refine ⟨⟨vs, v, SqT.of h1.1, hv⟩, fun x H2 y => ?_⟩
  obtain ⟨e, y⟩ := y
  subst e
  have e2 := y vs (SqT.of h1.1)
  rw [hv] at e2
  cases e2
  exact ⟨Grow.refl, rs, rv⟩
theorem serves0_lst {ds : List D} {v : V} (r : RD K ρ H (.lst ds) v) : ∃ a, v = .ref a ∧ (∃ xs, SqL K H a xs) ∧ Serves0 K (Itl K a) (.items ds) ρ H := by
  unfold RD at r
  obtain ⟨a, vs, rfl, h, q⟩ := r
  refine ⟨a, rfl, ⟨vs, SqL.of h.1⟩, fun ρ1 H1 S1 g rs => ?_⟩
  have h1 := at_grow g h
  have q1 := q.grow g
  refine ⟨fun i d hi hd => ?_, fun _ => ⟨vs, SqL.of h1.1, by rw [← q.length]; exact Nat.le_refl _⟩⟩
  obtain ⟨v, hv, rv⟩ := q1.get (show ds[i]? = some d from hd)
  refine ⟨⟨vs, v, SqL.of h1.1, hv⟩, fun x H2 y => ?_⟩
  obtain ⟨e, y⟩ := y
  subst e
  have e2 := y vs (SqL.of h1.1)
  rw [hv] at e2
  cases e2
  exact ⟨Grow.refl, rs, rv⟩
theorem serves0_live {n : Nat} {xs : List D} {v : V} (rs : RelS K ρ S H) (hS : S[n]? = some (.lst xs)) (r : RD K ρ H (.ref n) v) : ∃ a, v = .ref a ∧ (∃ xs, SqL K H a xs) ∧ Serves0 K (Itl K a) (.live n xs.length) ρ H := by
  unfold RD at r
  obtain ⟨a, rfl, hn⟩ := r
  obtain ⟨o, e, vs, rfl, q⟩ := rs.ob n a _ hn hS
  refine ⟨a, rfl, ⟨vs, SqL.of e⟩, fun ρ1 H1 S1 g rs1 => ?_⟩
  have hn1 := g.ix hn
  refine ⟨fun i d hi hd => ?_, fun hf => ?_⟩
  · simp only [Src.live] at hd
    split at hd
    · rename_i ys hS1
      split at hd
      · obtain ⟨o, e1, vs1, rfl, q1⟩ := rs1.ob n a _ hn1 hS1
        obtain ⟨v, hv, rv⟩ := q1.get hd
        refine ⟨⟨vs1, v, SqL.of e1, hv⟩, fun x H2 y => ?_⟩
        obtain ⟨e, y⟩ := y
        subst e
        have e2 := y vs1 (SqL.of e1)
        rw [hv] at e2
        cases e2
        exact ⟨Grow.refl, rs1, rv⟩
      · cases hd
    · cases hd
  · simp only [Src.live] at hf
    split at hf
    · rename_i ys hS1
      obtain ⟨o, e1, vs1, rfl, q1⟩ := rs1.ob n a _ hn1 hS1
      exact ⟨vs1, SqL.of e1, by rw [← q1.length, of_decide_eq_true hf]; exact Nat.le_refl _⟩
    · cases hf
def rangeD (lo : Int) (n : Nat) : List D := (List.range n).map fun i : Nat => D.int (lo + (i : Int))
theorem serves0_range {lo : Int} {n : Nat} : Serves0 K (Itr lo n) (.items (rangeD lo n)) ρ H := by
  intro ρ1 H1 S1 g rs
  have hl : (rangeD lo n).length = n := by simp [rangeD]
  refine ⟨fun i d hi hd => ?_, fun _ => by show n ≤ (rangeD lo n).length; omega⟩
  have hi : i < n := by
    have : i < (rangeD lo n).length := hi
    omega
  refine ⟨hi, fun x H2 y => ?_⟩
  obtain ⟨e, y⟩ := y
  subst e; subst y
  have e2 : (rangeD lo n)[i]? = some (.int (lo + (i : Nat))) := by
    unfold rangeD
    rw [List.getElem?_map, List.getElem?_range hi]
    rfl
  rw [show (rangeD lo n)[i]? = some d from hd] at e2
  cases e2
  exact ⟨Grow.refl, rs, RD.int⟩
theorem serves_tup {ds : List D} {v : V} (r : RD K ρ H (.tup ds) v) : ∃ a, v = .ref a ∧ (∃ xs, SqT K H a xs) ∧ Serves K (Itt K a) (.items ds) ρ H := by
  obtain ⟨a, rfl, h, _⟩ := serves0_tup r
  refine ⟨a, rfl, h, fun ρ0 H0 sh => ?_⟩
  obtain ⟨b, e, _, z⟩ := serves0_tup (r.shr sh)
  cases e
  exact z
theorem serves_lst {ds : List D} {v : V} (r : RD K ρ H (.lst ds) v) : ∃ a, v = .ref a ∧ (∃ xs, SqL K H a xs) ∧ Serves K (Itl K a) (.items ds) ρ H := by
  obtain ⟨a, rfl, h, _⟩ := serves0_lst r
  refine ⟨a, rfl, h, fun ρ0 H0 sh => ?_⟩
  obtain ⟨b, e, _, z⟩ := serves0_lst (r.shr sh)
  cases e
  exact z
theorem serves_live {n : Nat} {xs : List D} {v : V} (rs : RelS K ρ S H) (hS : S[n]? = some (.lst xs)) (r : RD K ρ H (.ref n) v) : ∃ a, v = .ref a ∧ (∃ xs, SqL K H a xs) ∧ Serves K (Itl K a) (.live n xs.length) ρ H := by
  obtain ⟨a, rfl, h, _⟩ := serves0_live rs hS r
  refine ⟨a, rfl, h, fun ρ0 H0 sh => ?_⟩
  obtain ⟨b, e, _, z⟩ := serves0_live (rs.shr sh) hS (r.shr sh)
  cases e
  exact z
theorem serves_range {lo : Int} {n : Nat} : Serves K (Itr lo n) (.items (rangeD lo n)) ρ H := fun _ _ _ => serves0_range
/-- the signs of a text, each a text -/
def signsD (x : Str) : List D := x.cps.toList.map fun c => D.str ⟨#[c]⟩
theorem serves_str {x : Str} : Serves K (Its x) (.items (signsD x)) ρ H := by
  intro ρ0 H0 _ ρ1 H1 S1 g rs
  have hl : (signsD x).length = x.cps.size := by simp [signsD]
  refine ⟨fun i d hi hd => ?_, fun _ => by show x.cps.size ≤ (signsD x).length; omega⟩
  have hi : i < x.cps.size := by
    have : i < (signsD x).length := hi
    omega
  refine ⟨hi, fun v H2 y => ?_⟩
  obtain ⟨e, c, hc, y⟩ := y
  subst e; subst y
  have e2 : (signsD x)[i]? = some (.str ⟨#[c]⟩) := by
    unfold signsD
    rw [List.getElem?_map, Array.getElem?_toList, hc]
    rfl
  rw [show (signsD x)[i]? = some d from hd] at e2
  cases e2
  exact ⟨Grow.refl, rs, RD.str⟩
/-- a value that is walked -/
def srcOf (S : Store) : D → Option Src
  | .tup ds => some (.items ds)
  | .lst ds => some (.items ds)
  | .str x => some (.items (signsD x))
  | .ref n => match S[n]? with
    | some (.lst xs) => some (.live n xs.length)
    | _ => none
  | _ => none
def mSrc (a : SE) : Env → Store → Out Src := fun env S => (a env S).bind fun x S1 => match srcOf S1 x with
  | some s => .ok s S1
  | none => .bad
theorem pi_value {tg e : Expr} {te : TE} (he : PE X e te) : PI X tg e (fun σ H R => te σ H fun x H1 => (∃ w, x = .str w ∧ R (Its w) H1) ∨ ∃ a, x = .ref a ∧ (((∃ xs, SqL X.K H1 a xs) ∧ R (Itl X.K a) H1) ∨ ((∃ xs, SqT X.K H1 a xs) ∧ R (Itt X.K a) H1))) := by
  refine ⟨fun pins s σ H R I h => thn (he.run pins s σ H _ I h) fun v s1 ⟨x, H1, I1, r1, q⟩ => ?_⟩
  rcases q with ⟨w, e, q⟩ | ⟨a, e, q⟩
  · subst e
    obtain ⟨t, rfl⟩ := r1
    cases ha : w.cps.all (· < 128)
    · exact wpAny_pyIter_wide ha (pi_one (tk := s1.toks) I1 _ (turn_str _ w t "str_iterator" (.inr rfl)) ⟨_, Heap.get?_push_size _ rfl, rfl, rfl⟩ q)
    · exact wpAny_pyIter_ascii ha (pi_one (tk := s1.toks) I1 _ (turn_str _ w t "str_ascii_iterator" (.inl rfl)) ⟨_, Heap.get?_push_size _ rfl, rfl, rfl⟩ q)
  subst e
  cases (show v = Value.ref a from r1)
  have fr : ∀ b ∈ [s1.heap.objs.size], FpOk X pins H1 b := fun b hb => by
    rw [List.mem_singleton.mp hb]
    exact I1.fpOk (Nat.le_refl _) (I1.hok.fresh (Nat.le_refl _))
  rcases q with ⟨⟨xs, hq⟩, q⟩ | ⟨⟨xs, hq⟩, q⟩
  · obtain ⟨its, rv, p, _⟩ := I1.list hq
    exact wpAny_pyIter_list p.isList ⟨_, _, _, _, H1, rfl, I1.kept (t' := s1.toks) fun b o e => Heap.get?_push_of_some _ e, turn_list a _, ⟨_, Heap.get?_push_size _ rfl, rfl, rfl⟩, fr, q⟩
  · obtain ⟨its, rv, p, _⟩ := I1.tuple hq
    exact wpAny_pyIter_tuple (show s1.heap.IsTuple a its.toArray from p) ⟨_, _, _, _, H1, rfl, I1.kept (t' := s1.toks) fun b o e => Heap.get?_push_of_some _ e, turn_tuple a _, ⟨_, Heap.get?_push_size _ rfl, rfl, rfl⟩, fr, q⟩
theorem i_value {tg e : Expr} {ma : SE} (he : PE X e (lE X.K cl E ma)) : PI X tg e (lI X.K cl E (mSrc ma)) := by
  refine PI.imp (pi_value he) fun σ H R z h => ?_
  obtain ⟨ρ, env, S, rs, re, h⟩ := h
  refine lE_step rs re h fun x H1 ρ1 S1 d z1 g1 rs1 re1 rd h1 => ?_
  split at h1
  · rename_i sr hs
    unfold srcOf at hs
    split at hs
    · cases hs
      obtain ⟨a, e, hq, sv⟩ := serves_tup rd
      exact .inr ⟨a, e, .inr ⟨hq, h1 ρ1 H1 _ Grow.refl rs1 sv⟩⟩
    · cases hs
      obtain ⟨a, e, hq, sv⟩ := serves_lst rd
      exact .inr ⟨a, e, .inl ⟨hq, h1 ρ1 H1 _ Grow.refl rs1 sv⟩⟩
    · cases hs
      exact .inl ⟨_, rd.ofStr, h1 ρ1 H1 _ Grow.refl rs1 serves_str⟩
    · split at hs
      · rename_i xs hS
        cases hs
        obtain ⟨a, e, hq, sv⟩ := serves_live rs1 hS rd
        exact .inr ⟨a, e, .inl ⟨hq, h1 ρ1 H1 _ Grow.refl rs1 sv⟩⟩
      · cases hs
    · cases hs
  · exact h1.elim
def rngOk (i : Int) : Bool := decide (-4611686018427387904 ≤ i) && decide (i < 4611686018427387904)
def mRange1 (as : SA) : Env → Store → Out Src := fun env S => (as env S).bind fun xs S1 => match xs with
  | [.int j] => if rngOk j then .ok (.items (rangeD 0 j.toNat)) S1 else .bad
  | _ => .bad
def mRange2 (as : SA) : Env → Store → Out Src := fun env S => (as env S).bind fun xs S1 => match xs with
  | [.int i, .int j] => if rngOk i && rngOk j then .ok (.items (rangeD i (j - i).toNat)) S1 else .bad
  | _ => .bad
theorem rngOk_ok {i : Int} (h : rngOk i = true) : -(2 ^ 62) ≤ i ∧ i < 2 ^ 62 := by
  unfold rngOk at h
  simp only [Bool.and_eq_true, decide_eq_true_eq] at h
  omega
theorem i_range1 {tg a : Expr} {p pos : Pos} {as : SA} (hg : Gl X "range") (hm : X.mg "range" = none) (ha : PA X [a] (lA X.K cl E as)) (hs : starEach [a] X.env = [(false, eval a X.env)]) : PI X tg (.Call (.Name "range" p) [a] [] pos) (lI X.K cl E (mRange1 as)) := by
  refine PI.imp (pi_range1 hg hm ha hs) fun σ H R z h => ?_
  obtain ⟨ρ, env, S, rs, re, h⟩ := h
  refine lA_step rs re h fun xs H1 ρ1 S1 ds z1 g1 rs1 re1 rd h1 => ?_
  split at h1
  · split at h1
    · rename_i hr
      obtain ⟨v, rfl, r⟩ := rd.one
      cases r.ofInt
      obtain ⟨b1, b2⟩ := rngOk_ok hr
      exact ⟨_, rfl, b1, b2, h1 ρ1 H1 _ Grow.refl rs1 serves_range⟩
    · exact h1.elim
  · exact h1.elim
theorem i_range2 {tg a b : Expr} {p pos : Pos} {as : SA} (hg : Gl X "range") (hm : X.mg "range" = none) (ha : PA X [a, b] (lA X.K cl E as)) (hs : starEach [a, b] X.env = [(false, eval a X.env), (false, eval b X.env)]) (hs2 : starEach [b] X.env = [(false, eval b X.env)]) :
    PI X tg (.Call (.Name "range" p) [a, b] [] pos) (lI X.K cl E (mRange2 as)) := by
  refine PI.imp (pi_range2 hg hm ha hs hs2) fun σ H R z h => ?_
  obtain ⟨ρ, env, S, rs, re, h⟩ := h
  refine lA_step rs re h fun xs H1 ρ1 S1 ds z1 g1 rs1 re1 rd h1 => ?_
  split at h1
  · split at h1
    · rename_i hr
      rw [Bool.and_eq_true] at hr
      obtain ⟨v, u, rfl, r, r'⟩ := rd.two
      cases r.ofInt; cases r'.ofInt
      obtain ⟨b1, b2⟩ := rngOk_ok hr.1
      obtain ⟨b3, b4⟩ := rngOk_ok hr.2
      exact ⟨_, _, rfl, ⟨b1, b2, b3, b4⟩, h1 ρ1 H1 _ Grow.refl rs1 serves_range⟩
    · exact h1.elim
  · exact h1.elim

/-! ### list comprehensions -/
/-- what is made of the items that are left -/
def compL (get : Nat → Store → Option D) (fin : Store → Bool) (f : D → Store → Out (Option D)) : Nat → Nat → Store → Out (List D)
  | 0, _, S => if fin S then .ok [] S else .bad
  | k + 1, i, S => match get i S with
    | some d => match f d S with
      | .ok o S1 => match compL get fin f k (i + 1) S1 with
        | .ok ys S2 => .ok (o.toList ++ ys) S2
        | _ => .bad
      | _ => .bad
    | none => .bad
def wipeE (env : Env) : List Nat → Env
  | [] => env
  | v :: vs => (wipeE env vs).set v none
/-- one item: the target, the tests, the element -/
def mElt (own : List Nat) (g : SG) (t : ST) (e : SE) (env : Env) (d : D) (S : Store) : Out (Option D) :=
  (g d (wipeE env own) S).bind fun env1 S1 => (t env1 S1).bind fun c S2 => if c then (e env1 S2).bind fun y S3 => .ok (some y) S3 else .ok none S2
def mLC (own : List Nat) (mt : Bool) (src : Env → Store → Out Src) (g : SG) (t : ST) (e : SE) : SE := fun env S => (src env S).bind fun s S1 =>
  if Nat.ble s.len 16777216 then (match compL s.get s.fin (mElt own g t e env) s.len 0 S1 with
  | .ok ys S2 => mkL mt ys S2
  | _ => .bad) else .bad
theorem wipeE_get : ∀ (vs : List Nat) (σ : Env) (j : Nat), (wipeE σ vs)[j]? = if j ∈ vs then σ[j]?.map (fun _ => none) else σ[j]?
  | [], σ, j => by simp [wipeE]
  | v :: vs, σ, j => by
    unfold wipeE
    by_cases hj : v = j
    · subst hj
      by_cases hl : v < (wipeE σ vs).length
      · rw [List.getElem?_set_self hl]
        have hl2 : v < σ.length := by
          have h := wipeE_get vs σ v
          rw [List.getElem?_eq_getElem hl] at h
          by_cases q : v < σ.length
          · exact q
          · rw [List.getElem?_eq_none (Nat.not_lt.mp q)] at h
            split at h <;> cases h
        simp [List.getElem?_eq_getElem hl2]
      · rw [List.getElem?_eq_none (by simpa using hl)]
        have h := wipeE_get vs σ v
        rw [List.getElem?_eq_none (by simpa using hl)] at h
        have hn : σ[v]? = none := by
          cases q : σ[v]? with
          | none => rfl
          | some x => rw [q] at h; split at h <;> cases h
        simp [hn]
    · rw [List.getElem?_set_ne hj, wipeE_get vs σ j]
      have : (j ∈ v :: vs) ↔ j ∈ vs := by simp [Ne.symm hj]
      simp only [this]
theorem wipeE_length (env : Env) : ∀ vs, (wipeE env vs).length = env.length
  | [] => rfl
  | v :: vs => by unfold wipeE; rw [List.length_set, wipeE_length env vs]
theorem RelE.wipe {env : Env} (re : RelE K ρ H env σ) (vs : List Nat) : RelE K ρ H (wipeE env vs) (L2.wipe σ vs) := by
  refine ⟨by rw [wipeE_length, wipe_length]; exact re.1, fun i d h => ?_⟩
  rw [wipeE_get] at h
  rw [wipe_get]
  split at h
  · cases q : env[i]? with
    | none => rw [q] at h; cases h
    | some x => rw [q] at h; cases h
  · rename_i hn
    rw [if_neg hn]
    exact re.2 i d h
/-- what is left of the walk, to be put behind what is made -/
def compW (mt : Bool) (r : Out (List D)) (acc : List D) : Out D := match r with
  | .ok ys S2 => mkL mt (acc ++ ys) S2
  | _ => .bad
theorem l_lc {mt : Bool} {vs : List Nat} {src : Env → Store → Out Src} {g : SG} {t : ST} {e : SE} (σ : L2.St) (H : Hp) (Q : VK) (h : lE K cl E (mLC vs mt src g t e) σ H Q) :
    tLc (lI K cl E src) (lG K cl E0 (some vs) g) (lT K cl E0 t) (lE K cl E0 e) vs σ H (fun v H' => Siz H' → Q v H') := by
  have hsl := sizeLine_eq
  obtain ⟨ρ, env, S, rs, re, h⟩ := h
  refine ⟨ρ, env, S, rs, re, OKo.mono (OKo.bind h) fun J H1 z1 ⟨ρ1, S1, s, g1, rs1, sv, h1⟩ => ?_⟩
  clear h
  have hle : s.len ≤ 16777216 := by
    cases q : Nat.ble s.len 16777216 with
    | true => exact Nat.le_of_ble_eq_true q
    | false => rw [q] at h1; exact h1.elim
  rw [if_pos (Nat.ble_eq_true_of_le hle)] at h1
  intro p np
  have re1 := re.grow g1
  refine ⟨fun i m H2 => ∃ ρ2 S2 G acc ws, H2 = upd G p (.lst ws) ∧ G p = none ∧ Grow ρ1 H1 ρ2 G ∧ RelS K ρ2 S2 G ∧ RDs K ρ2 G acc ws ∧ ws.length ≤ i ∧ m = s.len - i ∧ i ≤ s.len ∧ OKo K cl E ρ2 G (RD K) Q (compW mt (compL s.get s.fin (mElt vs g t e env) (s.len - i) i S2) acc),
    ⟨s.len, ρ1, S1, H1, [], [], rfl, np, Grow.refl, rs1, RDs.nil, Nat.le_refl _, by simp, Nat.zero_le _, ?_⟩, ?_⟩
  · unfold compW
    simp only [List.nil_append, Nat.sub_zero]
    exact h1
  · rintro i m H2 ⟨ρ2, S2, G, acc, ws, rfl, nG, g2, rs2, ra, hwl, rfl, hi2, hq⟩
    have g2' : Grow ρ1 H1 (ρ2.hide p) (upd G p (.lst ws)) := g2.trans (grow_hide nG)
    have rs2' : RelS K (ρ2.hide p) S2 (upd G p (.lst ws)) := rs2.hide nG ntab_lst
    have nh : p ∉ ρ2.h := fun z => rs2.fresh nG (List.mem_append_right _ z)
    obtain ⟨sv1, sv2⟩ := sv _ _ .refl (ρ2.hide p) _ S2 g2' rs2'
    by_cases hlt : i < s.len
    · refine .inr ?_
      have hk : s.len - i = (s.len - (i + 1)) + 1 := by omega
      rw [hk] at hq
      unfold compL at hq
      cases hget : s.get i S2 with
      | none => rw [hget] at hq; exact hq.elim
      | some d =>
        rw [hget] at hq
        obtain ⟨go, yld⟩ := sv1 i d hlt hget
        refine ⟨go, fun H3 => ∃ ρ2 S2 G acc ws, H3 = upd G p (.lst ws) ∧ G p = none ∧ Grow ρ1 H1 ρ2 G ∧ RelS K ρ2 S2 G ∧ RDs K ρ2 G acc ws ∧ ws.length ≤ i + 1 ∧ OKo K cl E ρ2 G (RD K) Q (compW mt (compL s.get s.fin (mElt vs g t e env) (s.len - (i + 1)) (i + 1) S2) acc),
          fun H3 ⟨ρ3, S3, G3, acc3, ws3, e1, e2, e3, e4, e5, el, e6⟩ => ⟨s.len - (i + 1), by omega, ρ3, S3, G3, acc3, ws3, e1, e2, e3, e4, e5, el, rfl, hlt, e6⟩, fun x H3 y => ?_⟩
        obtain ⟨gy, rsy, ry⟩ := yld x H3 y
        -- the end of a turn: what is hidden is shown again
        have back : ∀ {ρ4 : Rho} {H4 : Hp} {S4 : Store}, Grow (ρ2.hide p) (upd G p (.lst ws)) ρ4 H4 → RelS K ρ4 S4 H4 → H4 p = some (.lst ws) ∧ del H4 p p = none ∧ Grow ρ2 G (ρ4.shw p) (del H4 p) ∧ RelS K (ρ4.shw p) S4 (del H4 p) ∧ p ∈ ρ4.h := by
          intro ρ4 H4 S4 g4 rs4
          obtain ⟨_, ga, gm⟩ := Grow.shw nG nh g4
          have pl : p ∉ (ρ2.hide p).l := fun z => nl_of (rs2.fresh nG) z
          exact ⟨g4.fr p _ upd_same pl (fun _ z => by cases z), del_same, ga, rs4.shw gm, gm⟩
        have rew : RelE K (ρ2.hide p) H3 (wipeE env vs) (L2.wipe σ vs) := ((re1.grow g2').grow gy).wipe vs
        dsimp only at hq
        rw [mElt] at hq
        refine ⟨ρ2.hide p, wipeE env vs, S2, d, rsy, rew, ry, ?_⟩
        cases hg1 : g d (wipeE env vs) S2 with
        | bad => rw [hg1] at hq; exact hq.elim
        | ex c S3 => rw [hg1] at hq; exact hq.elim
        | ok env1 S3 =>
          rw [hg1] at hq
          intro ρ4 H4 σ4 g4 rs4 re4 z4 w4
          refine ⟨(show wipe σ4 vs = wipe (wipe σ vs) vs from w4).trans (wipe_idem σ vs), ρ4, env1, S3, rs4, re4, ?_⟩
          have g4 := gy.trans g4
          cases ht1 : t env1 S3 with
          | bad => simp only [Out.bind, ht1] at hq; exact hq.elim
          | ex c S5 => simp only [Out.bind, ht1] at hq; exact hq.elim
          | ok c S5 =>
            simp only [Out.bind, ht1] at hq
            intro ρ5 H5 c' g5 rs5 rc z5
            cases (show c = c' from rc)
            have g5' := g4.trans g5
            cases c with
            | false =>
              rw [if_neg Bool.false_ne_true] at hq ⊢
              obtain ⟨hp5, n5, ga5, rsa5, gm5⟩ := back g5' rs5
              refine ⟨ρ5.shw p, S5, del H5 p, acc, ws, (del_upd hp5).symm, n5, g2.trans ga5, rsa5, ra.grow ga5, by omega, ?_⟩
              have hq := OKo.grow ga5 hq
              simp only [Option.toList, List.nil_append] at hq
              generalize compL s.get s.fin (mElt vs g t e env) (s.len - (i + 1)) (i + 1) S5 = r at hq ⊢
              cases r with
              | ok ys S6 => exact hq
              | ex c S6 => exact hq.elim
              | bad => exact hq.elim
            | true =>
              rw [if_pos rfl] at hq ⊢
              refine ⟨ρ5, env1, S5, rs5, re4.grow g5, ?_⟩
              cases he1 : e env1 S5 with
              | bad => simp only [he1] at hq; exact hq.elim
              | ex c S6 => simp only [he1] at hq; exact hq.elim
              | ok y S6 =>
                simp only [he1] at hq
                intro ρ6 H6 v g6 rs6 rv z6
                have g6' := g5'.trans g6
                obtain ⟨hp6, n6, ga6, rsa6, gm6⟩ := back g6' rs6
                have hlen : ws.length < sizeLine := by omega
                refine ⟨ws, hp6, hlen, ρ6.shw p, S6, del H6 p, acc ++ [y], ws ++ [v], ?_, n6, g2.trans ga6, rsa6, (ra.grow ga6).append (RDs.cons (rv.shw gm6) RDs.nil), by simp; omega, ?_⟩
                · funext a
                  by_cases ea : a = p
                  · subst ea; rw [upd_same, upd_same]
                  · rw [upd_ne ea, upd_ne ea, del_ne ea]
                · have hq := OKo.grow ga6 hq
                  generalize compL s.get s.fin (mElt vs g t e env) (s.len - (i + 1)) (i + 1) S6 = r at hq ⊢
                  cases r with
                  | ok ys S7 =>
                    unfold compW at hq ⊢
                    simp only [Option.toList, List.append_assoc] at hq ⊢
                    exact hq
                  | ex c S7 => exact hq.elim
                  | bad => exact hq.elim
    · have hie : i = s.len := by omega
      subst hie
      refine .inl ?_
      rw [Nat.sub_self] at hq
      unfold compL at hq
      cases hf : s.fin S2 with
      | false => rw [hf] at hq; exact hq.elim
      | true =>
        rw [hf] at hq
        refine ⟨sv2 hf, fun z3 => ?_⟩
        unfold compW at hq
        simp only [if_true, List.append_nil] at hq
        exact mkL_ok rs2 ra hq p nG z3
theorem c_lc {elt tg iter : Expr} {ifs : List Expr} {scope : Scope} {own : List (Str × Nat)} {pos : Pos} {mt : Bool} {src : Env → Store → Out Src} {g : SG} {t : ST} {e : SE} (hc : X.calm = true) (hN : X.N.Nodup) (hi : PI X tg iter (lI X.K cl E src)) (ok : BlkOk X.N X.env.scope scope own)
    (hg : ∀ (s : Shared) (H : Hp) (C : Addr) (cs : List (Str × Addr)) (fp : List Addr), PG (X.blk s H scope (compEnvC scope cs C X.env) fp) tg (lG X.K cl E0 (some (own.map (·.2))) g))
    (ht : ∀ (s : Shared) (H : Hp) (C : Addr) (cs : List (Str × Addr)) (fp : List Addr), PTs (X.blk s H scope (compEnvC scope cs C X.env) fp) ifs (lT X.K cl E0 t))
    (he : ∀ (s : Shared) (H : Hp) (C : Addr) (cs : List (Str × Addr)) (fp : List Addr), PE (X.blk s H scope (compEnvC scope cs C X.env) fp) elt (lE X.K cl E0 e)) (hs : ∀ x, foldedSetIterable iter X.env x = pure x) :
    PE X (.ListComp elt [⟨tg, iter, ifs, 0⟩] scope pos) (lE X.K cl E (mLC (own.map (·.2)) mt src g t e)) := by
  exact PE.via (pe_lc hc hN hi ok hg ht he hs) fun σ H Q _ h => l_lc σ H Q h
end
end Mir
end

section
set_option Elab.async false
set_option linter.all false
set_option maxRecDepth 100000
set_option maxHeartbeats 2000000
/-! Mir6a: isinstance; range of three; list(range(..)); repr; texts compared. -/
namespace Mir
open PySem PySem.Spec PyProof.Rows L2
section
variable {K : PySem.W.Frag} {cl : Nat → Addr} {E : XK} {ρ : Rho} {H : Hp} {S : Store} {σ : L2.St} {X : Cx}

/-! ### isinstance -/
inductive Ty where
  | non | bl | int | str | tup | lst | dic
  deriving DecidableEq
def Ty.name : Ty → String
  | .non => "NoneType"
  | .bl => "bool"
  | .int => "int"
  | .str => "str"
  | .tup => "tuple"
  | .lst => "list"
  | .dic => "dict"
def Ty.is : Ty → Ty → Bool
  | .non, .non => true
  | .bl, .bl => true
  | .bl, .int => true
  | .int, .int => true
  | .str, .str => true
  | .tup, .tup => true
  | .lst, .lst => true
  | .dic, .dic => true
  | _, _ => false
theorem ty_is : ∀ a b : Ty, b ≠ .non → kitB a.name b.name = some (a.is b) := by
  intro a b h
  cases b <;> first | exact absurd rfl h | (cases a <;> decide +kernel)
def tyOf (x : Str) : Option Ty := if x = "int" then some .int else if x = "bool" then some .bl else if x = "tuple" then some .tup else if x = "list" then some .lst else if x = "str" then some .str else none
def tyD (S : Store) : D → Option Ty
  | .non => some .non
  | .bl _ => some .bl
  | .int _ => some .int
  | .str _ => some .str
  | .tup _ => some .tup
  | .lst _ => some .lst
  | .scr _ => some .lst
  | .ref n => match S[n]? with
    | some (.lst _) => some .lst
    | some (.dic _ _) => some .dic
    | none => none
theorem tyD_at (rs : RelS K ρ S H) {d : D} {v : V} {t : Ty} (h : tyD S d = some t) (r : RD K ρ H d v) : TyX K H v (.type t.name) := by
  cases d with
  | non => cases r.ofNon; cases h; exact .base .non
  | bl b => cases r.ofBl; cases h; exact .base (.bl b)
  | int b => cases r.ofInt; cases h; exact .base (.int b)
  | str b => cases r.ofStr; cases h; exact .base (.str b)
  | tup xs =>
    cases h
    unfold RD at r
    obtain ⟨a, vs, rfl, h1, _⟩ := r
    exact .base (.tup h1.1)
  | lst xs =>
    cases h
    unfold RD at r
    obtain ⟨a, vs, rfl, h1, _⟩ := r
    exact .base (.lst h1.1)
  | scr ns =>
    cases h
    unfold RD at r
    obtain ⟨a, rfl, ⟨o, h1, _⟩ | ⟨o, its, n, h1, h2, _⟩⟩ := r
    · exact .base (.frz h1)
    · exact .kList h1 h2
  | ref n =>
    unfold RD at r
    obtain ⟨a, rfl, hn⟩ := r
    simp only [tyD] at h
    split at h
    · rename_i xs hS
      cases h
      obtain ⟨o, e, vs, rfl, _⟩ := rs.ob n a _ hn hS
      exact .base (.lst e)
    · rename_i k kvs hS
      cases h
      obtain ⟨o, e, q⟩ := rs.ob n a _ hn hS
      cases k with
      | false => obtain ⟨es, rfl, _⟩ := q; exact .base (.dK e)
      | true => obtain ⟨es, rfl, _⟩ := q; exact .base (.dT e)
    · cases h
def mIs (t : Ty) (a : SE) : SE := fun env S => (a env S).bind fun d S1 => match tyD S1 d with
  | some u => .ok (.bl (u.is t)) S1
  | none => .bad
theorem c_isi {x : Str} {a : Expr} {p q pos : Pos} {t : Ty} {ma : SE} (hb : bootBuiltins x = some (.type t.name)) (hnn : t ≠ .non) (hm : X.mg x = none) (hgx : Gl X x) (hn : x ≠ "__name__") (hd : (x == ("__debug__" : Str)) = false) (hg : Gl X "isinstance") (hi : X.mg "isinstance" = none)
    (ha : PE X a (lE X.K cl E ma)) (s1 : starEach [a, .Name x q] X.env = (false, eval a X.env) :: starEach [.Name x q] X.env) : PE X (.Call (.Name "isinstance" p) [a, .Name x q] [] pos) (lE X.K cl E (mIs t ma)) := by
  refine PE.via (pe_callB call_isi hg hi boot_isinstance (pa_cons ha (pa_cons (pe_bltn (v := .ty t.name) hgx hm hb rfl hn hd) pa_nil) s1) (by decide +kernel) (by decide +kernel) s1 rfl) fun σ H Q z h => ?_
  obtain ⟨ρ, env, S, rs, re, h⟩ := h
  refine lE_step rs re h fun v H1 ρ1 S1 d z1 g1 rs1 re1 rd h1 => ?_
  split at h1
  · rename_i u hu
    exact ⟨v, .ty t.name, _, _, _, rfl, .ty _, tyD_at rs1 hu rd, kit_ty (ty_is _ _ hnn), ok_val rs1 h1 RD.bl⟩
  · exact h1.elim

/-! ### range(a, b, c) -/
def rg3Ok (i j c : Int) : Bool := decide (c ≠ 0) && (Nat.blt c.natAbs 1073741824 && Builtin.Range.small i j c)
def rangeC (i c : Int) (n : Nat) : List D := (List.range n).map fun k : Nat => D.int (i + (k : Int) * c)
def mRange3 (as : SA) : Env → Store → Out Src := fun env S => (as env S).bind fun xs S1 => match xs with
  | [.int i, .int j, .int c] => if rg3Ok i j c then .ok (.items (rangeC i c (Builtin.Range.rangeSize i j c).toNat)) S1 else .bad
  | _ => .bad
theorem serves_rangeC {i c : Int} {n : Nat} : Serves K (Itc i c n) (.items (rangeC i c n)) ρ H := by
  intro ρ0 H0 _
  intro ρ1 H1 S1 g rs
  have hl : (Src.items (rangeC i c n)).len = n := by simp [Src.items, rangeC]
  refine ⟨fun k d hk e => ?_, fun _ => ?_⟩
  · rw [hl] at hk
    refine ⟨hk, fun x H2 y => ?_⟩
    obtain ⟨e1, e2⟩ := y
    subst e1 e2
    have e3 : (rangeC i c n)[k]? = some d := e
    unfold rangeC at e3
    rw [List.getElem?_map, List.getElem?_range hk] at e3
    cases e3
    exact ⟨Grow.refl, rs, RD.int⟩
  · show n ≤ (Src.items (rangeC i c n)).len
    rw [hl]
    exact Nat.le_refl _
theorem i_range3 {tg a b c : Expr} {p pos : Pos} {as : SA} (hg : Gl X "range") (hm : X.mg "range" = none) (ha : PA X [a, b, c] (lA X.K cl E as)) (hs : starEach [a, b, c] X.env = (false, eval a X.env) :: starEach [b, c] X.env)
    (hpl : (backTo pos (starEach [b, c] X.env)).any (·.1) = false) : PI X tg (.Call (.Name "range" p) [a, b, c] [] pos) (lI X.K cl E (mRange3 as)) := by
  refine PI.imp (pi_range3 hg hm ha hs hpl) fun σ H R z h => ?_
  obtain ⟨ρ, env, S, rs, re, h⟩ := h
  refine lA_step rs re h fun xs H1 ρ1 S1 ds z1 g1 rs1 re1 rd h1 => ?_
  split at h1
  · rename_i i j c
    split at h1
    · rename_i hr
      unfold rg3Ok at hr
      rw [Bool.and_eq_true, Bool.and_eq_true, decide_eq_true_eq] at hr
      obtain ⟨r1, r2, r3⟩ := hr
      have e0 := rd
      unfold RDs at e0
      obtain ⟨v, r, rfl, h1', e0⟩ := e0
      obtain ⟨u, w, rfl, h2', h3'⟩ := e0.two
      cases h1'.ofInt; cases h2'.ofInt; cases h3'.ofInt
      have nn : 0 ≤ Builtin.Range.rangeSize i j c := by
        unfold Builtin.Range.rangeSize
        split
        · split
          · have : 0 ≤ (j - i - 1) / c := Int.ediv_nonneg (by omega) (by omega)
            omega
          · omega
        · split
          · have : 0 ≤ (i - j - 1) / (-c) := Int.ediv_nonneg (by omega) (by omega)
            omega
          · omega
      refine ⟨i, j, c, (Builtin.Range.rangeSize i j c).toNat, rfl, ⟨r1, by simpa [Nat.blt_eq] using r2, r3, by omega⟩, h1 ρ1 H1 _ Grow.refl rs1 serves_rangeC⟩
    · exact h1.elim
  · exact h1.elim

/-! ### texts compared -/
def vEqS : V2 := fun a b S => match a, b with
  | .str x, .str y => .ok (.bl (decide (x = y))) S
  | a, b => vEq a b S
def vNeS : V2 := fun a b S => match a, b with
  | .str x, .str y => .ok (.bl (!decide (x = y))) S
  | a, b => vNe a b S
theorem or_eqS (hu : X.A.units + 65 < cLine) : OpR X (compareOp .Eq) (w2 X.K cl E vEqS) := by
  refine OpR.cases fun x y H Q z h => ?_
  obtain ⟨ρ, S, a, b, rs, ra, rb, h⟩ := h
  unfold vEqS at h
  split at h
  · cases ra.ofStr; cases rb.ofStr
    refine ⟨_, op_eq, rfl, ?_⟩
    have h2 := ok_val rs h RD.bl
    simpa using h2
  · exact ⟨_, or_eq (by omega), ρ, S, a, b, rs, ra, rb, OKo.mono h fun v H1 z q _ => q⟩
theorem or_neS (hu : X.A.units + 65 < cLine) : OpR X (compareOp .NotEq) (w2 X.K cl E vNeS) := by
  refine OpR.cases fun x y H Q z h => ?_
  obtain ⟨ρ, S, a, b, rs, ra, rb, h⟩ := h
  unfold vNeS at h
  split at h
  · cases ra.ofStr; cases rb.ofStr
    refine ⟨_, op_ne, rfl, ?_⟩
    have h2 := ok_val rs h RD.bl
    simpa using h2
  · exact ⟨_, or_ne (by omega), ρ, S, a, b, rs, ra, rb, OKo.mono h fun v H1 z q _ => q⟩
end
end Mir
end

section
set_option Elab.async false
set_option linter.all false
set_option maxRecDepth 100000
set_option maxHeartbeats 2000000
/-! Mir6b: chains of three; zip; -/
namespace Mir
open PySem PySem.Spec PyProof.Rows L2
section
variable {K : PySem.W.Frag} {cl : Nat → Addr} {E : XK} {ρ : Rho} {H : Hp} {S : Store} {σ : L2.St} {X : Cx}

/-! ### a op b op c op d -/
abbrev SK := D → Env → Store → Out D
def mLast (f : V2) (b : SE) : SK := fun x env S => (b env S).bind fun y S2 => f x y S2
def mLk (f : V2) (b : SE) (k : SK) : SK := fun x env S => (b env S).bind fun y S2 => (f x y S2).bind fun z S3 => match z with
  | .bl true => k y env S3
  | .bl false => .ok (.bl false) S3
  | _ => .bad
def mChain3 (f g h : V2) (a b c d : SE) : SE := fun env S => (a env S).bind fun x S1 => mLk f b (mLk g c (mLast h d)) x env S1
/-- what is behind a link, as a value, as a test -/
def CK (X : Cx) (cl : Nat → Addr) (E : XK) (pos : Pos) (ops : List CmpOp) (rs : List (Sem Value)) (k : SK) : Prop :=
  ∀ (pins : List (Addr × Obj)) (s : Shared) (σ : L2.St) (H : Hp) (ρ : Rho) (env : Env) (S : Store) (x : D) (v : V) (u : Value) (Q : VK), L2.Inv X pins σ H s → RelS X.K ρ S H → RelE X.K ρ H env σ → RD X.K ρ H x v → L2.RelV v u → OKo X.K cl E ρ H (RD X.K) Q (k x env S) →
    wpAny (model X.prog X.w) X.A (compareChain pos u ops rs) (EP X pins σ Q) X.xe s
def tstO (o : Out D) : Out Bool := o.bind fun x S1 => match x with
  | .bl k => .ok k S1
  | _ => .bad
def TK (X : Cx) (cl : Nat → Addr) (E : XK) (pos : Pos) (ops : List CmpOp) (rs : List (Sem Value)) (k : SK) : Prop :=
  ∀ (pins : List (Addr × Obj)) (s : Shared) (σ : L2.St) (H : Hp) (ρ : Rho) (env : Env) (S : Store) (x : D) (v : V) (u : Value) (Q : Bool → Hp → Prop), L2.Inv X pins σ H s → RelS X.K ρ S H → RelE X.K ρ H env σ → RD X.K ρ H x v → L2.RelV v u → OKo X.K cl E ρ H RB Q (tstO (k x env S)) →
    wpAny (model X.prog X.w) X.A (testChain pos u ops rs) (fun t s' => ∃ H', L2.Inv X pins σ H' s' ∧ Q t H') X.xe s
theorem fin_siz {pins : List (Addr × Obj)} {Q : VK} {v : Value} {s : Shared} (h : EP X pins σ (fun v H => Siz H → Q v H) v s) : EP X pins σ Q v s :=
  let ⟨x, H, I, r, q⟩ := h; ⟨x, H, I, r, q (siz_of I.hok)⟩
theorem ck_last {pos : Pos} {op : CmpOp} {b : Expr} {f : V2} {m : SE} (ho : OpR X (compareOp op) (w2 X.K cl E f)) (hb : PE X b (lE X.K cl E m)) : CK X cl E pos [op] [eval b X.env] (mLast f m) := by
  intro pins s σ H ρ env S x v u Q I rs re rx rv h
  refine chain_last (thn (hb.run pins s σ H _ I (lE_step rs re h fun y H1 ρ1 S1 d z1 g1 rs1 re1 rd h1 => (⟨ρ1, S1, x, d, rs1, rx.grow g1, rd, h1⟩ : w2 X.K cl E f v y H1 Q))) fun w s1 ⟨y, H1, I1, r1, q1⟩ => ?_)
  exact ho pins s1 σ H1 v y u w Q I1 rv r1 q1
theorem ck_link {pos : Pos} {op op' : CmpOp} {ops : List CmpOp} {r' : Sem Value} {rs' : List (Sem Value)} {b : Expr} {f : V2} {m : SE} {k : SK} (ho : OpR X (compareOp op) (w2 X.K cl E f)) (hb : PE X b (lE X.K cl E m)) (hk : CK X cl E pos (op' :: ops) (r' :: rs') k) :
    CK X cl E pos (op :: op' :: ops) (eval b X.env :: r' :: rs') (mLk f m k) := by
  intro pins s σ H ρ env S x v u Q I rs re rx rv h
  refine chain_link (thn (hb.run pins s σ H _ I (lE_step rs re h (P := fun y H1 => ∃ ρ1 S1 d, RelS X.K ρ1 S1 H1 ∧ RelE X.K ρ1 H1 env σ ∧ RD X.K ρ1 H1 x v ∧ RD X.K ρ1 H1 d y ∧ OKo X.K cl E ρ1 H1 (RD X.K) Q ((f x d S1).bind fun z S3 => match z with
    | .bl true => k d env S3
    | .bl false => .ok (.bl false) S3
    | _ => .bad)) fun y H1 ρ1 S1 d z1 g1 rs1 re1 rd h1 => ⟨ρ1, S1, d, rs1, re1, rx.grow g1, rd, h1⟩)) fun w s1 ⟨y, H1, I1, r1, ρ1, S1, d, rs1, re1, rx1, rd, h1⟩ => ?_)
  refine thn (ho pins s1 σ H1 v y u w _ I1 rv r1 ⟨ρ1, S1, x, d, rs1, rx1, rd, OKo.bind h1⟩) fun c s2 ⟨z, H2, I2, r2, ρ2, S2, zd, g2, rs2, rz, h2⟩ => ?_
  split at h2
  · cases rz.ofBl
    cases (show c = Value.bool true from r2)
    refine wpAny_truthy_bool (ite_tt ?_)
    exact hk pins s2 σ H2 ρ2 env S2 d y w Q I2 rs2 (re1.grow g2) (rd.grow g2) r1 h2
  · cases rz.ofBl
    cases (show c = Value.bool false from r2)
    exact wpAny_truthy_bool (ite_ff ⟨.bl false, H2, I2, rfl, ok_val rs2 h2 RD.bl (siz_of I2.hok)⟩)
  · exact h2.elim
theorem tst_bind {α : Type} (o : Out α) (f : α → Store → Out D) : tstO (o.bind f) = o.bind fun a S => tstO (f a S) := by cases o <;> rfl
theorem tk_last {pos : Pos} {op : CmpOp} {b : Expr} {f : V2} {m : SE} (ho : OpR X (compareOp op) (w2 X.K cl E f)) (hb : PE X b (lE X.K cl E m)) : TK X cl E pos [op] [eval b X.env] (mLast f m) := by
  intro pins s σ H ρ env S x v u Q I rs re rx rv h
  unfold mLast at h
  rw [tst_bind] at h
  refine test_last (thn (hb.run pins s σ H _ I (lE_step rs re h (P := fun y H1 => ∃ ρ1 S1 d, RelS X.K ρ1 S1 H1 ∧ RD X.K ρ1 H1 x v ∧ RD X.K ρ1 H1 d y ∧ OKo X.K cl E ρ1 H1 RB Q (tstO (f x d S1))) fun y H1 ρ1 S1 d z1 g1 rs1 re1 rd h1 => ⟨ρ1, S1, d, rs1, rx.grow g1, rd, h1⟩)) fun w s1 ⟨y, H1, I1, r1, ρ1, S1, d, rs1, rx1, rd, h1⟩ => ?_)
  refine thn (ho pins s1 σ H1 v y u w _ I1 rv r1 ⟨ρ1, S1, x, d, rs1, rx1, rd, OKo.bind h1⟩) fun c s2 ⟨z, H2, I2, r2, ρ2, S2, zd, g2, rs2, rz, h2⟩ => ?_
  split at h2
  · rename_i t
    cases rz.ofBl
    cases (show c = Value.bool t from r2)
    exact wpAny_truthy_bool ⟨H2, I2, h2 ρ2 H2 t Grow.refl rs2 rfl (siz_of I2.hok)⟩
  · exact h2.elim
theorem tk_link {pos : Pos} {op op' : CmpOp} {ops : List CmpOp} {r' : Sem Value} {rs' : List (Sem Value)} {b : Expr} {f : V2} {m : SE} {k : SK} (ho : OpR X (compareOp op) (w2 X.K cl E f)) (hb : PE X b (lE X.K cl E m)) (hk : TK X cl E pos (op' :: ops) (r' :: rs') k) :
    TK X cl E pos (op :: op' :: ops) (eval b X.env :: r' :: rs') (mLk f m k) := by
  intro pins s σ H ρ env S x v u Q I rs re rx rv h
  unfold mLk at h
  rw [tst_bind] at h
  refine test_link (thn (hb.run pins s σ H _ I (lE_step rs re h (P := fun y H1 => ∃ ρ1 S1 d, RelS X.K ρ1 S1 H1 ∧ RelE X.K ρ1 H1 env σ ∧ RD X.K ρ1 H1 x v ∧ RD X.K ρ1 H1 d y ∧ OKo X.K cl E ρ1 H1 RB Q (tstO ((f x d S1).bind fun z S3 => match z with
    | .bl true => k d env S3
    | .bl false => .ok (.bl false) S3
    | _ => .bad))) fun y H1 ρ1 S1 d z1 g1 rs1 re1 rd h1 => ⟨ρ1, S1, d, rs1, re1, rx.grow g1, rd, h1⟩)) fun w s1 ⟨y, H1, I1, r1, ρ1, S1, d, rs1, re1, rx1, rd, h1⟩ => ?_)
  rw [tst_bind] at h1
  refine thn (ho pins s1 σ H1 v y u w _ I1 rv r1 ⟨ρ1, S1, x, d, rs1, rx1, rd, OKo.bind h1⟩) fun c s2 ⟨z, H2, I2, r2, ρ2, S2, zd, g2, rs2, rz, h2⟩ => ?_
  split at h2
  · cases rz.ofBl
    cases (show c = Value.bool true from r2)
    refine wpAny_truthy_bool (ite_tt ?_)
    exact hk pins s2 σ H2 ρ2 env S2 d y w Q I2 rs2 (re1.grow g2) (rd.grow g2) r1 h2
  · cases rz.ofBl
    cases (show c = Value.bool false from r2)
    exact wpAny_truthy_bool (ite_ff ⟨H2, I2, h2 ρ2 H2 false Grow.refl rs2 rfl (siz_of I2.hok)⟩)
  · exact h2.elim
theorem c_chain3 {o1 o2 o3 : CmpOp} {a b c d : Expr} {pos : Pos} {f g h : V2} {ma mb mc md : SE} (h1 : OpR X (compareOp o1) (w2 X.K cl E f)) (h2 : OpR X (compareOp o2) (w2 X.K cl E g)) (h3 : OpR X (compareOp o3) (w2 X.K cl E h))
    (ha : PE X a (lE X.K cl E ma)) (hb : PE X b (lE X.K cl E mb)) (hc : PE X c (lE X.K cl E mc)) (hd : PE X d (lE X.K cl E md)) (hm : lastMarks [o1, o2, o3] [b, c, d] = false) :
    PE X (.Compare a [o1, o2, o3] [b, c, d] pos) (lE X.K cl E (mChain3 f g h ma mb mc md)) ∧ PT X (.Compare a [o1, o2, o3] [b, c, d] pos) (lT X.K cl E (mTst (mChain3 f g h ma mb mc md))) := by
  refine ⟨⟨fun pins s σ H Q I q => ?_⟩, ⟨fun pins s σ H Q I q => ?_⟩⟩
  · obtain ⟨ρ, env, S, rs, re, q⟩ := q
    refine Compare_chain (thn (ha.run pins s σ H _ I (lE_step rs re q (P := fun y H1 => ∃ ρ1 S1 d, RelS X.K ρ1 S1 H1 ∧ RelE X.K ρ1 H1 env σ ∧ RD X.K ρ1 H1 d y ∧ OKo X.K cl E ρ1 H1 (RD X.K) Q (mLk f mb (mLk g mc (mLast h md)) d env S1)) fun y H1 ρ1 S1 d z1 g1 rs1 re1 rd h1 => ⟨ρ1, S1, d, rs1, re1, rd, h1⟩)) fun w s1 ⟨y, H1, I1, r1, ρ1, S1, d', rs1, re1, rd, q1⟩ => ?_) hm
    exact ck_link h1 hb (ck_link h2 hc (ck_last h3 hd)) pins s1 σ H1 ρ1 env S1 d' y w Q I1 rs1 re1 rd r1 q1
  · obtain ⟨ρ, env, S, rs, re, q⟩ := q
    have q : OKo X.K cl E ρ H RB Q (tstO ((ma env S).bind fun x S1 => mLk f mb (mLk g mc (mLast h md)) x env S1)) := q
    rw [tst_bind] at q
    refine isTrue_chain (thn (ha.run pins s σ H _ I (lE_step rs re q (P := fun y H1 => ∃ ρ1 S1 d, RelS X.K ρ1 S1 H1 ∧ RelE X.K ρ1 H1 env σ ∧ RD X.K ρ1 H1 d y ∧ OKo X.K cl E ρ1 H1 RB Q (tstO (mLk f mb (mLk g mc (mLast h md)) d env S1))) fun y H1 ρ1 S1 d z1 g1 rs1 re1 rd h1 => ⟨ρ1, S1, d, rs1, re1, rd, h1⟩)) fun w s1 ⟨y, H1, I1, r1, ρ1, S1, d', rs1, re1, rd, q1⟩ => ?_) hm
    exact tk_link h1 hb (tk_link h2 hc (tk_last h3 hd)) pins s1 σ H1 ρ1 env S1 d' y w Q I1 rs1 re1 rd r1 q1

/-! ### zip of two -/
def pairsD : List D → List D → List D
  | x :: xs, y :: ys => .tup [x, y] :: pairsD xs ys
  | _, _ => []
def mZip (as : SA) : Env → Store → Out Src := fun env S => (as env S).bind fun xs S1 => match xs with
  | [.tup a, .tup b] => .ok (.items (pairsD a b)) S1
  | [.lst a, .lst b] => .ok (.items (pairsD a b)) S1
  | _ => .bad
theorem pairsD_get : ∀ {xs ys : List D} {i : Nat} {d : D}, (pairsD xs ys)[i]? = some d → ∃ x y, xs[i]? = some x ∧ ys[i]? = some y ∧ d = .tup [x, y]
  | [], _, _, _, h => by simp [pairsD] at h
  | _ :: _, [], _, _, h => by simp [pairsD] at h
  | x :: xs, y :: ys, i, d, h => by
    cases i with
    | zero => simp [pairsD] at h; exact ⟨x, y, rfl, rfl, h.symm⟩
    | succ i => exact pairsD_get (i := i) (xs := xs) (ys := ys) (by simpa [pairsD] using h)
theorem pairsD_len : ∀ xs ys : List D, (pairsD xs ys).length = min xs.length ys.length
  | [], _ => by simp [pairsD]
  | _ :: _, [] => by simp [pairsD]
  | x :: xs, y :: ys => by simp [pairsD, pairsD_len xs ys]
theorem serves0_zipT {as bs : List D} {v w : V} (r : RD K ρ H (.tup as) v) (r' : RD K ρ H (.tup bs) w) : ∃ a b xs ys, v = .ref a ∧ w = .ref b ∧ SqT K H a xs ∧ SqT K H b ys ∧ Serves0 K (RZ.ItzT K a b) (.items (pairsD as bs)) ρ H := by
  unfold RD at r r'
  obtain ⟨a, vs, rfl, h, q⟩ := r
  obtain ⟨b, ws, rfl, h', q'⟩ := r'
  refine ⟨a, b, vs, ws, rfl, rfl, SqT.of h.1, SqT.of h'.1, fun ρ1 H1 S1 g rs => ?_⟩
  have k1 := at_grow g h
  have k2 := at_grow g h'
  have q1 := q.grow g
  have q2 := q'.grow g
  have l1 := q.length
  have l2 := q'.length
  refine ⟨fun i d hi hd => ?_, fun _ => ⟨vs, ws, SqT.of k1.1, SqT.of k2.1, ?_⟩⟩
  · obtain ⟨x, y, hx, hy, rfl⟩ := pairsD_get (show (pairsD as bs)[i]? = some d from hd)
    obtain ⟨vx, hvx, rx⟩ := q1.get hx
    obtain ⟨vy, hvy, ry⟩ := q2.get hy
    refine ⟨⟨vs, ws, vx, vy, SqT.of k1.1, SqT.of k2.1, hvx, hvy⟩, fun z H2 yl => ?_⟩
    obtain ⟨T, x', y', rfl, hT, rfl, f1, f2⟩ := yl
    have e1 := f1 vs (SqT.of k1.1)
    have e2 := f2 ws (SqT.of k2.1)
    rw [hvx] at e1; rw [hvy] at e2
    cases e1; cases e2
    exact ⟨grow_upd hT, rs.out hT, RD.newTup rs hT (RDs.cons rx (RDs.cons ry RDs.nil))⟩
  · show vs.length ≤ (pairsD as bs).length ∨ ws.length ≤ (pairsD as bs).length
    rw [pairsD_len]
    omega
theorem serves0_zipL {as bs : List D} {v w : V} (r : RD K ρ H (.lst as) v) (r' : RD K ρ H (.lst bs) w) : ∃ a b xs ys, v = .ref a ∧ w = .ref b ∧ SqL K H a xs ∧ SqL K H b ys ∧ Serves0 K (Itz K a b) (.items (pairsD as bs)) ρ H := by
  unfold RD at r r'
  obtain ⟨a, vs, rfl, h, q⟩ := r
  obtain ⟨b, ws, rfl, h', q'⟩ := r'
  refine ⟨a, b, vs, ws, rfl, rfl, SqL.of h.1, SqL.of h'.1, fun ρ1 H1 S1 g rs => ?_⟩
  have k1 := at_grow g h
  have k2 := at_grow g h'
  have q1 := q.grow g
  have q2 := q'.grow g
  have l1 := q.length
  have l2 := q'.length
  refine ⟨fun i d hi hd => ?_, fun _ => ⟨vs, ws, SqL.of k1.1, SqL.of k2.1, ?_⟩⟩
  · obtain ⟨x, y, hx, hy, rfl⟩ := pairsD_get (show (pairsD as bs)[i]? = some d from hd)
    obtain ⟨vx, hvx, rx⟩ := q1.get hx
    obtain ⟨vy, hvy, ry⟩ := q2.get hy
    refine ⟨⟨vs, ws, vx, vy, SqL.of k1.1, SqL.of k2.1, hvx, hvy⟩, fun z H2 yl => ?_⟩
    obtain ⟨T, x', y', rfl, hT, rfl, f1, f2⟩ := yl
    have e1 := f1 vs (SqL.of k1.1)
    have e2 := f2 ws (SqL.of k2.1)
    rw [hvx] at e1; rw [hvy] at e2
    cases e1; cases e2
    exact ⟨grow_upd hT, rs.out hT, RD.newTup rs hT (RDs.cons rx (RDs.cons ry RDs.nil))⟩
  · show vs.length ≤ (pairsD as bs).length ∨ ws.length ≤ (pairsD as bs).length
    rw [pairsD_len]
    omega
theorem serves_zipT {as bs : List D} {v w : V} (r : RD K ρ H (.tup as) v) (r' : RD K ρ H (.tup bs) w) : ∃ a b xs ys, v = .ref a ∧ w = .ref b ∧ SqT K H a xs ∧ SqT K H b ys ∧ Serves K (RZ.ItzT K a b) (.items (pairsD as bs)) ρ H := by
  obtain ⟨a, b, xs, ys, rfl, rfl, h1, h2, _⟩ := serves0_zipT r r'
  refine ⟨a, b, xs, ys, rfl, rfl, h1, h2, fun ρ0 H0 sh => ?_⟩
  obtain ⟨_, _, _, _, e1, e2, _, _, z⟩ := serves0_zipT (r.shr sh) (r'.shr sh)
  cases e1; cases e2
  exact z
theorem serves_zipL {as bs : List D} {v w : V} (r : RD K ρ H (.lst as) v) (r' : RD K ρ H (.lst bs) w) : ∃ a b xs ys, v = .ref a ∧ w = .ref b ∧ SqL K H a xs ∧ SqL K H b ys ∧ Serves K (Itz K a b) (.items (pairsD as bs)) ρ H := by
  obtain ⟨a, b, xs, ys, rfl, rfl, h1, h2, _⟩ := serves0_zipL r r'
  refine ⟨a, b, xs, ys, rfl, rfl, h1, h2, fun ρ0 H0 sh => ?_⟩
  obtain ⟨_, _, _, _, e1, e2, _, _, z⟩ := serves0_zipL (r.shr sh) (r'.shr sh)
  cases e1; cases e2
  exact z
theorem i_zip {elts : List Expr} {kk : Nat} {a b : Expr} {p pos tpos : Pos} {as : SA} (hg : Gl X "zip") (hm : X.mg "zip" = none) (ha : PA X [a, b] (lA X.K cl E as)) (hs : starEach [a, b] X.env = (false, eval a X.env) :: starEach [b] X.env)
    (hpl : (backTo pos (starEach [b] X.env)).any (·.1) = false) : PI X (.Tuple elts kk tpos) (.Call (.Name "zip" p) [a, b] [] pos) (lI X.K cl E (mZip as)) := by
  refine PI.imp (RZ.pi_zipA hg hm ha hs hpl) fun σ H R z h => ?_
  obtain ⟨ρ, env, S, rs, re, h⟩ := h
  refine lA_step rs re h fun xs H1 ρ1 S1 ds z1 g1 rs1 re1 rd h1 => ?_
  split at h1
  · obtain ⟨v, w, rfl, r1, r2⟩ := rd.two
    obtain ⟨a, b, xs, ys, rfl, rfl, q1, q2, sv⟩ := serves_zipT r1 r2
    exact ⟨a, b, xs, ys, rfl, .inr ⟨q1, q2, h1 ρ1 H1 _ Grow.refl rs1 sv⟩⟩
  · obtain ⟨v, w, rfl, r1, r2⟩ := rd.two
    obtain ⟨a, b, xs, ys, rfl, rfl, q1, q2, sv⟩ := serves_zipL r1 r2
    exact ⟨a, b, xs, ys, rfl, .inl ⟨q1, q2, h1 ρ1 H1 _ Grow.refl rs1 sv⟩⟩
  · exact h1.elim

/-! ### enumerate of a list -/
def enumD : Nat → List D → List D
  | _, [] => []
  | i, x :: xs => .tup [.int (i : Nat), x] :: enumD (i + 1) xs
theorem enumD_get : ∀ {xs : List D} {k i : Nat} {d : D}, (enumD k xs)[i]? = some d → ∃ x, xs[i]? = some x ∧ d = .tup [.int ((k + i : Nat) : Int), x]
  | [], _, _, _, h => by simp [enumD] at h
  | x :: xs, k, i, d, h => by
    cases i with
    | zero => simp [enumD] at h; exact ⟨x, rfl, h.symm⟩
    | succ i =>
      obtain ⟨y, h1, h2⟩ := enumD_get (i := i) (k := k + 1) (xs := xs) (by simpa [enumD] using h)
      refine ⟨y, h1, ?_⟩
      rw [h2]
      have e : k + 1 + i = k + (i + 1) := by omega
      rw [e]
theorem enumD_len : ∀ (k : Nat) (xs : List D), (enumD k xs).length = xs.length
  | _, [] => rfl
  | k, x :: xs => by simp [enumD, enumD_len (k + 1) xs]
def mEnum (as : SA) : Env → Store → Out Src := fun env S => (as env S).bind fun xs S1 => match xs with
  | [.lst a] => .ok (.items (enumD 0 a)) S1
  | _ => .bad
theorem serves0_enum {as : List D} {v : V} (r : RD K ρ H (.lst as) v) : ∃ a xs, v = .ref a ∧ SqL K H a xs ∧ Serves0 K (Ite K a) (.items (enumD 0 as)) ρ H := by
  unfold RD at r
  obtain ⟨a, vs, rfl, h, q⟩ := r
  refine ⟨a, vs, rfl, SqL.of h.1, fun ρ1 H1 S1 g rs => ?_⟩
  have k1 := at_grow g h
  have q1 := q.grow g
  have l1 := q.length
  refine ⟨fun i d hi hd => ?_, fun _ => ⟨vs, SqL.of k1.1, ?_⟩⟩
  · obtain ⟨x, hx, rfl⟩ := enumD_get (show (enumD 0 as)[i]? = some d from hd)
    obtain ⟨vx, hvx, rx⟩ := q1.get hx
    refine ⟨⟨vs, vx, SqL.of k1.1, hvx⟩, fun z H2 yl => ?_⟩
    obtain ⟨T, x', rfl, hT, rfl, f1⟩ := yl
    have e1 := f1 vs (SqL.of k1.1)
    rw [hvx] at e1
    cases e1
    refine ⟨grow_upd hT, rs.out hT, ?_⟩
    rw [Nat.zero_add]
    exact RD.newTup rs hT (RDs.cons RD.int (RDs.cons rx RDs.nil))
  · show vs.length ≤ (enumD 0 as).length
    rw [enumD_len]
    omega
theorem serves_enum {as : List D} {v : V} (r : RD K ρ H (.lst as) v) : ∃ a xs, v = .ref a ∧ SqL K H a xs ∧ Serves K (Ite K a) (.items (enumD 0 as)) ρ H := by
  obtain ⟨a, xs, rfl, h, _⟩ := serves0_enum r
  refine ⟨a, xs, rfl, h, fun ρ0 H0 sh => ?_⟩
  obtain ⟨_, _, e, _, z⟩ := serves0_enum (r.shr sh)
  cases e
  exact z
theorem i_enum {elts : List Expr} {kk : Nat} {a : Expr} {p pos tpos : Pos} {as : SA} (hg : Gl X "enumerate") (hm : X.mg "enumerate" = none) (ha : PA X [a] (lA X.K cl E as)) (hs : starEach [a] X.env = [(false, eval a X.env)]) :
    PI X (.Tuple elts kk tpos) (.Call (.Name "enumerate" p) [a] [] pos) (lI X.K cl E (mEnum as)) := by
  refine PI.imp (pi_enum hg hm ha hs) fun σ H R z h => ?_
  obtain ⟨ρ, env, S, rs, re, h⟩ := h
  refine lA_step rs re h fun xs H1 ρ1 S1 ds z1 g1 rs1 re1 rd h1 => ?_
  split at h1
  · obtain ⟨v, rfl, r1⟩ := rd.one
    obtain ⟨a, xs, rfl, q1, sv⟩ := serves_enum r1
    exact ⟨a, xs, rfl, q1, h1 ρ1 H1 _ Grow.refl rs1 sv⟩
  · exact h1.elim
end
end Mir
end

section
set_option Elab.async false
set_option linter.all false
set_option maxRecDepth 100000
set_option maxHeartbeats 4000000
/-! Mir6c: {k: v for ..}, keys of either kind. -/
namespace Mir
open PySem PySem.Spec PyProof.Rows L2
section
variable {X : Cx}
theorem d_put {pins : List (Addr × Obj)} {σ : L2.St} {H H' : Hp} {s : Shared} {Ex : Value → Shared → Prop} {D : Addr} {y v : V} {u r : Value} {Q : Unit → Shared → Prop} (hu : X.A.units + 1 < cLine) (I : L2.Inv X pins σ H s) (g : DPut H D y v H') (ry : L2.RelV y u) (rv : L2.RelV v r)
    (h : ∀ s', L2.Inv X pins σ H' s' → Q () s') : wpAny (model X.prog X.w) X.A (dictSet D u r) Q Ex s := by
  rcases g with ⟨kvs, k, e, ey, l, eH⟩ | ⟨kvs, k, b, e, ey, eb, l, eH⟩
  · subst ey
    subst eH
    exact d_dictSet I e l ry rv h
  · subst ey
    subst eH
    cases (show u = Value.ref b from ry)
    obtain ⟨z, hd, xs, rel, dd⟩ := dt_of I.hok e
    have small : xs.length ≤ sizeLine := Nat.le_trans (Nat.le_of_eq (Paired.length rel).symm) z
    have grown := length_putK kvs k v
    refine wpAny_dictSet_heap (hsz := small) (show X.A.units < cLine by omega) (key_of I.hok eb) dd fun h2 dd2 hs2 => h _ ?_
    obtain ⟨ob, es, ep, hob, c1, c2, c3, _, c4⟩ := dd2
    refine d_write I (by rw [e]; exact True.intro) hs2 ⟨ob, hob⟩ ⟨by omega, hd, _, (rel.put k eb rv).keeps fun c ys ec => ?_, ob, es, ep, hob, c1, c2, c3, c4⟩
    rw [upd_ne (ne_of ec e (fun z => nomatch z))]
    exact ec
/-- the new dict -/
def dic0 (t : Bool) : HO := if t then .dT [] else .dK []
theorem dic0_ok {P : Program} {w : World} {H : Hp} (t : Bool) (h : Heap) (hb : sysModules < h.objs.size) : ObjOk P w H (h.push { cls := .type "dict", data := .dict #[] }) h.objs.size (dic0 t) := by
  cases t with
  | false => exact dk_empty h hb
  | true => exact dt_empty h hb
/-- {k: v for target in iter if ..}: D the new dict -/
def tDcA (t : Bool) (wi : TI) (g : TG) (tt : TT) (tk tv : TE) (vs : List Nat) : TE := fun σ H Q => wi σ H fun J H1 => ∀ D, H1 D = none → ∃ W : Nat → Nat → Hp → Prop, (∃ m, W 0 m (upd H1 D (dic0 t))) ∧ ∀ i m H, W i m H →
  (J.stop i H ∧ Q (.ref D) H) ∨ (J.go i H ∧ ∃ Nx : Hp → Prop, (∀ H', Nx H' → ∃ m', m' < m ∧ W (i + 1) m' H') ∧ ∀ x H', J.yld i H x H' → g x (wipe σ vs) H' fun σ2 H2 => wipe σ2 vs = wipe σ vs ∧ tt σ2 H2 fun b H3 =>
    if b = true then tk σ2 H3 fun y H4 => tv σ2 H4 fun z H5 => ∃ H6, DPut H5 D y z H6 ∧ Nx H6 else Nx H3)
theorem pe_dcA {t : Bool} {kx vx tg iter : Expr} {ifs : List Expr} {scope : Scope} {own : List (Str × Nat)} {pos : Pos} {wi : TI} {g : TG} {tt : TT} {tk tv : TE} (hu : X.A.units + 1 < cLine) (calm : X.calm = true) (nd : X.N.Nodup) (hi : PI X tg iter wi) (ok : BlkOk X.N X.env.scope scope own)
    (hg : ∀ (s : Shared) (H : Hp) (C : Addr) (cl : List (Str × Addr)) (fp : List Addr), PG (X.blk s H scope (compEnvC scope cl C X.env) fp) tg g)
    (ht : ∀ (s : Shared) (H : Hp) (C : Addr) (cl : List (Str × Addr)) (fp : List Addr), PTs (X.blk s H scope (compEnvC scope cl C X.env) fp) ifs tt)
    (hk : ∀ (s : Shared) (H : Hp) (C : Addr) (cl : List (Str × Addr)) (fp : List Addr), PE (X.blk s H scope (compEnvC scope cl C X.env) fp) kx tk)
    (he : ∀ (s : Shared) (H : Hp) (C : Addr) (cl : List (Str × Addr)) (fp : List Addr), PE (X.blk s H scope (compEnvC scope cl C X.env) fp) vx tv)
    (hs : ∀ x, foldedSetIterable iter X.env x = pure x) : PE X (.DictComp kx vx [⟨tg, iter, ifs, 0⟩] scope pos) (tDcA t wi g tt tk tv (own.map (·.2))) := by
  refine ⟨fun pins s σ H Q I h => ?_⟩
  rw [arm_eval_DictComp]
  have cells : ∀ y ∈ scope.names, y.2 = .free → ∃ c, X.env.cells.lookup y.1 = some c := by
    intro y hy e
    rcases ok.free y hy e with k | k
    · exact I.ok.has _ (.inl k)
    · exact I.ok.has _ (.inr k)
  refine wpAny_comprehension_free (use := none) rfl hs (closure_ok cells) ok.kind (fun y hy e => (ok.uniq y hy).trans (congrArg some e)) ?_
  refine thn (hi.run pins s σ H _ I h) fun xv sa hx => thn hx fun itv sb hb => ?_
  obtain ⟨it, fp, tn, J, Hb, rfl, Ib, T, stb, fb, q⟩ := hb
  refine wpAny_newObj_type (newEnv_comp ?_)
  generalize hD : sb.heap.objs.size = D
  have newD : Hb D = none := Ib.hok.fresh (Nat.le_of_eq hD)
  obtain ⟨W, ⟨m0, w0⟩, turn⟩ := q D newD
  generalize hsc : ({ sb with heap := sb.heap.push { cls := .type "dict", data := .dict #[] } } : Shared) = sc
  have Ic : L2.Inv X pins σ (upd Hb D (dic0 t)) sc := by
    subst hsc
    subst hD
    exact Ib.laid (t' := sb.toks) (fun b o e => Heap.get?_push_of_some _ e) (Nat.le_refl _) (dic0_ok t sb.heap Ib.big)
  have hpc : sc.heap = sb.heap.push { cls := .type "dict", data := .dict #[] } := by rw [← hsc]
  have older : ∀ b ∈ fp, b < sb.heap.objs.size := by
    intro b hb
    obtain ⟨o, e, _⟩ := T.obj _ _ stb b hb
    exact Heap.lt_size e
  have fc : ∀ b ∈ fp, FpOk X pins (upd Hb D (dic0 t)) b ∧ b < sc.heap.objs.size := by
    intro b hb
    have lt := older b hb
    refine ⟨⟨?_, (fb b hb).2⟩, ?_⟩
    · rw [upd_ne (Nat.ne_of_lt (hD ▸ lt))]
      exact (fb b hb).1
    · rw [hpc, Heap.size_push]
      exact Nat.lt_succ_of_lt lt
  have stc : tn 0 sc.heap := T.keep _ _ _ stb fun b _ o e => by
    rw [hpc]
    exact Heap.get?_push_of_some _ e
  have Id := block_start Ic ok nd fc
  have pg := hg sc (upd Hb D (dic0 t)) sc.heap.objs.size (cellsFrom (sc.heap.objs.size + 1) scope.names (cloFrom X.env.cells scope.names [])) fp
  have pt := ht sc (upd Hb D (dic0 t)) sc.heap.objs.size (cellsFrom (sc.heap.objs.size + 1) scope.names (cloFrom X.env.cells scope.names [])) fp
  have pk := hk sc (upd Hb D (dic0 t)) sc.heap.objs.size (cellsFrom (sc.heap.objs.size + 1) scope.names (cloFrom X.env.cells scope.names [])) fp
  have pv := he sc (upd Hb D (dic0 t)) sc.heap.objs.size (cellsFrom (sc.heap.objs.size + 1) scope.names (cloFrom X.env.cells scope.names [])) fp
  show codeAny _ _ (.compStart (.DictComp kx vx [⟨tg, iter, ifs, 0⟩] scope pos) 0 (.ref it) (.ref D) (compEnvC scope (cellsFrom (sc.heap.objs.size + 1) scope.names (cloFrom X.env.cells scope.names [])) sc.heap.objs.size X.env)) (compPost (model X.prog X.w) X.A X.xe none (EP X pins σ Q) (.ref D) sc.heap.objs.size) { sc with heap := pushCells (sc.heap.push { cls := .type "dict", data := .dict #[] }) scope.names }
  have unseen : ∀ b ∈ fp, (upd Hb D (dic0 t)) b = none := fun b hb => (fc b hb).1.1
  generalize hce : compEnvC scope (cellsFrom (sc.heap.objs.size + 1) scope.names (cloFrom X.env.cells scope.names [])) sc.heap.objs.size X.env = ce at Id pg pt pk pv ⊢
  have ceL : ce.locals = sc.heap.objs.size := by rw [← hce]; rfl
  generalize hHc : upd Hb D (dic0 t) = Hc at Ic Id pg pt pk pv w0 unseen fc
  generalize hsd : ({ sc with heap := pushCells (sc.heap.push { cls := .type "dict", data := .dict #[] }) scope.names } : Shared) = sd at Id ⊢
  have std : tn 0 sd.heap := T.keep _ _ _ stc fun b _ o e => by
    rw [← hsd]
    exact pushCells_keeps _ _ _ _ (Heap.get?_push_of_some _ e)
  have own1 : ∀ {σ' : L2.St} {H' : Hp} {s' : Shared}, L2.Inv (X.blk sc Hc scope ce fp) [] σ' H' s' → (∀ b ∈ fp, H' b = none) → ∀ b ∈ fp, FpOk (X.blk sc Hc scope ce fp) [] H' b := by
    intro σ' H' s' I' hn b hb
    exact ⟨hn b hb, (I'.ok.exf b hb).1, I'.ok.exfs b hb, .inl hb, fun x c e => (I'.ok.exf b hb).2 x c e, fun p hp => absurd (show p ∈ ([] : List (Addr × Obj)) ++ [] from hp) (by simp)⟩
  suffices walk : codeAny (model X.prog X.w) X.A (.compLoop (.DictComp kx vx [⟨tg, iter, ifs, 0⟩] scope pos) 0 (.ref it) (.ref D) ce) (compPost (model X.prog X.w) X.A X.xe none (EP X pins σ Q) (.ref D) sc.heap.objs.size) sd from
    codeAny_compStart_dict walk (T.self X.A 0 _ _ _ std walk)
  · refine compLoop_anyD (fun n s' => ∃ i H', L2.Inv (X.blk sc Hc scope ce fp) [] (wipe σ (own.map (·.2))) H' s' ∧ tn i s'.heap ∧ (∀ b ∈ fp, H' b = none) ∧ W i n H') ?_ m0 ⟨0, Hc, Id, std, unseen, w0⟩
    rintro n se ⟨i, He, Ie, ste, ne, we⟩
    rcases turn i n He we with ⟨stop, qq⟩ | ⟨go, Nx, less, step⟩
    · refine thnF (T.done (X.blk sc Hc scope ce fp) rfl rfl rfl calm i [] se _ He (fun _ _ => False) Ie (own1 Ie ne) ste stop) fun r sf ⟨hr, If⟩ => ?_
      subst hr
      have Ig : L2.Inv X pins σ He sf := Ic.call' (ch := fp) If.os If.base If.hok If.bare fun b hb => ⟨(fc b hb).1.2.2.2.1, (fc b hb).1.2.1, (fc b hb).1.2.2.2.2.1, (fc b hb).1.2.2.2.2.2⟩
      have nC : He sc.heap.objs.size = none := by
        have z : He ce.locals = none := If.free
        rwa [ceL] at z
      obtain ⟨m, hn, _⟩ := If.loc
      have hn : sf.heap.Ns ce.locals m := hn
      rw [ceL] at hn
      obtain ⟨f0, f1, f2, f3, f4, f5⟩ := Ic.fpOk (H' := He) (Nat.le_refl _) nC
      exact ⟨m, hn, fun h'' sb' => ⟨.ref D, He, Ig.turned (t' := sf.toks) (fun b o hb e => (sb'.2 b hb).trans e) f0 f1 f3 f4 f5, rfl, qq⟩⟩
    · refine thnF (T.item (X.blk sc Hc scope ce fp) rfl rfl rfl calm i [] se _ He (fun _ _ => False) Ie (own1 Ie ne) ste go) fun r sf ⟨u, hr, hf⟩ => ?_
      subst hr
      refine thnF hf fun _ sg ⟨x, Hg, Ig, rg, yg, stg, ng⟩ => ?_
      have Ig' := Ig.pinned (own1 Ig ng) (T.obj _ _ stg)
      refine thnF (pg.run _ sg _ Hg x u _ Ig' rg (step x Hg yg)) fun _ sh ⟨σh, Hh, Ih, wh, qh⟩ => ?_
      refine thnF (pt.run _ sh σh Hh _ Ih qh) fun b si ⟨Hi, Ii, qi⟩ => ?_
      have fin : ∀ {s' : Shared} {H' : Hp}, L2.Inv (X.blk sc Hc scope ce fp) ([] ++ pinsAt fp sg.heap) σh H' s' → Nx H' → ∃ m, m < n ∧ ∃ i H', L2.Inv (X.blk sc Hc scope ce fp) [] (wipe σ (own.map (·.2))) H' s' ∧ tn i s'.heap ∧ (∀ b ∈ fp, H' b = none) ∧ W i m H' := by
        intro s' H' I' nx
        obtain ⟨m', hm, w'⟩ := less H' nx
        have held : ∀ b ∈ fp, ∀ o, sg.heap.get? b = some o → s'.heap.get? b = some o ∧ H' b = none := by
          intro b hb o e
          have z := I'.pin (b, o) (List.mem_append_right _ (List.mem_append_right _ (mem_pinsAt hb e)))
          exact ⟨z.1, z.2.1⟩
        have hl : (wipe σ (own.map (·.2))).length = σh.length := by rw [← wh, wipe_length]
        refine ⟨m', hm, i + 1, H', (I'.unpinned (pins := [])).weak hl (fun j v e => ?_), T.keep _ _ _ stg fun b hb o e => (held b hb o e).1, fun b hb => ?_, w'⟩
        · rw [← wh] at e
          exact (wipe_some e).1
        · obtain ⟨o, e, _⟩ := T.obj _ _ stg b hb
          exact (held b hb o e).2
      cases b with
      | false =>
        simp only [Bool.false_eq_true, if_false] at qi ⊢
        exact fin Ii qi
      | true =>
        simp only [if_true] at qi ⊢
        refine thnF (pk.run _ si σh Hi _ Ii qi) fun zk sj ⟨yk, Hj, Ij, rj, qj⟩ => ?_
        refine thnF (pv.run _ sj σh Hj _ Ij qj) fun zv sk ⟨yv, Hk, Ik, rk, H6, put, nx⟩ => ?_
        exact d_put (X := X.blk sc Hc scope ce fp) hu Ik put rj rk fun sl Il => fin Il nx
end
end Mir
namespace Mir
open PySem PySem.Spec PyProof.Rows L2
section
variable {K : PySem.W.Frag} {cl : Nat → Addr} {E : XK} {ρ : Rho} {H : Hp} {S : Store} {σ : L2.St} {X : Cx}
def dcL (t : Bool) (get : Nat → Store → Option D) (fin : Store → Bool) (f : D → Store → Out (Option (D × D))) : Nat → Nat → List (D × D) → Store → Out (List (D × D))
  | 0, _, kvs, S => if fin S then .ok kvs S else .bad
  | k + 1, i, kvs, S => match get i S with
    | some d => match f d S with
      | .ok none S1 => dcL t get fin f k (i + 1) kvs S1
      | .ok (some (a, b)) S1 => if isKey t a && Nat.ble kvs.length 16000000 then dcL t get fin f k (i + 1) (dPut t kvs a b) S1 else .bad
      | _ => .bad
    | none => .bad
def mPair (own : List Nat) (g : SG) (t : ST) (k v : SE) (env : Env) (d : D) (S : Store) : Out (Option (D × D)) :=
  (g d (wipeE env own) S).bind fun env1 S1 => (t env1 S1).bind fun c S2 => if c then (k env1 S2).bind fun y S3 => (v env1 S3).bind fun z S4 => .ok (some (y, z)) S4 else .ok none S2
def newDic (t : Bool) : Out (List (D × D)) → Out D
  | .ok kvs S2 => .ok (.ref S2.length) (S2 ++ [.dic t kvs])
  | _ => .bad
def mDC (own : List Nat) (t : Bool) (src : Env → Store → Out Src) (g : SG) (c : ST) (k v : SE) : SE := fun env S => (src env S).bind fun s S1 => newDic t (dcL t s.get s.fin (mPair own g c k v env) s.len 0 [] S1)
theorem dput_ob {ρ' : Rho} {H5 H' : Hp} {p : Addr} {t : Bool} {kvs : List (D × D)} {h : HO} {a b : D} {y z : V} (r : ROb K ρ' H' (.dic t kvs) h) (ra : RD K ρ' H' a y) (rb : RD K ρ' H' b z) (hk : isKey t a = true) (hl : kvs.length ≤ 16000000) (e : H5 p = some h)
    (sub : ∀ q u, H' q = some u → H5 q = some u) : ∃ h', DPut H5 p y z (upd H5 p h') ∧ ROb K ρ' H' (.dic t (dPut t kvs a b)) h' := by
  have line := sizeLine_eq
  cases t with
  | false =>
    obtain ⟨es, rfl, q⟩ := r
    obtain ⟨kk, hkk⟩ := Option.isSome_iff_exists.mp (show (keyD a).isSome = true from hk)
    have hle : kvs.length = es.length := Paired.length q
    cases keyD_at hkk ra
    exact ⟨_, DPut.k e (by omega), _, rfl, put_at q hkk rb⟩
  | true =>
    obtain ⟨es, rfl, q⟩ := r
    obtain ⟨kk, hkk⟩ := Option.isSome_iff_exists.mp (show (keyT a).isSome = true from hk)
    have hle : kvs.length = es.length := Paired.length q
    obtain ⟨c, rfl, hc⟩ := keyT_at hkk ra
    exact ⟨_, DPut.t e (sub _ _ hc) (by omega), _, rfl, put_at q hkk rb⟩
theorem dic0_ob (t : Bool) : ROb K ρ H (.dic t []) (dic0 t) := by
  cases t with
  | false => exact ⟨[], rfl, .nil⟩
  | true => exact ⟨[], rfl, .nil⟩
theorem l_dc {t : Bool} {vs : List Nat} {src : Env → Store → Out Src} {g : SG} {c : ST} {k v : SE} (σ : L2.St) (H : Hp) (Q : VK) (h : lE K cl E (mDC vs t src g c k v) σ H Q) :
    tDcA t (lI K cl E src) (lG K cl E0 (some vs) g) (lT K cl E0 c) (lE K cl E0 k) (lE K cl E0 v) vs σ H (fun v H' => Siz H' → Q v H') := by
  obtain ⟨ρ, env, S, rs, re, h⟩ := h
  refine ⟨ρ, env, S, rs, re, OKo.mono (OKo.bind h) fun J H1 z1 ⟨ρ1, S1, s, g1, rs1, sv, h1⟩ => ?_⟩
  clear h
  intro p np
  have re1 := re.grow g1
  refine ⟨fun i m H2 => ∃ ρ2 S2 G kvs hd, H2 = upd G p hd ∧ G p = none ∧ Grow ρ1 H1 ρ2 G ∧ RelS K ρ2 S2 G ∧ ROb K ρ2 G (.dic t kvs) hd ∧ m = s.len - i ∧ i ≤ s.len ∧ OKo K cl E ρ2 G (RD K) Q (newDic t (dcL t s.get s.fin (mPair vs g c k v env) (s.len - i) i kvs S2)),
    ⟨s.len, ρ1, S1, H1, [], _, rfl, np, Grow.refl, rs1, dic0_ob t, by simp, Nat.zero_le _, h1⟩, ?_⟩
  rintro i m H2 ⟨ρ2, S2, G, kvs, hd, rfl, nG, g2, rs2, ra, rfl, hi2, hq⟩
  have g2' : Grow ρ1 H1 (ρ2.hide p) (upd G p hd) := g2.trans (grow_hide nG)
  have rs2' : RelS K (ρ2.hide p) S2 (upd G p hd) := rs2.hide nG (ntab_ob ra)
  have nh : p ∉ ρ2.h := fun z => rs2.fresh nG (List.mem_append_right _ z)
  obtain ⟨sv1, sv2⟩ := sv _ _ .refl (ρ2.hide p) _ S2 g2' rs2'
  by_cases hlt : i < s.len
  · refine .inr ?_
    have hk : s.len - i = (s.len - (i + 1)) + 1 := by omega
    rw [hk] at hq
    unfold dcL at hq
    cases hget : s.get i S2 with
    | none => rw [hget] at hq; exact hq.elim
    | some d =>
      rw [hget] at hq
      obtain ⟨go, yld⟩ := sv1 i d hlt hget
      refine ⟨go, fun H3 => ∃ ρ2 S2 G kvs hd, H3 = upd G p hd ∧ G p = none ∧ Grow ρ1 H1 ρ2 G ∧ RelS K ρ2 S2 G ∧ ROb K ρ2 G (.dic t kvs) hd ∧ OKo K cl E ρ2 G (RD K) Q (newDic t (dcL t s.get s.fin (mPair vs g c k v env) (s.len - (i + 1)) (i + 1) kvs S2)),
        fun H3 ⟨ρ3, S3, G3, kv3, hd3, e1, e2, e3, e4, e5, e6⟩ => ⟨s.len - (i + 1), by omega, ρ3, S3, G3, kv3, hd3, e1, e2, e3, e4, e5, rfl, hlt, e6⟩, fun x H3 y => ?_⟩
      obtain ⟨gy, rsy, ry⟩ := yld x H3 y
      have back : ∀ {ρ4 : Rho} {H4 : Hp} {S4 : Store}, Grow (ρ2.hide p) (upd G p hd) ρ4 H4 → RelS K ρ4 S4 H4 → H4 p = some hd ∧ Grow ρ2 G (ρ4.shw p) (del H4 p) ∧ RelS K (ρ4.shw p) S4 (del H4 p) ∧ p ∈ ρ4.h := by
        intro ρ4 H4 S4 g4 rs4
        obtain ⟨_, ga, gm⟩ := Grow.shw nG nh g4
        have pl : p ∉ (ρ2.hide p).l := fun z => nl_of (rs2.fresh nG) z
        exact ⟨g4.fr p _ upd_same pl (ntab_ob ra).1, ga, rs4.shw gm, gm⟩
      have rew : RelE K (ρ2.hide p) H3 (wipeE env vs) (L2.wipe σ vs) := ((re1.grow g2').grow gy).wipe vs
      dsimp only at hq
      rw [mPair] at hq
      refine ⟨ρ2.hide p, wipeE env vs, S2, d, rsy, rew, ry, ?_⟩
      cases hg1 : g d (wipeE env vs) S2 with
      | bad => rw [hg1] at hq; exact hq.elim
      | ex c S3 => rw [hg1] at hq; exact hq.elim
      | ok env1 S3 =>
        rw [hg1] at hq
        intro ρ4 H4 σ4 g4 rs4 re4 z4 w4
        refine ⟨(show wipe σ4 vs = wipe (wipe σ vs) vs from w4).trans (wipe_idem σ vs), ρ4, env1, S3, rs4, re4, ?_⟩
        have g4 := gy.trans g4
        cases ht1 : c env1 S3 with
        | bad => simp only [Out.bind, ht1] at hq; exact hq.elim
        | ex c S5 => simp only [Out.bind, ht1] at hq; exact hq.elim
        | ok c1 S5 =>
          simp only [Out.bind, ht1] at hq
          intro ρ5 H5 c' g5 rs5 rc z5
          cases (show c1 = c' from rc)
          have g5' := g4.trans g5
          cases c1 with
          | false =>
            rw [if_neg Bool.false_ne_true] at hq ⊢
            obtain ⟨hp5, ga5, rsa5, gm5⟩ := back g5' rs5
            exact ⟨ρ5.shw p, S5, del H5 p, kvs, hd, (del_upd hp5).symm, del_same, g2.trans ga5, rsa5, ra.grow ga5, OKo.grow ga5 hq⟩
          | true =>
            rw [if_pos rfl] at hq ⊢
            refine ⟨ρ5, env1, S5, rs5, re4.grow g5, ?_⟩
            cases hk1 : k env1 S5 with
            | bad => simp only [hk1] at hq; exact hq.elim
            | ex c S6 => simp only [hk1] at hq; exact hq.elim
            | ok a S6 =>
              simp only [hk1] at hq
              intro ρ6 H6 va g6 rs6 rva z6
              refine ⟨ρ6, env1, S6, rs6, (re4.grow g5).grow g6, ?_⟩
              cases hv1 : v env1 S6 with
              | bad => simp only [hv1] at hq; exact hq.elim
              | ex c S7 => simp only [hv1] at hq; exact hq.elim
              | ok b S7 =>
                simp only [hv1] at hq
                intro ρ7 H7 vb g7 rs7 rvb z7
                have g7' := (g5'.trans g6).trans g7
                obtain ⟨hp7, ga7, rsa7, gm7⟩ := back g7' rs7
                split at hq
                · rename_i hc
                  rw [Bool.and_eq_true] at hc
                  obtain ⟨h', put, ob⟩ := dput_ob (ra.grow ga7) ((rva.grow g7).shw gm7) (rvb.shw gm7) hc.1 (Nat.le_of_ble_eq_true hc.2) hp7 fun q u e => by
                    by_cases eq : q = p
                    · subst eq; rw [del_same] at e; cases e
                    · rw [del_ne eq] at e; exact e
                  refine ⟨_, put, ρ7.shw p, S7, del H7 p, _, h', ?_, del_same, g2.trans ga7, rsa7, ob, OKo.grow ga7 hq⟩
                  funext q
                  by_cases eq : q = p
                  · subst eq; rw [upd_same, upd_same]
                  · rw [upd_ne eq, upd_ne eq, del_ne eq]
                · exact hq.elim
  · have hie : i = s.len := by omega
    subst hie
    refine .inl ?_
    rw [Nat.sub_self] at hq
    unfold dcL at hq
    cases hf : s.fin S2 with
    | false => rw [hf] at hq; exact hq.elim
    | true =>
      rw [hf] at hq
      refine ⟨sv2 hf, fun z3 => ?_⟩
      exact hq (ρ2.push p) _ _ (grow_new nG) (rs2.push nG ra) (RD.newRef rs2) z3
theorem c_dc {t : Bool} {kx vx tg iter : Expr} {ifs : List Expr} {scope : Scope} {own : List (Str × Nat)} {pos : Pos} {src : Env → Store → Out Src} {g : SG} {c : ST} {k v : SE} (hu : X.A.units + 1 < cLine) (hc : X.calm = true) (hN : X.N.Nodup) (hi : PI X tg iter (lI X.K cl E src)) (ok : BlkOk X.N X.env.scope scope own)
    (hg : ∀ (s : Shared) (H : Hp) (C : Addr) (cs : List (Str × Addr)) (fp : List Addr), PG (X.blk s H scope (compEnvC scope cs C X.env) fp) tg (lG X.K cl E0 (some (own.map (·.2))) g))
    (ht : ∀ (s : Shared) (H : Hp) (C : Addr) (cs : List (Str × Addr)) (fp : List Addr), PTs (X.blk s H scope (compEnvC scope cs C X.env) fp) ifs (lT X.K cl E0 c))
    (hk : ∀ (s : Shared) (H : Hp) (C : Addr) (cs : List (Str × Addr)) (fp : List Addr), PE (X.blk s H scope (compEnvC scope cs C X.env) fp) kx (lE X.K cl E0 k))
    (hv : ∀ (s : Shared) (H : Hp) (C : Addr) (cs : List (Str × Addr)) (fp : List Addr), PE (X.blk s H scope (compEnvC scope cs C X.env) fp) vx (lE X.K cl E0 v)) (hs : ∀ x, foldedSetIterable iter X.env x = pure x) :
    PE X (.DictComp kx vx [⟨tg, iter, ifs, 0⟩] scope pos) (lE X.K cl E (mDC (own.map (·.2)) t src g c k v)) :=
  PE.via (pe_dcA (t := t) hu hc hN hi ok hg ht hk hv hs) fun σ H Q _ h => l_dc σ H Q h
end
end Mir
end

section
set_option Elab.async false
set_option linter.all false
set_option maxRecDepth 100000
set_option maxHeartbeats 2000000
/-! Mir6d: sums, greatest and least of tuples of ints; displays of one pair. -/
namespace Mir
open PySem PySem.Spec PyProof.Rows L2
section
variable {prog : Program} {w : World} {A : Around} {E : Value → Shared → Prop} {s : Shared} {l : Addr} {xs : Array (Int × Tok)} {its : List Value} {ns : List Int} {Q : Value → Shared → Prop}
abbrev tupIt (l : Addr) : Obj := { cls := .type "tuple_iterator", data := .fields #[.ref l, .int 0 0] }
theorem iter_tupI (ht : s.heap.IsTuple l (intItems xs))
    (h : ∀ s₂ : Shared, s₂ = { s with heap := s.heap.push (tupIt l) } → (s₂.heap.IsTupleIter s.heap.objs.size l 0 ∧ s₂.heap.IsTuple l (intItems xs)) → (∀ b ∈ [s.heap.objs.size, l], b < s₂.heap.objs.size) → l ≠ s.heap.objs.size → Q (.ref s.heap.objs.size) s₂) : wpAny (model prog w) A (pyIter (.ref l)) Q E s := by
  have lt : l < s.heap.objs.size := by
    obtain ⟨_, e, _⟩ := ht
    exact Heap.lt_size e
  refine wpAny_pyIter_tuple ht (h _ rfl ⟨⟨_, Heap.get?_push_size _ rfl, rfl, rfl⟩, ht.push _⟩ ?_ (Nat.ne_of_lt lt))
  intro b hb
  show b < (s.heap.push _).objs.size
  rw [Heap.size_push]
  have : b = s.heap.objs.size ∨ b = l := by simpa using hb
  rcases this with e | e
  · rw [e]; exact Nat.lt_succ_self _
  · rw [e]; exact Nat.lt_succ_of_lt lt
theorem kept_tupI {h' : Heap} (hk : ∀ b o, b ∉ [s.heap.objs.size] → (s.heap.push (tupIt l)).get? b = some o → h'.get? b = some o) (b : Addr) (o : Obj) (e : s.heap.get? b = some o) : h'.get? b = some o := by
  have lt := Heap.lt_size e
  refine hk b o ?_ (Heap.get?_push_of_some _ e)
  intro z
  have z : b = s.heap.objs.size := by simpa using z
  rw [z] at lt
  exact Nat.lt_irrefl _ lt
theorem sum_tupI (hh : A.handled = none) (ht : s.heap.IsTuple l its.toArray) (hi : IntsAre its ns)
    (h : ∀ h' tk t', (∀ b o, s.heap.get? b = some o → h'.get? b = some o) → Q (.int ns.sum t') { s with heap := h', toks := tk }) : wpAny (model prog w) A (call (.builtin "sum") [.ref l]) Q E s := by
  obtain ⟨xs, e⟩ := hi.allInts.items
  have hn : numsOf (intItems xs).toList = ns := by rw [← e]; exact hi.numsOf
  rw [nums_intItems] at hn
  rw [e] at ht
  refine call_sum_walkG (iter_tupI ht fun s₂ es st hfp ne => ?_)
  subst es
  refine ⟨_, _, _, _, _, _, numAt xs, rfl, Walks.tuple (A := A.in1) hh _ l ne (intItems xs), st, hfp, (fun _ _ => intItems_at), fun h' tk t' hk => ?_⟩
  have z := h h' tk t' (kept_tupI hk)
  have e2 : ns.sum = preSum (numAt xs) (intItems xs).size := by
    rw [preSum_eq, List.take_of_length_le (by simp [intItems]), hn]
  rw [← e2]
  exact z
theorem max_tupI (hh : A.handled = none) (ht : s.heap.IsTuple l its.toArray) (hi : IntsAre its ns) (hne : 0 < ns.length)
    (h : ∀ h' tk M t', (∀ b o, s.heap.get? b = some o → h'.get? b = some o) → M ∈ ns → (∀ a, a ∈ ns → a ≤ M) → Q (.int M t') { s with heap := h', toks := tk }) : wpAny (model prog w) A (call (.builtin "max") [.ref l]) Q E s := by
  obtain ⟨xs, e⟩ := hi.allInts.items
  have hn : numsOf (intItems xs).toList = ns := by rw [← e]; exact hi.numsOf
  rw [nums_intItems] at hn
  subst hn
  rw [e] at ht
  have pos : 0 < xs.size := by simpa using hne
  refine call_max_walk (iter_tupI ht fun s₂ es st hfp ne => ?_)
  subst es
  refine ⟨_, _, _, _, _, _, _, rfl, Walks.tuple (A := A.in1) hh _ l ne (intItems xs), st, hfp, by simpa [intItems] using pos, CmpOf.ints_gt (numAt xs) (fun _ _ => intItems_at), fun v h' tk hP hk => ?_⟩
  have hv : (intItems xs)[argBest (fun i j => decide (numAt xs i > numAt xs j)) (xs.size - 1)]? = some v := by simpa [intItems] using hP
  obtain ⟨t, rfl⟩ := intItems_at hv
  obtain ⟨b1, b2⟩ := argBest_gt (numAt xs) (xs.size - 1)
  refine h h' tk _ t (kept_tupI hk) ?_ fun a ha => ?_
  · rw [numAt_eq]
    exact PySem.getD_mem (by rw [List.length_map, Array.length_toList]; omega)
  · obtain ⟨j, hj, rfl⟩ := mem_getD ha
    rw [List.length_map, Array.length_toList] at hj
    rw [← numAt_eq]
    exact b2 j (by omega)
theorem min_tupI (hh : A.handled = none) (ht : s.heap.IsTuple l its.toArray) (hi : IntsAre its ns) (hne : 0 < ns.length)
    (h : ∀ h' tk M t', (∀ b o, s.heap.get? b = some o → h'.get? b = some o) → M ∈ ns → (∀ a, a ∈ ns → M ≤ a) → Q (.int M t') { s with heap := h', toks := tk }) : wpAny (model prog w) A (call (.builtin "min") [.ref l]) Q E s := by
  obtain ⟨xs, e⟩ := hi.allInts.items
  have hn : numsOf (intItems xs).toList = ns := by rw [← e]; exact hi.numsOf
  rw [nums_intItems] at hn
  subst hn
  rw [e] at ht
  have pos : 0 < xs.size := by simpa using hne
  refine call_min_walk (iter_tupI ht fun s₂ es st hfp ne => ?_)
  subst es
  refine ⟨_, _, _, _, _, _, _, rfl, Walks.tuple (A := A.in1) hh _ l ne (intItems xs), st, hfp, by simpa [intItems] using pos, CmpOf.ints_lt (numAt xs) (fun _ _ => intItems_at), fun v h' tk hP hk => ?_⟩
  have hv : (intItems xs)[argBest (fun i j => decide (numAt xs i < numAt xs j)) (xs.size - 1)]? = some v := by simpa [intItems] using hP
  obtain ⟨t, rfl⟩ := intItems_at hv
  obtain ⟨b1, b2⟩ := argBest_lt (numAt xs) (xs.size - 1)
  refine h h' tk _ t (kept_tupI hk) ?_ fun a ha => ?_
  · rw [numAt_eq]
    exact PySem.getD_mem (by rw [List.length_map, Array.length_toList]; omega)
  · obtain ⟨j, hj, rfl⟩ := mem_getD ha
    rw [List.length_map, Array.length_toList] at hj
    rw [← numAt_eq]
    exact b2 j (by omega)
end
section
variable {K : PySem.W.Frag} {cl : Nat → Addr} {E : XK} {ρ : Rho} {H : Hp} {S : Store} {σ : L2.St} {X : Cx}
theorem tupInts_at {xs : List D} {ns : List Int} {v : V} (h : intsOf xs = some ns) (r : RD K ρ H (.tup xs) v) : ∃ a, v = .ref a ∧ SqT K H a (ns.map V.int) := by
  obtain ⟨a, vs, rfl, hs, q⟩ := r.tupT
  rw [intsOf_at h q] at hs
  exact ⟨a, rfl, hs⟩
def vSum2 : VL := fun ds S => match ds with
  | [.tup xs] => match intsOf xs with
    | some ns => .ok (.int ns.sum) S
    | none => .bad
  | ds => vSum ds S
def vMax2 : VL := fun ds S => match ds with
  | [.tup xs] => match intsOf xs with
    | some (n :: ns) => .ok (.int (maxI n ns)) S
    | _ => .bad
  | ds => vMax ds S
def vMin2 : VL := fun ds S => match ds with
  | [.tup xs] => match intsOf xs with
    | some (n :: ns) => .ok (.int (minI n ns)) S
    | _ => .bad
  | ds => vMin ds S
theorem maxI_uniq {n : Int} {ns : List Int} {m : Int} (hm : m ∈ n :: ns) (hy : ∀ y, y ∈ n :: ns → y ≤ m) : m = maxI n ns := by
  have h1 := hy _ (maxI_mem ns n)
  obtain ⟨h2, h3⟩ := maxI_ge ns n
  rcases List.mem_cons.mp hm with rfl | hm
  · omega
  · have := h3 m hm; omega
theorem minI_uniq {n : Int} {ns : List Int} {m : Int} (hm : m ∈ n :: ns) (hy : ∀ y, y ∈ n :: ns → m ≤ y) : m = minI n ns := by
  have h1 := hy _ (minI_mem ns n)
  obtain ⟨h2, h3⟩ := minI_le ns n
  rcases List.mem_cons.mp hm with rfl | hm
  · omega
  · have := h3 m hm; omega
/-- a built-in of one tuple of ints -/
def rTupI (K : PySem.W.Frag) (c : List Int → Int → Prop) : List V → Hp → VK → Prop := fun vs H Q => ∃ (a : Addr) (ns : List Int), vs = [V.ref a] ∧ SqT K H a (ns.map V.int) ∧ (∀ m, c ns m → Q (.int m) H) ∧ (c = (fun ns m => m = ns.sum) ∨ 0 < ns.length)
theorem cr_sumT (hc : X.calm = true) : CallR X (.builtin "sum") (rTupI X.K fun ns m => m = ns.sum) := by
  intro pins s σ H vs us Q I r h
  obtain ⟨a, ns, rfl, hs, q, _⟩ := h
  obtain ⟨its, rv, hl, _⟩ := I.tuple hs
  rw [Vals.ref1 r]
  exact sum_tupI (I.ok.hd hc) (show s.heap.IsTuple a its.toArray from hl) rv.ints fun h' tk t' hk => ⟨.int _, H, I.kept hk, ⟨_, rfl⟩, q _ rfl⟩
theorem cr_maxT (hc : X.calm = true) : CallR X (.builtin "max") (fun vs H Q => ∃ (a : Addr) (ns : List Int), vs = [V.ref a] ∧ SqT X.K H a (ns.map V.int) ∧ 0 < ns.length ∧ ∀ m, m ∈ ns → (∀ y, y ∈ ns → y ≤ m) → Q (.int m) H) := by
  intro pins s σ H vs us Q I r h
  obtain ⟨a, ns, rfl, hs, hne, q⟩ := h
  obtain ⟨its, rv, hl, _⟩ := I.tuple hs
  rw [Vals.ref1 r]
  exact max_tupI (I.ok.hd hc) (show s.heap.IsTuple a its.toArray from hl) rv.ints hne fun h' tk m t' hk h1 h2 => ⟨.int _, H, I.kept hk, ⟨_, rfl⟩, q m h1 h2⟩
theorem cr_minT (hc : X.calm = true) : CallR X (.builtin "min") (fun vs H Q => ∃ (a : Addr) (ns : List Int), vs = [V.ref a] ∧ SqT X.K H a (ns.map V.int) ∧ 0 < ns.length ∧ ∀ m, m ∈ ns → (∀ y, y ∈ ns → m ≤ y) → Q (.int m) H) := by
  intro pins s σ H vs us Q I r h
  obtain ⟨a, ns, rfl, hs, hne, q⟩ := h
  obtain ⟨its, rv, hl, _⟩ := I.tuple hs
  rw [Vals.ref1 r]
  exact min_tupI (I.ok.hd hc) (show s.heap.IsTuple a its.toArray from hl) rv.ints hne fun h' tk m t' hk h1 h2 => ⟨.int _, H, I.kept hk, ⟨_, rfl⟩, q m h1 h2⟩
theorem cb_sum2 (hc : X.calm = true) : CallR X (.builtin "sum") (wL X.K cl E vSum2) := by
  refine CallR.cases fun vs H Q z h => ?_
  obtain ⟨ρ, S, ds, rs, rd, h⟩ := h
  unfold vSum2 at h
  split at h
  · split at h
    · rename_i hi
      obtain ⟨v, rfl, r⟩ := rd.one
      obtain ⟨a, rfl, hs⟩ := tupInts_at hi r
      exact ⟨_, cr_sumT hc, a, _, rfl, hs, fun m e => by rw [e]; exact ok_val rs h RD.int, .inl rfl⟩
    · exact h.elim
  · exact ⟨_, cb_sum hc, ρ, S, ds, rs, rd, OKo.mono h fun v H1 z q _ => q⟩
theorem cb_max2 (hc : X.calm = true) : CallR X (.builtin "max") (wL X.K cl E vMax2) := by
  refine CallR.cases fun vs H Q z h => ?_
  obtain ⟨ρ, S, ds, rs, rd, h⟩ := h
  unfold vMax2 at h
  split at h
  · split at h
    · rename_i hi
      obtain ⟨v, rfl, r⟩ := rd.one
      obtain ⟨a, rfl, hs⟩ := tupInts_at hi r
      exact ⟨_, cr_maxT hc, a, _, rfl, hs, by simp, fun m hm hy => by rw [maxI_uniq hm hy]; exact ok_val rs h RD.int⟩
    · exact h.elim
  · exact ⟨_, cb_max hc, ρ, S, ds, rs, rd, OKo.mono h fun v H1 z q _ => q⟩
theorem cb_min2 (hc : X.calm = true) : CallR X (.builtin "min") (wL X.K cl E vMin2) := by
  refine CallR.cases fun vs H Q z h => ?_
  obtain ⟨ρ, S, ds, rs, rd, h⟩ := h
  unfold vMin2 at h
  split at h
  · split at h
    · rename_i hi
      obtain ⟨v, rfl, r⟩ := rd.one
      obtain ⟨a, rfl, hs⟩ := tupInts_at hi r
      exact ⟨_, cr_minT hc, a, _, rfl, hs, by simp, fun m hm hy => by rw [minI_uniq hm hy]; exact ok_val rs h RD.int⟩
    · exact h.elim
  · exact ⟨_, cb_min hc, ρ, S, ds, rs, rd, OKo.mono h fun v H1 z q _ => q⟩

/-! ### {k: v} -/
def mDisp1 (k v : SE) : SE := fun env S => (k env S).bind fun a S1 => (v env S1).bind fun b S2 => if isKey false a then .ok (.ref S2.length) (S2 ++ [.dic false [(a, b)]]) else .bad
theorem c_disp1 {k v : Expr} {pos : Pos} {mk mv : SE} (hk : PE X k (lE X.K cl E mk)) (hv : PE X v (lE X.K cl E mv)) : PE X (.Dict [some k] [v] pos) (lE X.K cl E (mDisp1 mk mv)) := by
  refine PE.via (pe_disp (pps_cons hk hv pps_nil) rfl rfl (by simp) (by simp)) fun σ H Q z h => ?_
  obtain ⟨ρ, env, S, rs, re, h⟩ := h
  intro p np
  have rs0 : RelS X.K (ρ.hide p) S (upd H p (.dK [])) := rs.hide np ntab_dK
  have re0 := re.grow (grow_hide (o := .dK []) np)
  have nh : p ∉ ρ.h := fun z => rs.fresh np (List.mem_append_right _ z)
  unfold mDisp1 at h
  refine ⟨ρ.hide p, env, S, rs0, re0, ?_⟩
  cases hm : mk env S with
  | bad => rw [hm] at h; exact h.elim
  | ex c S1 =>
    rw [hm] at h
    exact fun ρ' H' g rs' => h ρ' H' ((grow_hide np).trans g) rs'
  | ok a S1 =>
    rw [hm] at h
    have h : OKo X.K cl E ρ H (RD X.K) Q ((mv env S1).bind fun b S2 => if isKey false a then .ok (.ref S2.length) (S2 ++ [.dic false [(a, b)]]) else .bad) := h
    intro ρ1 H1 x g1 rs1 ra z1
    refine ⟨ρ1, env, S1, rs1, re0.grow g1, ?_⟩
    cases hn : mv env S1 with
    | bad => rw [hn] at h; exact h.elim
    | ex c S2 =>
      rw [hn] at h
      exact fun ρ' H' g rs' => h ρ' H' ((grow_hide np).trans (g1.trans g)) rs'
    | ok b S2 =>
      rw [hn] at h
      have h : OKo X.K cl E ρ H (RD X.K) Q (if isKey false a then .ok (.ref S2.length) (S2 ++ [.dic false [(a, b)]]) else .bad) := h
      intro ρ2 H2 y g2 rs2 rb z2
      have g12 := g1.trans g2
      split at h
      · rename_i hc
        obtain ⟨kk, hkk⟩ := Option.isSome_iff_exists.mp (show (keyD a).isSome = true from hc)
        obtain ⟨_, ga, gm⟩ := Grow.shw np nh g12
        have pl : p ∉ (ρ.hide p).l := fun z => nl_of (rs.fresh np) z
        have hp : H2 p = some (.dK []) := g12.fr p _ upd_same pl (fun _ e => by cases e)
        cases keyD_at hkk ra
        refine ⟨hp, [(kk, y)], rfl, by simp, fun z3 => ?_⟩
        have rs3 := rs2.shw gm
        have ob : ROb X.K (ρ2.shw p) (del H2 p) (.dic false [(a, b)]) (.dK [(kk, y)]) := ⟨_, rfl, .cons ⟨hkk, rb.shw gm⟩ .nil⟩
        have e : upd H2 p (.dK (mergeK [] [(kk, y)])) = upd (del H2 p) p (.dK [(kk, y)]) := by
          funext q
          by_cases eq : q = p
          · subst eq; rw [upd_same, upd_same]; rfl
          · rw [upd_ne eq, upd_ne eq, del_ne eq]
        rw [e] at z3 ⊢
        exact h _ _ _ (ga.trans (grow_new del_same)) (rs3.push del_same ob) (RD.newRef rs3) z3
      · exact h.elim
end
end Mir
end

section
set_option Elab.async false
set_option linter.all false
set_option maxRecDepth 100000
set_option maxHeartbeats 4000000
/-! Mir6e: list comprehensions of two walks. -/
namespace Mir
open PySem PySem.Spec PyProof.Rows L2
section
variable {K : PySem.W.Frag} {cl : Nat → Addr} {E : XK} {ρ : Rho} {H : Hp} {S : Store} {σ : L2.St} {X : Cx}
/-- the lists that are made of the items, one behind another -/
def compA (get : Nat → Store → Option D) (fin : Store → Bool) (f : D → Store → Out (List D)) : Nat → Nat → Store → Out (List D)
  | 0, _, S => if fin S then .ok [] S else .bad
  | k + 1, i, S => match get i S with
    | some d => match f d S with
      | .ok xs S1 => match compA get fin f k (i + 1) S1 with
        | .ok ys S2 => .ok (xs ++ ys) S2
        | _ => .bad
      | _ => .bad
    | none => .bad
def mIn (own vs1 : List Nat) (g : SG) (t : ST) (src1 : Env → Store → Out Src) (g1 : SG) (t1 : ST) (e : SE) (env : Env) (d : D) (S : Store) : Out (List D) :=
  (g d (wipeE env own) S).bind fun env1 S1 => (t env1 S1).bind fun c S2 => if c then (src1 env1 S2).bind fun s1 S3 => compL s1.get s1.fin (mElt vs1 g1 t1 e env1) s1.len 0 S3 else .ok [] S2
/-- the list's end: it is not too long -/
def endL (mt : Bool) (ys : List D) (S : Store) : Out D := if Nat.ble ys.length 16777216 then mkL mt ys S else .bad
def mLC2 (own vs1 : List Nat) (mt : Bool) (src : Env → Store → Out Src) (g : SG) (t : ST) (src1 : Env → Store → Out Src) (g1 : SG) (t1 : ST) (e : SE) : SE := fun env S => (src env S).bind fun s S1 =>
  match compA s.get s.fin (mIn own vs1 g t src1 g1 t1 e env) s.len 0 S1 with
  | .ok ys S2 => endL mt ys S2
  | _ => .bad
/-- what is left of the outer walk behind acc -/
def outW (mt : Bool) (acc : List D) (r : Out (List D)) : Out D := match r with
  | .ok ys S2 => endL mt (acc ++ ys) S2
  | _ => .bad
/-- what is left of the inner walk, then of the outer one -/
def inW (mt : Bool) (next : Store → Out (List D)) (acc : List D) (r : Out (List D)) : Out D := match r with
  | .ok ys S2 => outW mt (acc ++ ys) (next S2)
  | _ => .bad
theorem endL_len {mt : Bool} {ys : List D} {S : Store} {Q : VK} (h : OKo K cl E ρ H (RD K) Q (endL mt ys S)) : ys.length ≤ 16777216 ∧ OKo K cl E ρ H (RD K) Q (mkL mt ys S) := by
  unfold endL at h
  split at h
  · rename_i hb
    exact ⟨Nat.le_of_ble_eq_true hb, h⟩
  · exact h.elim
theorem outW_len {mt : Bool} {acc : List D} {r : Out (List D)} {Q : VK} (h : OKo K cl E ρ H (RD K) Q (outW mt acc r)) : acc.length ≤ 16777216 := by
  unfold outW at h
  split at h
  · have h1 := (endL_len h).1
    rw [List.length_append] at h1
    omega
  · exact h.elim
theorem inW_len {mt : Bool} {next : Store → Out (List D)} {acc : List D} {r : Out (List D)} {Q : VK} (h : OKo K cl E ρ H (RD K) Q (inW mt next acc r)) : acc.length ≤ 16777216 := by
  unfold inW at h
  split at h
  · have h1 := outW_len h
    rw [List.length_append] at h1
    omega
  · exact h.elim
theorem l_lc2 {mt : Bool} {vs vs1 : List Nat} {src src1 : Env → Store → Out Src} {g g1 : SG} {t t1 : ST} {e : SE} (σ : L2.St) (H : Hp) (Q : VK) (h : lE K cl E (mLC2 vs vs1 mt src g t src1 g1 t1 e) σ H Q) :
    tLc2 (lI K cl E src) (lG K cl E0 (some vs) g) (lT K cl E0 t) (lI K cl E0 src1) (lG K cl E0 (some vs1) g1) (lT K cl E0 t1) (lE K cl E0 e) vs vs1 σ H (fun v H' => Siz H' → Q v H') := by
  have hsl := sizeLine_eq
  obtain ⟨ρ, env, S, rs, re, h⟩ := h
  refine ⟨ρ, env, S, rs, re, OKo.mono (OKo.bind h) fun J H1 z1 ⟨ρ1, S1, s, gr1, rs1, sv, h1⟩ => ?_⟩
  clear h
  intro p np
  have re1 := re.grow gr1
  have h1 : OKo K cl E ρ1 H1 (RD K) Q (outW mt [] (compA s.get s.fin (mIn vs vs1 g t src1 g1 t1 e env) s.len 0 S1)) := by
    unfold outW
    simp only [List.nil_append]
    exact h1
  refine ⟨fun i m H2 => ∃ ρ2 S2 G acc ws, H2 = upd G p (.lst ws) ∧ G p = none ∧ Grow ρ1 H1 ρ2 G ∧ RelS K ρ2 S2 G ∧ RDs K ρ2 G acc ws ∧ m = s.len - i ∧ i ≤ s.len ∧ OKo K cl E ρ2 G (RD K) Q (outW mt acc (compA s.get s.fin (mIn vs vs1 g t src1 g1 t1 e env) (s.len - i) i S2)),
    ⟨s.len, ρ1, S1, H1, [], [], rfl, np, Grow.refl, rs1, RDs.nil, by simp, Nat.zero_le _, h1⟩, ?_⟩
  rintro i m H2 ⟨ρ2, S2, G, acc, ws, rfl, nG, g2, rs2, ra, rfl, hi2, hq⟩
  have g2' : Grow ρ1 H1 (ρ2.hide p) (upd G p (.lst ws)) := g2.trans (grow_hide nG)
  have rs2' : RelS K (ρ2.hide p) S2 (upd G p (.lst ws)) := rs2.hide nG ntab_lst
  have nh : p ∉ ρ2.h := fun z => rs2.fresh nG (List.mem_append_right _ z)
  obtain ⟨sv1, sv2⟩ := sv _ _ .refl (ρ2.hide p) _ S2 g2' rs2'
  by_cases hlt : i < s.len
  · refine .inr ?_
    have hk : s.len - i = (s.len - (i + 1)) + 1 := by omega
    rw [hk] at hq
    unfold compA at hq
    cases hget : s.get i S2 with
    | none => rw [hget] at hq; exact hq.elim
    | some d =>
      rw [hget] at hq
      obtain ⟨go, yld⟩ := sv1 i d hlt hget
      refine ⟨go, fun H3 => ∃ ρ2 S2 G acc ws, H3 = upd G p (.lst ws) ∧ G p = none ∧ Grow ρ1 H1 ρ2 G ∧ RelS K ρ2 S2 G ∧ RDs K ρ2 G acc ws ∧ OKo K cl E ρ2 G (RD K) Q (outW mt acc (compA s.get s.fin (mIn vs vs1 g t src1 g1 t1 e env) (s.len - (i + 1)) (i + 1) S2)),
        fun H3 ⟨ρ3, S3, G3, acc3, ws3, e1, e2, e3, e4, e5, e6⟩ => ⟨s.len - (i + 1), by omega, ρ3, S3, G3, acc3, ws3, e1, e2, e3, e4, e5, rfl, hlt, e6⟩, fun x H3 y => ?_⟩
      obtain ⟨gy, rsy, ry⟩ := yld x H3 y
      have pl : p ∉ (ρ2.hide p).l := fun z => nl_of (rs2.fresh nG) z
      have back : ∀ {ρ4 : Rho} {H4 : Hp} {S4 : Store}, Grow (ρ2.hide p) (upd G p (.lst ws)) ρ4 H4 → RelS K ρ4 S4 H4 → H4 p = some (.lst ws) ∧ Grow ρ2 G (ρ4.shw p) (del H4 p) ∧ RelS K (ρ4.shw p) S4 (del H4 p) ∧ p ∈ ρ4.h := by
        intro ρ4 H4 S4 g4 rs4
        obtain ⟨_, ga, gm⟩ := Grow.shw nG nh g4
        exact ⟨g4.fr p _ upd_same pl (fun _ z => by cases z), ga, rs4.shw gm, gm⟩
      have rew : RelE K (ρ2.hide p) H3 (wipeE env vs) (L2.wipe σ vs) := ((re1.grow g2').grow gy).wipe vs
      -- the outer walk's rest
      generalize hnext : (fun S1 => compA s.get s.fin (mIn vs vs1 g t src1 g1 t1 e env) (s.len - (i + 1)) (i + 1) S1) = next at *
      have hnx : ∀ S1, compA s.get s.fin (mIn vs vs1 g t src1 g1 t1 e env) (s.len - (i + 1)) (i + 1) S1 = next S1 := fun S1 => congrFun hnext S1
      simp only [hnx] at hq ⊢
      have hq : OKo K cl E ρ2 G (RD K) Q (inW mt next acc (mIn vs vs1 g t src1 g1 t1 e env d S2)) := by
        unfold inW
        cases hm : mIn vs vs1 g t src1 g1 t1 e env d S2 with
        | bad => rw [hm] at hq; exact hq
        | ex c S3 => rw [hm] at hq; exact hq
        | ok xs S3 =>
          rw [hm] at hq
          dsimp only at hq ⊢
          unfold outW at hq ⊢
          cases hn : next S3 with
          | bad => rw [hn] at hq; exact hq
          | ex c S4 => rw [hn] at hq; exact hq
          | ok ys S4 => rw [hn] at hq; dsimp only at hq ⊢; rw [List.append_assoc]; exact hq
      rw [mIn] at hq
      refine ⟨ρ2.hide p, wipeE env vs, S2, d, rsy, rew, ry, ?_⟩
      cases hg1 : g d (wipeE env vs) S2 with
      | bad => rw [hg1] at hq; exact hq.elim
      | ex c S3 => rw [hg1] at hq; exact hq.elim
      | ok env1 S3 =>
        rw [hg1] at hq
        intro ρ4 H4 σ4 g4 rs4 re4 z4 w4
        refine ⟨(show wipe σ4 vs = wipe (wipe σ vs) vs from w4).trans (wipe_idem σ vs), ρ4, env1, S3, rs4, re4, ?_⟩
        have g4 := gy.trans g4
        cases ht1 : t env1 S3 with
        | bad => simp only [Out.bind, ht1] at hq; exact hq.elim
        | ex c S5 => simp only [Out.bind, ht1] at hq; exact hq.elim
        | ok c S5 =>
          simp only [Out.bind, ht1] at hq
          intro ρ5 H5 c' g5 rs5 rc z5
          cases (show c = c' from rc)
          have g5' := g4.trans g5
          cases c with
          | false =>
            rw [if_neg Bool.false_ne_true] at hq ⊢
            obtain ⟨hp5, ga5, rsa5, gm5⟩ := back g5' rs5
            refine ⟨ρ5.shw p, S5, del H5 p, acc, ws, (del_upd hp5).symm, del_same, g2.trans ga5, rsa5, ra.grow ga5, ?_⟩
            have hq := OKo.grow ga5 hq
            unfold inW at hq
            simpa using hq
          | true =>
            rw [if_pos rfl] at hq ⊢
            refine ⟨ρ5, env1, S5, rs5, re4.grow g5, ?_⟩
            cases hs1 : src1 env1 S5 with
            | bad => simp only [hs1] at hq; exact hq.elim
            | ex c S6 => simp only [hs1] at hq; exact hq.elim
            | ok s1 S6 =>
              simp only [hs1] at hq
              intro ρ6 H6 J1 g6 rs6 sv6 z6
              have re6 := (re4.grow g5).grow g6
              have g6' := g5'.trans g6
              obtain ⟨hp6, ga6, rsa6, gm6⟩ := back g6' rs6
              have hq := OKo.grow ga6 hq
              have re6' : ∀ {ρ7 : Rho} {H7 : Hp}, Grow (ρ6.shw p) (del H6 p) ρ7 H7 → RelE K ρ7 H7 env1 σ4 := fun gg => ⟨re6.1, fun i d e => let ⟨v, e', r⟩ := re6.2 i d e; ⟨v, e', (r.shw gm6).grow gg⟩⟩
              refine ⟨fun j k H7 => ∃ ρ7 S7 G7 acc7 ws7, H7 = upd G7 p (.lst ws7) ∧ G7 p = none ∧ Grow (ρ6.shw p) (del H6 p) ρ7 G7 ∧ RelS K ρ7 S7 G7 ∧ RDs K ρ7 G7 acc7 ws7 ∧ k = s1.len - j ∧ j ≤ s1.len ∧ OKo K cl E ρ7 G7 (RD K) Q (inW mt next acc7 (compL s1.get s1.fin (mElt vs1 g1 t1 e env1) (s1.len - j) j S7)),
                ⟨s1.len, ρ6.shw p, S6, del H6 p, acc, ws, (del_upd hp6).symm, del_same, Grow.refl, rsa6, ra.grow ga6, by simp, Nat.zero_le _, hq⟩, ?_⟩
              clear hq
              rintro j k H7 ⟨ρ7, S7, G7, acc7, ws7, rfl, nG7, g7, rs7, ra7, rfl, hj, hq⟩
              have g7' : Grow (ρ6.shw p) (del H6 p) (ρ7.hide p) (upd G7 p (.lst ws7)) := g7.trans (grow_hide nG7)
              have rs7' : RelS K (ρ7.hide p) S7 (upd G7 p (.lst ws7)) := rs7.hide nG7 ntab_lst
              have nh7 : p ∉ ρ7.h := fun z => rs7.fresh nG7 (List.mem_append_right _ z)
              obtain ⟨u1, u2⟩ := sv6 _ _ (.one gm6) (ρ7.hide p) _ S7 g7' rs7'
              by_cases jlt : j < s1.len
              · refine .inr ?_
                have hk7 : s1.len - j = (s1.len - (j + 1)) + 1 := by omega
                rw [hk7] at hq
                unfold compL at hq
                cases hget7 : s1.get j S7 with
                | none => rw [hget7] at hq; exact hq.elim
                | some d7 =>
                  rw [hget7] at hq
                  obtain ⟨go7, yld7⟩ := u1 j d7 jlt hget7
                  refine ⟨go7, fun H8 => ∃ ρ7 S7 G7 acc7 ws7, H8 = upd G7 p (.lst ws7) ∧ G7 p = none ∧ Grow (ρ6.shw p) (del H6 p) ρ7 G7 ∧ RelS K ρ7 S7 G7 ∧ RDs K ρ7 G7 acc7 ws7 ∧ OKo K cl E ρ7 G7 (RD K) Q (inW mt next acc7 (compL s1.get s1.fin (mElt vs1 g1 t1 e env1) (s1.len - (j + 1)) (j + 1) S7)),
                    fun H8 ⟨a1, a2, a3, a4, a5, e1, e2, e3, e4, e5, e6⟩ => ⟨s1.len - (j + 1), by omega, a1, a2, a3, a4, a5, e1, e2, e3, e4, e5, rfl, jlt, e6⟩, fun x7 H8 y7 => ?_⟩
                  obtain ⟨gy7, rsy7, ry7⟩ := yld7 x7 H8 y7
                  have back7 : ∀ {ρ4 : Rho} {H4 : Hp} {S4 : Store}, Grow (ρ7.hide p) (upd G7 p (.lst ws7)) ρ4 H4 → RelS K ρ4 S4 H4 → H4 p = some (.lst ws7) ∧ Grow ρ7 G7 (ρ4.shw p) (del H4 p) ∧ RelS K (ρ4.shw p) S4 (del H4 p) ∧ p ∈ ρ4.h := by
                    intro ρ4 H4 S4 g4 rs4
                    obtain ⟨_, ga, gm⟩ := Grow.shw nG7 nh7 g4
                    have pl7 : p ∉ (ρ7.hide p).l := fun z => nl_of (rs7.fresh nG7) z
                    exact ⟨g4.fr p _ upd_same pl7 (fun _ z => by cases z), ga, rs4.shw gm, gm⟩
                  have rew7 : RelE K (ρ7.hide p) H8 (wipeE env1 vs1) (L2.wipe σ4 vs1) := ((re6' g7').grow gy7).wipe vs1
                  have em : mElt vs1 g1 t1 e env1 d7 S7 = (g1 d7 (wipeE env1 vs1) S7).bind fun env1 S1 => (t1 env1 S1).bind fun c S2 => if c then (e env1 S2).bind fun y S3 => .ok (some y) S3 else .ok none S2 := rfl
                  dsimp only at hq
                  rw [em] at hq
                  refine ⟨ρ7.hide p, wipeE env1 vs1, S7, d7, rsy7, rew7, ry7, ?_⟩
                  cases hg7 : g1 d7 (wipeE env1 vs1) S7 with
                  | bad => rw [hg7] at hq; exact hq.elim
                  | ex c S8 => rw [hg7] at hq; exact hq.elim
                  | ok env2 S8 =>
                    rw [hg7] at hq
                    intro ρ8 H9 σ8 g8 rs8 re8 z8 w8
                    refine ⟨(show wipe σ8 vs1 = wipe (wipe σ4 vs1) vs1 from w8).trans (wipe_idem σ4 vs1), ρ8, env2, S8, rs8, re8, ?_⟩
                    have g8 := gy7.trans g8
                    cases ht7 : t1 env2 S8 with
                    | bad => simp only [Out.bind, ht7] at hq; exact hq.elim
                    | ex c S9 => simp only [Out.bind, ht7] at hq; exact hq.elim
                    | ok c7 S9 =>
                      simp only [Out.bind, ht7] at hq
                      intro ρ9 H10 c' g9 rs9 rc7 z9
                      cases (show c7 = c' from rc7)
                      have g9' := g8.trans g9
                      cases c7 with
                      | false =>
                        rw [if_neg Bool.false_ne_true] at hq ⊢
                        obtain ⟨hp9, ga9, rsa9, gm9⟩ := back7 g9' rs9
                        refine ⟨ρ9.shw p, S9, del H10 p, acc7, ws7, (del_upd hp9).symm, del_same, g7.trans ga9, rsa9, ra7.grow ga9, ?_⟩
                        have hq := OKo.grow ga9 hq
                        simp only [Option.toList, List.nil_append] at hq
                        generalize compL s1.get s1.fin (mElt vs1 g1 t1 e env1) (s1.len - (j + 1)) (j + 1) S9 = r at hq ⊢
                        cases r with
                        | ok ys S10 => exact hq
                        | ex c S10 => exact (show False from hq).elim
                        | bad => exact (show False from hq).elim
                      | true =>
                        rw [if_pos rfl] at hq ⊢
                        refine ⟨ρ9, env2, S9, rs9, re8.grow g9, ?_⟩
                        cases he7 : e env2 S9 with
                        | bad => simp only [he7] at hq; exact hq.elim
                        | ex c S10 => simp only [he7] at hq; exact hq.elim
                        | ok y S10 =>
                          simp only [he7] at hq
                          intro ρa Ha v ga' rsa rv za
                          have gaa := g9'.trans ga'
                          obtain ⟨hpa, gaz, rsz, gmz⟩ := back7 gaa rsa
                          have hq : OKo K cl E ρ7 G7 (RD K) Q (inW mt next (acc7 ++ [y]) (compL s1.get s1.fin (mElt vs1 g1 t1 e env1) (s1.len - (j + 1)) (j + 1) S10)) := by
                            generalize compL s1.get s1.fin (mElt vs1 g1 t1 e env1) (s1.len - (j + 1)) (j + 1) S10 = r at hq ⊢
                            cases r with
                            | ok ys S11 =>
                              unfold inW at hq ⊢
                              simp only [Option.toList, List.append_assoc] at hq ⊢
                              exact hq
                            | ex c S11 => exact (show False from hq).elim
                            | bad => exact (show False from hq).elim
                          have lng := inW_len hq
                          have lw := ra7.length
                          rw [List.length_append] at lng
                          refine ⟨ws7, hpa, by simp at lng; omega, ρa.shw p, S10, del Ha p, acc7 ++ [y], ws7 ++ [v], ?_, del_same, g7.trans gaz, rsz, (ra7.grow gaz).append (RDs.cons (rv.shw gmz) RDs.nil), OKo.grow gaz hq⟩
                          funext a
                          by_cases ea : a = p
                          · subst ea; rw [upd_same, upd_same]
                          · rw [upd_ne ea, upd_ne ea, del_ne ea]
              · have hie : j = s1.len := by omega
                subst hie
                refine .inl ?_
                rw [Nat.sub_self] at hq
                unfold compL at hq
                cases hf : s1.fin S7 with
                | false => rw [hf] at hq; exact hq.elim
                | true =>
                  rw [hf] at hq
                  refine ⟨u2 hf, ρ7, S7, G7, acc7, ws7, rfl, nG7, g2.trans (ga6.trans g7), rs7, ra7, ?_⟩
                  unfold inW at hq
                  simpa using hq
  · have hie : i = s.len := by omega
    subst hie
    refine .inl ?_
    rw [Nat.sub_self] at hq
    unfold compA at hq
    cases hf : s.fin S2 with
    | false => rw [hf] at hq; exact hq.elim
    | true =>
      rw [hf] at hq
      refine ⟨sv2 hf, fun z3 => ?_⟩
      unfold outW at hq
      simp only [if_true, List.append_nil] at hq
      exact mkL_ok rs2 ra (endL_len hq).2 p nG z3
theorem c_lc2 {elt tg iter tg1 iter1 : Expr} {ifs ifs1 : List Expr} {scope : Scope} {own : List (Str × Nat)} {vs1 : List Nat} {pos : Pos} {mt : Bool} {src src1 : Env → Store → Out Src} {g g1 : SG} {t t1 : ST} {e : SE} (hc : X.calm = true) (hN : X.N.Nodup) (hi : PI X tg iter (lI X.K cl E src)) (ok : BlkOk X.N X.env.scope scope own) (hv : ∀ i ∈ vs1, i ∈ own.map (·.2))
    (hg : ∀ (s : Shared) (H : Hp) (C : Addr) (cs : List (Str × Addr)) (fp : List Addr), PG (X.blk s H scope (compEnvC scope cs C X.env) fp) tg (lG X.K cl E0 (some (own.map (·.2))) g))
    (ht : ∀ (s : Shared) (H : Hp) (C : Addr) (cs : List (Str × Addr)) (fp : List Addr), PTs (X.blk s H scope (compEnvC scope cs C X.env) fp) ifs (lT X.K cl E0 t))
    (hi1 : ∀ (s : Shared) (H : Hp) (C : Addr) (cs : List (Str × Addr)) (fp : List Addr), PI (X.blk s H scope (compEnvC scope cs C X.env) fp) tg1 iter1 (lI X.K cl E0 src1))
    (hg1 : ∀ (s : Shared) (H : Hp) (C : Addr) (cs : List (Str × Addr)) (fp : List Addr), PG (X.blk s H scope (compEnvC scope cs C X.env) fp) tg1 (lG X.K cl E0 (some vs1) g1))
    (ht1 : ∀ (s : Shared) (H : Hp) (C : Addr) (cs : List (Str × Addr)) (fp : List Addr), PTs (X.blk s H scope (compEnvC scope cs C X.env) fp) ifs1 (lT X.K cl E0 t1))
    (he : ∀ (s : Shared) (H : Hp) (C : Addr) (cs : List (Str × Addr)) (fp : List Addr), PE (X.blk s H scope (compEnvC scope cs C X.env) fp) elt (lE X.K cl E0 e)) (hs : ∀ x, foldedSetIterable iter X.env x = pure x) (hs1 : ∀ env x, foldedSetIterable iter1 env x = pure x) :
    PE X (.ListComp elt [⟨tg, iter, ifs, 0⟩, ⟨tg1, iter1, ifs1, 0⟩] scope pos) (lE X.K cl E (mLC2 (own.map (·.2)) vs1 mt src g t src1 g1 t1 e)) :=
  PE.via (pe_lc2 hc hN hi ok hv hg ht hi1 hg1 ht1 he hs hs1) fun σ H Q _ h => l_lc2 σ H Q h
end
end Mir
end

section
set_option Elab.async false
set_option linter.all false
set_option maxRecDepth 100000
set_option maxHeartbeats 2000000
/-! Mir6f: repr of what is built of small ints; list(range(..)). -/
namespace Mir
open PySem PySem.Spec PyProof.Rows L2
mutual
def smD : D → Bool
  | .int i => Nat.ble i.natAbs 900000000000
  | .tup xs => smDs xs
  | .lst xs => smDs xs
  | .non => true
  | .bl _ => true
  | _ => false
def smDs : List D → Bool
  | [] => true
  | x :: xs => smD x && smDs xs
end
mutual
def cnD : D → Nat
  | .tup xs => cnDs xs + 1
  | .lst xs => cnDs xs + 1
  | _ => 1
def cnDs : List D → Nat
  | [] => 0
  | x :: xs => cnD x + 1 + cnDs xs
end
structure ShowOk (d : PyData) (n : Nat) : Prop where
  lay : d.canLay0 = true
  sho : d.showable = true
  sml : d.intsShort 13 = true
  wei : d.weight ≤ 50 * n
structure ShowsOk (ds : List PyData) (n : Nat) : Prop where
  lay : PyData.canLayAll0 ds = true
  sho : PyData.showableAll ds = true
  sml : PyData.intsShortAll 13 ds = true
  wei : PyData.weightAll ds ≤ 50 * n
theorem small_int {i : Int} (h : smD (.int i) = true) : ShowOk (.int i) 1 := by
  have h : i.natAbs ≤ 900000000000 := Nat.le_of_ble_eq_true (by simpa [smD] using h)
  have l : i.natAbs.log2 < 41 := by
    by_cases z : i.natAbs = 0
    · rw [z]; decide
    · exact (Nat.log2_lt z).mpr (by omega)
  have t := int_text_length_le10 (a := i) (k := 12) (by decide) (by omega)
  refine ⟨by simp [PyData.canLay0], by simp only [PyData.showable, decide_eq_true_eq]; omega, ?_, ?_⟩
  · simp only [PyData.intsShort, decide_eq_true_eq]
    show (Str.ofString (toString i)).length ≤ 13
    rw [PySem.ofString_length]
    exact t
  · simp only [PyData.weight]
    split <;> omega
mutual
theorem showOk : ∀ d : D, smD d = true → ShowOk (py d) (cnD d)
  | .non, _ => ⟨by simp [py, PyData.canLay0], by simp [py, PyData.showable], by simp [py, PyData.intsShort], by simp [py, PyData.weight]⟩
  | .bl _, _ => ⟨by simp [py, PyData.canLay0], by simp [py, PyData.showable], by simp [py, PyData.intsShort], by simp [py, PyData.weight]⟩
  | .int i, h => by
    have z := small_int h
    simpa only [py, cnD] using z
  | .tup xs, h => by
    have z := showsOk xs (by simpa only [smD] using h)
    refine ⟨by simpa only [py, PyData.canLay0] using z.lay, by simpa only [py, PyData.showable] using z.sho, by simpa only [py, PyData.intsShort] using z.sml, ?_⟩
    have := z.wei
    simp only [py, PyData.weight, cnD]
    omega
  | .lst xs, h => by
    have z := showsOk xs (by simpa only [smD] using h)
    refine ⟨by simpa only [py, PyData.canLay0] using z.lay, by simpa only [py, PyData.showable] using z.sho, by simpa only [py, PyData.intsShort] using z.sml, ?_⟩
    have := z.wei
    simp only [py, PyData.weight, cnD]
    omega
  | .str _, h => by simp [smD] at h
  | .ref _, h => by simp [smD] at h
  | .scr _, h => by simp [smD] at h
theorem showsOk : ∀ ds : List D, smDs ds = true → ShowsOk (pys ds) (cnDs ds)
  | [], _ => ⟨by simp [pys, PyData.canLayAll0], by simp [pys, PyData.showableAll], by simp [pys, PyData.intsShortAll], by simp [pys, PyData.weightAll]⟩
  | d :: ds, h => by
    have h : (smD d && smDs ds) = true := by simpa only [smDs] using h
    rw [Bool.and_eq_true] at h
    have a := showOk d h.1
    have b := showsOk ds h.2
    refine ⟨by simp [pys, PyData.canLayAll0, a.lay, b.lay], by simp [pys, PyData.showableAll, a.sho, b.sho], by simp [pys, PyData.intsShortAll, a.sml, b.sml], ?_⟩
    have h1 := a.wei
    have h2 := b.wei
    simp only [pys, PyData.weightAll, cnDs]
    omega
end
def reprOk (d : D) : Bool := okD 60 d && (smD d && Nat.ble (cnD d) 20000)
theorem repr_fits {d : D} (h : reprOk d = true) : (py d).showable = true ∧ (py d).shown.length ≤ sizeLine ∧ (py d).depth ≤ 60 ∧ (py d).hasDict = false := by
  unfold reprOk at h
  rw [Bool.and_eq_true, Bool.and_eq_true] at h
  obtain ⟨h1, h2, h3⟩ := h
  have h3 := Nat.le_of_ble_eq_true h3
  have z := showOk d h2
  obtain ⟨_, dep⟩ := ok_py 60 d h1
  have w := z.wei
  have lay : PyData.layable0 (py d) = true := by
    show (PyData.canLay0 (py d) && decide (PyData.depth (py d) ≤ 64) && decide (PyData.weight (py d) ≤ 2 ^ 20)) = true
    simp only [Bool.and_eq_true, decide_eq_true_eq]
    exact ⟨⟨z.lay, by omega⟩, by omega⟩
  exact ⟨z.sho, PyData.shown_fits_of_layable0 (by decide) (by decide) lay z.sml, dep, PyData.hasDict_of_canLay _ z.lay⟩
section
variable {K : PySem.W.Frag} {cl : Nat → Addr} {E : XK} {ρ : Rho} {H : Hp} {S : Store} {σ : L2.St} {X : Cx}
def vRepr : VL
  | [d], S => match d with
    | .tup xs => if reprOk (.tup xs) then .ok (.str (py (.tup xs)).shown) S else .bad
    | .lst xs => if reprOk (.lst xs) then .ok (.str (py (.lst xs)).shown) S else .bad
    | .non => .ok (.str (py .non).shown) S
    | _ => .bad
  | _, _ => .bad
theorem repr_ref {pins : List (Addr × Obj)} {s : Shared} {d : D} {a : Addr} {Q : VK} (hu : X.A.units + 65 < cLine) (hg : X.A.guards = some []) (I : L2.Inv X pins σ H s) (r : RD X.K ρ H d (.ref a)) (h : reprOk d = true) (q : Q (.str (py d).shown) H) : wpAny (model X.prog X.w) X.A (call (.builtin "repr") [.ref a]) (EP X pins σ Q) X.xe s := by
  obtain ⟨h1, h2, h3, h4⟩ := repr_fits h
  have ok : okD 60 d = true := by
    unfold reprOk at h
    rw [Bool.and_eq_true] at h
    exact h.1
  obtain ⟨as, rd⟩ := Dp.reads I (py d) (.ref a) (.ref a) (dp_of 60 d _ ok r) rfl
  exact repr_of_reads' rd h1 (PyData.noDict_hsm h4) hg (by omega) (fun _ _ e => e) (fun h' u tk hk => ⟨.str _, H, I.kept hk, ⟨_, rfl⟩, q⟩) h2
theorem cb_repr (hu : X.A.units + 65 < cLine) (hg : X.A.guards = some []) : CallR X (.builtin "repr") (wL X.K cl E vRepr) := by
  intro pins s σ H vs us Q I r h
  obtain ⟨ρ, S, ds, rs, rd, h⟩ := h
  unfold vRepr at h
  split at h
  · obtain ⟨v, rfl, rv⟩ := rd.one
    split at h
    · split at h
      · rename_i hk
        obtain ⟨a, _, rfl, _, _⟩ := rv.tupT
        rw [Vals.ref1 r]
        exact repr_ref hu hg I rv hk (ok_val rs h RD.str (siz_of I.hok))
      · exact h.elim
    · split at h
      · rename_i hk
        obtain ⟨a, _, rfl, _, _⟩ := rv.lstL
        rw [Vals.ref1 r]
        exact repr_ref hu hg I rv hk (ok_val rs h RD.str (siz_of I.hok))
      · exact h.elim
    · cases rv.ofNon
      obtain ⟨u, rfl, ru⟩ := vals1 r
      cases (show u = Value.none from ru)
      have q := ok_val rs h RD.str (siz_of I.hok)
      simp only [py, PyData.shown] at q
      exact PySem.P.repr_of_none ⟨.str _, H, I.tok _, ⟨_, rfl⟩, q⟩
    · exact h.elim
  · exact h.elim

/-! ### list(range(..)), tuple(range(..)) -/
def mRgA (tup mt : Bool) (i j : Int) (S : Store) : Out D :=
  if rngOk i && (rngOk j && Nat.ble (j - i).toNat 16777216) then (if tup then .ok (.tup (rangeD i (j - i).toNat)) S else mkL mt (rangeD i (j - i).toNat) S) else .bad
def mRg1 (tup mt : Bool) (a : SE) : SE := fun env S => (a env S).bind fun x S1 => match x with
  | .int j => mRgA tup mt 0 j S1
  | _ => .bad
def mRg2 (tup mt : Bool) (a b : SE) : SE := fun env S => (a env S).bind fun x S1 => (b env S1).bind fun y S2 => match x, y with
  | .int i, .int j => mRgA tup mt i j S2
  | _, _ => .bad
theorem rangeD_rel {i j : Int} : RDs K ρ H (rangeD i (j - i).toNat) (rgV i j) := by
  unfold rangeD rgV
  generalize List.range (j - i).toNat = ns
  induction ns with
  | nil => exact RDs.nil
  | cons n ns ih => exact RDs.cons RD.int ih
theorem rgA_lst {mt : Bool} {i j : Int} {Q : VK} (rs : RelS K ρ S H) (h : OKo K cl E ρ H (RD K) Q (mRgA false mt i j S)) : RgOk i j ∧ ∀ q, H q = none → Siz (upd H q (.lst (rgV i j))) → Q (.ref q) (upd H q (.lst (rgV i j))) := by
  unfold mRgA at h
  split at h
  · rename_i hc
    rw [Bool.and_eq_true, Bool.and_eq_true] at hc
    obtain ⟨b1, b2⟩ := rngOk_ok hc.1
    obtain ⟨b3, b4⟩ := rngOk_ok hc.2.1
    have b5 := Nat.le_of_ble_eq_true hc.2.2
    refine ⟨⟨b1, b2, b3, b4, by omega⟩, fun q hq z => ?_⟩
    rw [if_neg (by decide)] at h
    exact mkL_ok rs rangeD_rel h q hq z
  · exact h.elim
theorem rgA_tup {mt : Bool} {i j : Int} {Q : VK} (rs : RelS K ρ S H) (h : OKo K cl E ρ H (RD K) Q (mRgA true mt i j S)) : RgOk i j ∧ ∀ q, H q = none → Siz (upd H q (.tup (rgV i j))) → Q (.ref q) (upd H q (.tup (rgV i j))) := by
  unfold mRgA at h
  split at h
  · rename_i hc
    rw [Bool.and_eq_true, Bool.and_eq_true] at hc
    obtain ⟨b1, b2⟩ := rngOk_ok hc.1
    obtain ⟨b3, b4⟩ := rngOk_ok hc.2.1
    have b5 := Nat.le_of_ble_eq_true hc.2.2
    refine ⟨⟨b1, b2, b3, b4, by omega⟩, fun q hq z => ?_⟩
    rw [if_pos rfl] at h
    exact tup_ok rs rangeD_rel h q hq z
  · exact h.elim
theorem c_rg1 {tup mt : Bool} {a : Expr} {p p2 pos pos2 : Pos} {ma : SE} (hc : X.calm = true) (hg : Gl X "range") (hm : X.mg "range" = none) (hgl : Gl X (if tup then "tuple" else "list")) (hml : X.mg (if tup then "tuple" else "list") = none) (ha : PE X a (lE X.K cl E ma))
    (s1 : starEach [a] X.env = (false, eval a X.env) :: starEach [] X.env) : PE X (.Call (.Name (if tup then "tuple" else "list") p2) [.Call (.Name "range" p) [a] [] pos] [] pos2) (lE X.K cl E (mRg1 tup mt ma)) := by
  have R := prg_1 (p := p) (pos := pos) hg hm ha s1
  cases tup with
  | false =>
    refine PE.via (pe_listRg hc hgl hml R) fun σ H Q z h => ?_
    obtain ⟨ρ, env, S, rs, re, h⟩ := h
    refine lE_step rs re h fun x H1 ρ1 S1 d z1 g1 rs1 re1 rd h1 => ?_
    split at h1
    · cases rd.ofInt
      exact ⟨_, rfl, rgA_lst rs1 h1⟩
    · exact h1.elim
  | true =>
    refine PE.via (pe_tupRg hc hgl hml R) fun σ H Q z h => ?_
    obtain ⟨ρ, env, S, rs, re, h⟩ := h
    refine lE_step rs re h fun x H1 ρ1 S1 d z1 g1 rs1 re1 rd h1 => ?_
    split at h1
    · cases rd.ofInt
      exact ⟨_, rfl, rgA_tup rs1 h1⟩
    · exact h1.elim
end
end Mir
end

section
set_option Elab.async false
set_option linter.all false
set_option maxRecDepth 100000
set_option maxHeartbeats 2000000
/-! Mir6g: x[::-1] of lists and tuples. -/
namespace Mir
open PySem PySem.Spec PyProof.Rows L2
section
variable {prog : Program} {w : World} {A : Around} {E : Value → Shared → Prop} {s : Shared}
theorem back_bounds (n : Nat) : Builtin.Slice.sliceAdjust none none (-1) (n : Int) = ((n : Int) - 1, -1) := rfl
theorem back_places (n : Nat) : Builtin.Slice.slicePlaces ((n : Int) - 1) (-1) (-1) = n := by
  unfold Builtin.Slice.slicePlaces
  have h1 : ¬ ((-1 : Int) > 0) := by omega
  rw [if_neg h1]
  by_cases h : (n : Int) - 1 > -1
  · rw [if_pos h, show (- (-1 : Int)) = 1 from rfl, Int.ediv_one]
    omega
  · rw [if_neg h]
    omega
theorem back_slice {sl : Addr} {vl vu vs : Value} {n : Nat} {Q : Int × Int × Nat → Shared → Prop} (hs : s.heap.IsSliceOf sl vl vu vs) (pl : IsPart vl none) (pu : IsPart vu none) (ps : IsPart vs (some (-1))) (h : Q ((n : Int) - 1, -1, n) s) :
    wpAny (model prog w) A (Builtin.Slice.sliceApplied (.ref sl) (pure (n : Int))) Q E s := by
  obtain ⟨o, ho, hc, hd⟩ := id hs
  unfold Builtin.Slice.sliceApplied Builtin.Slice.sliceFields
  refine wpAny_bind (wpAny_bind (wpAny_field ho hd (x := vl) rfl (wpAny_bind (wpAny_field ho hd (x := vu) rfl (wpAny_bind (wpAny_field ho hd (x := vs) rfl (wpAny_pure ?_)))))))
  refine wpAny_bind (HT.slicePart_ ps ?_)
  show wpAny _ _ (if ((-1 : Int) == 0) = true then _ else _) _ _ s
  rw [if_neg (by decide)]
  refine wpAny_bind (HT.slicePart_ pl (wpAny_bind (HT.slicePart_ pu (wpAny_bind (wpAny_pure ?_)))))
  show wpAny _ _ (pure ((n : Int) - 1, (-1 : Int), Builtin.Slice.slicePlaces ((n : Int) - 1) (-1) (-1))) _ _ s
  rw [back_places]
  exact wpAny_pure h
theorem back_pick (xs : Array Value) : ((List.range xs.size).filterMap fun (k : Nat) => xs[(((xs.size : Int) - 1) + (k : Int) * (-1)).toNat]?).toArray = xs.toList.reverse.toArray := by
  have e : (fun (k : Nat) => xs[(((xs.size : Int) - 1) + (k : Int) * (-1)).toNat]?) = (fun i : Nat => xs[i]?) ∘ fun k : Nat => (((xs.size : Int) - 1) + (k : Int) * (-1)).toNat := rfl
  rw [e, ← List.filterMap_map]
  have m : (List.range xs.size).map (fun k : Nat => (((xs.size : Int) - 1) + (k : Int) * (-1)).toNat) = (List.range xs.size).map fun k => xs.size - 1 - k := by
    apply List.map_congr_left
    intro k hk
    have := List.mem_range.mp hk
    omega
  rw [m, PySem.W.krv_range, List.filterMap_reverse, PySem.W.krv_all]
theorem getItem_back {t sl : Addr} {items : Array Value} {vl vu vs : Value} {Q : Value → Shared → Prop} (ht : IsTup s.heap t items) (hs : s.heap.IsSliceOf sl vl vu vs) (pl : IsPart vl none) (pu : IsPart vu none) (ps : IsPart vs (some (-1))) (hsz : items.size ≤ sizeLine)
    (h : Q (.ref s.heap.objs.size) { s with heap := s.heap.push { cls := .type "tuple", data := .seq items.toList.reverse.toArray } }) : wpAny (model prog w) A (getItem (.ref t) (.ref sl)) Q E s := by
  obtain ⟨o, ho, hc, hd⟩ := id hs
  have hT : s.TypeIs (.ref sl) "slice" := ⟨o, ho, hc⟩
  have fits : sizeOk (.seq items.toList.reverse.toArray) := by
    show items.toList.reverse.toArray.size ≤ sizeLine
    simpa using hsz
  unfold getItem
  try with_reducible refine wpAny_holding ?_
  first | refine wpAny_bind (wpAny_pure ?_) | skip
  refine wpAny_bind (wpAny_sequenceKey ht.typeIs (by decide) ?_)
  refine wpAny_bind (wpAny_callSpecial?_slot (name := Str.ofString "__getitem__") ht.typeIs PyProof.Rows.slot_tuple_getitem (wpAny_call_entry PyProof.Rows.slot_tuple_getitem ht.typeIs entry_tuple_getitem ?_ (args_tuple_getitem _ _)))
  show wpAny _ _ (Builtin.Tuple.tupleItemsOf (.ref t) >>= _) _ _ s
  refine wpAny_bind (tupleItemsOf_ ht (wpAny_bind (wpAny_typeOf hT ?_)))
  rw [if_pos (by decide)]
  refine wpAny_bind (back_slice (n := items.size) hs pl pu ps ?_)
  have no : ¬ ((((items.size : Int) - 1) == 0 && (-1 : Int) == 1 && items.size == items.size) = true) := by
    intro q
    rw [Bool.and_eq_true, Bool.and_eq_true] at q
    exact absurd q.1.2 (by decide)
  show wpAny _ _ (if (((items.size : Int) - 1) == 0 && (-1 : Int) == 1 && items.size == items.size) = true then _ else _) _ _ s
  rw [if_neg no, back_pick]
  first
    | exact wpAny_bind (m := Builtin.Tuple.tupleExact _) (wpAny_newObj_type (wpAny_pure ⟨_, rfl, wpAny_pure h⟩) fits)
    | exact wpAny_bind (m := Builtin.Tuple.tupleExact _) (wpAny_newObj_type (wpAny_bind (wpAny_pure (wpAny_pure ⟨_, rfl, wpAny_pure h⟩))) fits)
    | exact wpAny_bind (wpAny_bind (m := Builtin.Tuple.tupleExact _) (wpAny_newObj_type (wpAny_pure (wpAny_pure ⟨_, rfl, wpAny_pure h⟩)) fits))
    | exact wpAny_bind (wpAny_bind (m := Builtin.Tuple.tupleExact _) (wpAny_newObj_type (wpAny_pure ⟨_, rfl, wpAny_pure h⟩) fits))
end
section
variable {K : PySem.W.Frag} {cl : Nat → Addr} {E : XK} {ρ : Rho} {H : Hp} {S : Store} {σ : L2.St} {X : Cx}
/-- what x[::-1] asks -/
def rBack (K : PySem.W.Frag) (x : V) (H : Hp) (Q : VK) : Prop := (∃ a xs, x = .ref a ∧ SqL K H a xs ∧ ∀ p, H p = none → Q (.ref p) (upd H p (.lst xs.reverse))) ∨ ∃ a xs, x = .ref a ∧ SqT K H a xs ∧ ∀ p, H p = none → Q (.ref p) (upd H p (.tup xs.reverse))
theorem pe_back {e : Expr} {te : TE} {k : Nat} {p1 p2 p3 pos : Pos} (he : PE X e te) : PE X (.Subscript e (.Slice none none (some (.UnaryOp .USub (.Constant (.int 1) k p1) p2)) p3) pos) (fun σ H Q => te σ H fun x H1 => rBack X.K x H1 Q) := by
  refine ⟨fun pins s σ H Q I h => Subscript_ (thn (he.run pins s σ H _ I h) fun v s1 ⟨x, H1, I1, r1, q1⟩ => ?_)⟩
  have minus : PO X (some (.UnaryOp .USub (.Constant (.int 1) k p1) p2)) (tPart (tUn (rU fun i => .int (-i)) (tC (.int 1)))) := po_some (pe_un un_neg pe_int)
  refine wpAny_Slice (thn (po_none.run pins s1 σ H1 (fun o H' => o = none ∧ H' = H1) I1 ⟨rfl, rfl⟩) fun vl s2 ⟨l, H2, I2, pl, el, e2⟩ => ?_)
  subst el e2
  refine thn (po_none.run pins s2 σ H2 (fun o H' => o = none ∧ H' = H2) I2 ⟨rfl, rfl⟩) fun vu s3 ⟨u, H3, I3, pu, eu, e3⟩ => ?_
  subst eu e3
  refine thn (minus.run pins s3 σ H3 (fun o H' => o = some (-1) ∧ H' = H3) I3 ⟨1, rfl, -1, rfl, rfl, rfl⟩) fun vs s4 ⟨o, H4, I4, ps, eo, e4⟩ => ?_
  subst eo e4
  have J : L2.Inv X pins σ H4 { s4 with heap := s4.heap.push { cls := .type "slice", data := .fields #[vl, vu, vs] } } := I4.kept (t' := s4.toks) fun b ob q => Heap.get?_push_of_some _ q
  rcases q1 with ⟨a, xs, ex, hx, q⟩ | ⟨a, xs, ex, hx, q⟩
  · subst ex
    cases r1
    obtain ⟨its, r, ht, hz⟩ := J.list hx
    have hlen := r.length
    show wpAny (model X.prog X.w) X.A (subscriptTail e (.Slice none none (some (.UnaryOp .USub (.Constant (.int 1) k p1) p2)) p3) (.ref a) (.ref s4.heap.objs.size)) (EP X pins σ Q) X.xe { s4 with heap := s4.heap.push { cls := .type "slice", data := .fields #[vl, vu, vs] } }
    refine tail_any (ops := [.ref a, .ref s4.heap.objs.size]) ht.isList.typeIs (PySem.slot_list_getitem.lookup) ?_ (by with_unfolding_all rfl)
    refine wpAny_getItem_list_slice ht.isList (Heap.IsSliceOf.new _ vl vu vs) pl pu ps (by decide) ?_ (by rw [List.size_toArray]; omega)
    rw [PySem.W.krv_pick]
    refine ⟨.ref _, _, J.laid (t' := s4.toks) (o := .lst xs.reverse) (fun b ob q => Heap.get?_push_of_some _ q) (Nat.le_refl _) ?_, rfl, q _ (J.hok.fresh (Nat.le_refl _))⟩
    exact ⟨by rw [List.length_reverse]; exact hz, _, 0, r.reverse, Heap.get?_push_size _ rfl⟩
  · subst ex
    cases r1
    obtain ⟨its, r, ht, hz⟩ := J.tuple hx
    have hlen := r.length
    show wpAny (model X.prog X.w) X.A (subscriptTail e (.Slice none none (some (.UnaryOp .USub (.Constant (.int 1) k p1) p2)) p3) (.ref a) (.ref s4.heap.objs.size)) (EP X pins σ Q) X.xe { s4 with heap := s4.heap.push { cls := .type "slice", data := .fields #[vl, vu, vs] } }
    refine tail_any (ops := [.ref a, .ref s4.heap.objs.size]) ht.typeIs (PyProof.Rows.slot_tuple_getitem.lookup) ?_ (by with_unfolding_all rfl)
    refine getItem_back ht (Heap.IsSliceOf.new _ vl vu vs) pl pu ps (by rw [List.size_toArray]; omega) ?_
    refine ⟨.ref _, _, J.laid (t' := s4.toks) (o := .tup xs.reverse) (fun b ob q => Heap.get?_push_of_some _ q) (Nat.le_refl _) ?_, rfl, q _ (J.hok.fresh (Nat.le_refl _))⟩
    exact ⟨by rw [List.length_reverse]; exact hz, _, r.reverse, IsTup.new _ _⟩
theorem RDs.rev : ∀ {ds : List D} {vs : List V}, RDs K ρ H ds vs → RDs K ρ H ds.reverse vs.reverse
  | [], _, h => by unfold RDs at h; subst h; exact RDs.nil
  | d :: ds, _, h => by
    unfold RDs at h
    obtain ⟨v, r, rfl, h1, h2⟩ := h
    rw [List.reverse_cons, List.reverse_cons]
    exact (RDs.rev h2).append (RDs.cons h1 RDs.nil)
def mRev (mt : Bool) (a : SE) : SE := fun env S => (a env S).bind fun x S1 => match x with
  | .tup xs => .ok (.tup xs.reverse) S1
  | x => match listOf S1 x with
    | some xs => mkL mt xs.reverse S1
    | none => .bad
theorem c_back {e : Expr} {k : Nat} {p1 p2 p3 pos : Pos} {mt : Bool} {ma : SE} (he : PE X e (lE X.K cl E ma)) : PE X (.Subscript e (.Slice none none (some (.UnaryOp .USub (.Constant (.int 1) k p1) p2)) p3) pos) (lE X.K cl E (mRev mt ma)) := by
  refine PE.via (pe_back he) fun σ H Q z h => ?_
  obtain ⟨ρ, env, S, rs, re, h⟩ := h
  refine lE_step rs re h fun x H1 ρ1 S1 d z1 g1 rs1 re1 rd h1 => ?_
  split at h1
  · obtain ⟨a, vs, rfl, hs, q⟩ := rd.tupT
    exact .inr ⟨a, vs, rfl, hs, tup_ok rs1 q.rev h1⟩
  · split at h1
    · rename_i xs hl
      obtain ⟨a, vs, rfl, hs, q⟩ := list_at rs1 hl rd
      exact .inl ⟨a, vs, rfl, SqL.of hs, mkL_ok rs1 q.rev h1⟩
    · exact h1.elim
end
end Mir
end

section
set_option Elab.async false
set_option linter.all false
set_option maxRecDepth 100000
set_option maxHeartbeats 2000000
/-! Mir6h: a lambda without parameters handed to a def that calls it at once. -/
namespace Mir
open PySem PySem.Spec PyProof.Rows L2
/-- what the def makes of the lambda's outcome; word: by the error's class -/
inductive LK where
  | told (rd : FSem) (word : Nat → Option Str)
  | raises (word : Nat → Option Int)
  | raised (word : Nat → Option Int)
def LK.fin (kd : LK) (pre : List D) (o : Out D) : Out D := match kd with
  | .told rd word => (match o with
    | .ok d S => (match rd [d] S with
      | .ok d2 S2 => .ok (.tup [.int 0, d2]) S2
      | _ => .bad)
    | .ex c S => (match word c with
      | some x => .ok (.tup [.int 1, .str x]) S
      | none => .bad)
    | .bad => .bad)
  | .raises word => (match o with
    | .ok _ S => .ok (.bl false) S
    | .ex c S => (match pre with
      | [.int k] => (match word c with
        | some j => .ok (.bl (decide (k = j))) S
        | none => .bad)
      | _ => .bad)
    | .bad => .bad)
  | .raised word => (match o with
    | .ok _ S => .ok (.int 0) S
    | .ex c S => (match word c with
      | some j => .ok (.int j) S
      | none => .bad)
    | .bad => .bad)
/-- x(lambda: e), x(i, lambda: e) -/
def mLam (kd : LK) (pre : List D) (m : SE) : SE := fun env S => kd.fin pre (m env S)

/-- the reading of the whole, by the lambda's -/
def LK.TT (K : PySem.W.Frag) (cl : Nat → Addr) (kd : LK) (pre : List V) (tl : XK → Hp → VK → Prop) (H : Hp) (Q : VK) : Prop := match kd with
  | .told rd word => tl (fun cls d H' => d = none ∧ ∃ c x, cls = .ref (cl c) ∧ word c = some x ∧ ∀ p, H' p = none → Siz (upd H' p (.tup [.int 1, .str x])) → Q (.ref p) (upd H' p (.tup [.int 1, .str x]))) H
      fun v H' => spM K cl rd [v] H' (fun v2 H2 => [V.int 0, v2].length ≤ sizeLine ∧ ∀ p, H2 p = none → Siz (upd H2 p (.tup [.int 0, v2])) → Q (.ref p) (upd H2 p (.tup [.int 0, v2]))) fun _ _ _ => False
  | .raises word => tl (fun cls d H' => d = none ∧ ∃ c j k, cls = .ref (cl c) ∧ word c = some j ∧ pre = [.int k] ∧ (Siz H' → Q (.bl (decide (k = j))) H')) H fun _ H' => Siz H' → Q (.bl false) H'
  | .raised word => tl (fun cls d H' => d = none ∧ ∃ c j, cls = .ref (cl c) ∧ word c = some j ∧ (Siz H' → Q (.int j) H')) H fun _ H' => Siz H' → Q (.int 0) H'
/-- the closure at f, made at s, does what it promises wherever it is called -/
structure ClosOk (P : Program) (w : World) (K : PySem.W.Frag) (mg : Str → Option Value) (base : Heap) (j : Nat) (outer : List PySem.Env) (s : Shared) (H : Hp) (f : Addr) (I : Hp → Prop) (tl : XK → Hp → VK → Prop) : Prop where
  at_ : PySem.W.FnAt f s.heap ∧ H f = none ∧ f ∉ frs outer
  run : ∀ (A : Around) (out2 : List PySem.Env) (s2 : Shared) (H2 : Hp) (Q : VK) (E : XK), Room (j + 1) A → A.guards = some [] → Env0 P w K mg base A out2 s2 H2 → Un (frs outer) [] H H2 s.heap s2.heap → I H2 → tl E H2 Q →
    codeAny (model P w) A (.call (.ref f) ⟨[], []⟩) (CR (L2.CX P w) out2 P w H2 s2 Q E) s2
theorem ClosOk.there {P : Program} {w : World} {K : PySem.W.Frag} {mg : Str → Option Value} {base : Heap} {j : Nat} {outer : List PySem.Env} {s : Shared} {H H2 : Hp} {f : Addr} {I : Hp → Prop} {tl : XK → Hp → VK → Prop} {h2 : Heap} (C : ClosOk P w K mg base j outer s H f I tl) (un : Un (frs outer) [] H H2 s.heap h2) : PySem.W.FnAt f h2 := by
  obtain ⟨⟨oc, od, fd, sl, e⟩, hn, hf⟩ := C.at_
  exact ⟨oc, od, fd, sl, un.keep f _ e hn hf (by simp)⟩
/-- a def that calls the closure that it got last -/
structure LamCal (P : Program) (w : World) (K : PySem.W.Frag) (mg : Str → Option Value) (base : Heap) (cl : Nat → Addr) (j k : Nat) (x : Str) (np : Nat) (kd : LK) : Prop where
  ex : ∃ (a : Addr) (fd : FuncData) (ps : List Str), mg x = some (.ref a) ∧ PySem.W.keepIn K (.ref a) = true ∧ Binds K fd ps [] ∧ ps.length = np + 1 ∧
    ∀ (A : Around) (outer : List PySem.Env) (s : Shared) (H : Hp) (args : Args) (pre : List V) (us : List Value) (f : Addr) (I : Hp → Prop) (tl : XK → Hp → VK → Prop) (Q : VK), Room k A → A.guards = some [] → Env0 P w K mg base A outer s H → BindsTo s fd args (ps.zip us) →
      Vals (pre ++ [.ref f]) us → pre.length = np → ClosOk P w K mg base j outer s H f I tl → I H → kd.TT K cl pre tl H Q → codeAny (model P w) A (.call (.ref a) args) (CR C8.CX0 outer P w H s Q C8.E0) s
theorem LamCal.mono {P : Program} {w : World} {K : PySem.W.Frag} {mg : Str → Option Value} {base : Heap} {cl : Nat → Addr} {j k k' : Nat} {x : Str} {np : Nat} {kd : LK} (C : LamCal P w K mg base cl j k x np kd) (h : k ≤ k') : LamCal P w K mg base cl j k' x np kd :=
  ⟨let ⟨a, fd, ps, h1, h2, h3, h4, F⟩ := C.ex; ⟨a, fd, ps, h1, h2, h3, h4, fun A outer s H args pre us f I tl Q hr => F A outer s H args pre us f I tl Q (hr.mono h)⟩⟩
section
variable {X : Cx} {cl : Nat → Addr} {E : XK}
/-- the tracked objects stay where tables alone are written -/
theorem extN_grow {ρ : Rho} {H H1 : Hp} (e : LamX.ExtN H H1) : Grow ρ H ρ H1 :=
  ⟨⟨[], by simp, by simp⟩, ⟨[], by simp, by simp⟩, rfl, fun a o h _ q => e a o h q, fun a o h q => ⟨o, e a o h q, q⟩⟩
theorem ntab_tbl {o : HO} (n : NTab o) : ∀ ps, o ≠ .tbl ps := n.1
theorem extN_rel {K : PySem.W.Frag} {ρ : Rho} {S : Store} {H H1 : Hp} (rs : RelS K ρ S H) (e : LamX.ExtN H H1) (t : LamX.Tabs ρ.t H1) : RelS K ρ S H1 :=
  ⟨rs.len, rs.nd, t, rs.told, fun a ha => let ⟨n, u, e1, q⟩ := rs.hid a ha; ⟨n, u, e _ _ e1 q.1, q⟩, fun n a o h1 h2 => let ⟨h, e1, q⟩ := rs.ob n a o h1 h2; ⟨h, e _ _ e1 (ntab_ob q).1, q.grow (extN_grow e)⟩⟩
/-- x()'s outcome, where the lambda was made -/
theorem clos_ok {pins : List (Addr × Obj)} {σ : L2.St} {H : Hp} {s : Shared} {f c' : Addr} {pm ctv : Value} {params : Arguments} {body : Expr} {scope : Scope} {j : Nat} {tb : XK → TE}
    (I : Inv X pins σ H s) (L : LamX.LamS X.env.scope scope) (hf : s.heap.get? f = some (PySem.W.kla_obj "<lambda>" (X.env.qual ++ "<lambda>") params body scope (cloFrom X.env.cells scope.names []) pm c' ctv)) (hfn : H f = none) (hfr : f ∉ frs X.stack)
    (hbind : ∀ (q : Str) (cl : List (Str × Addr)) (pm cv ctv : Value), bindArgs (PySem.W.kla_fn "<lambda>" q params body scope cl pm cv ctv) ⟨[], []⟩ = pure [])
    (hbody : ∀ (A : Around) (out2 : List PySem.Env) (s2 : Shared) (H2 : Hp) (E : XK), Room j (A.deeper (LamX.lamEnv X scope s2.heap.objs.size f c')) → A.guards = some [] → PE (LamX.lamCx X A out2 s2 H2 E scope f c') body (tb E)) :
    ClosOk X.prog X.w X.K X.mg X.base j X.stack s H f (fun H2 => H2 c' = some (LamX.CodeO c' (X.env.qual ++ "<lambda>"))) (fun E' H' Q' => tb E' σ H' Q') := by
  refine ⟨⟨⟨_, _, _, _, hf⟩, hfn, hfr⟩, fun A out2 s2 H2 Q E' hr hgd e0 un hc ht => ?_⟩
  have here := un.keep f _ hf hfn hfr (by simp)
  obtain ⟨⟨oc, vs, t, oc1, oc2, oc3⟩, _, _⟩ := e0.hok c' _ hc
  refine PySem.W.kla_callFunE hr.depth here rfl L.co L.gen rfl ⟨c', oc, vs, t, rfl, oc1, oc2, oc3⟩ ?_
  rw [hbind]
  refine wpAny_pure (wpAny_newFunctionEnv (fun y hy => (L.own y hy).2) (fun y hy => absurd hy (by simp)) (fun h₁ hns hsb => ⟨e0.mod.nolimit.keeps fun b o e => ?_, ?_⟩) L.kind)
  · have e := (e0.bs b o e).1
    exact hsb.extBut b o (Nat.ne_of_lt (Heap.lt_size e)) (Heap.get?_push_of_some _ e)
  show codeAny _ _ (.expr body (LamX.lamEnv X scope s2.heap.objs.size f c')) _ _
  have J := LamX.lam_start2 (E := E') (f := f) (c' := c') (tk := s2.toks + ([] : List (Str × Value)).length) I L e0 hr.hd un hns fun b o e => hsb.extBut b o (Nat.ne_of_lt (Heap.lt_size e)) (Heap.get?_push_of_some _ e)
  refine PySem.W.kla_codeExpr (wpAny_mono ((hbody A out2 s2 H2 E' (hr.deeper _) hgd).run [] _ _ H2 Q J ht) (fun v s' hq => ?_) fun e s' hq => hq)
  obtain ⟨w', H', J', rv, q⟩ := hq
  exact ⟨w', H', J'.os, J'.bare, J'.base, J'.hok, rv, q⟩
/-- the lambda's reading, at the caller's slots -/
theorem lam_TT {kd : LK} {pre : List D} {vpre : List V} {m : SE} {ρ : Rho} {env : Env} {S : Store} {σ : L2.St} {H : Hp} {Q : VK} (rs : RelS X.K ρ S H) (re : RelE X.K ρ H env σ) (rp : RDs X.K ρ H pre vpre)
    (h : OKo X.K cl E ρ H (RD X.K) Q (mLam kd pre m env S)) : kd.TT X.K cl vpre (fun E' H' Q' => lE X.K cl E' m σ H' Q') H (fun v H' => Siz H' → Q v H') := by
  cases kd with
  | told rd word =>
    refine ⟨ρ, env, S, rs, re, ?_⟩
    have h : OKo X.K cl E ρ H (RD X.K) Q (match m env S with
      | .ok d S => (match rd [d] S with
        | .ok d2 S2 => .ok (.tup [.int 0, d2]) S2
        | _ => .bad)
      | .ex c S => (match word c with
        | some x => .ok (.tup [.int 1, .str x]) S
        | none => .bad)
      | .bad => .bad) := h
    cases hm : m env S with
    | ok d S1 =>
      rw [hm] at h
      intro ρ1 H1 v g rs1 rd1 _
      dsimp only at h
      refine ⟨ρ1, S1, [d], rs1, RDs.cons rd1 RDs.nil, ?_⟩
      cases hd : rd [d] S1 with
      | ok d2 S2 =>
        rw [hd] at h
        intro ρ2 H2 v2 g2 rs2 rd2 _
        refine ⟨by rw [sizeLine_eq]; simp, fun p np z _ => ?_⟩
        exact h ρ2 _ _ ((g.trans g2).trans (grow_upd np)) (rs2.out np) (RD.newTup rs2 np (RDs.cons RD.int (RDs.cons rd2 RDs.nil))) z
      | ex c S2 => rw [hd] at h; exact h.elim
      | bad => rw [hd] at h; exact h.elim
    | ex c S1 =>
      rw [hm] at h
      intro ρ1 H1 g rs1
      dsimp only at h
      cases hw : word c with
      | none => rw [hw] at h; exact h.elim
      | some x =>
        rw [hw] at h
        exact ⟨rfl, c, x, rfl, hw, fun p np z _ => h ρ1 _ _ (g.trans (grow_upd np)) (rs1.out np) (RD.newTup rs1 np (RDs.cons RD.int (RDs.cons RD.str RDs.nil))) z⟩
    | bad => rw [hm] at h; exact h.elim
  | raises word =>
    refine ⟨ρ, env, S, rs, re, ?_⟩
    unfold mLam LK.fin at h
    dsimp only at h
    cases hm : m env S with
    | ok d S1 =>
      rw [hm] at h
      exact fun ρ1 H1 v g rs1 _ z _ z' => h ρ1 H1 _ g rs1 RD.bl z'
    | ex c S1 =>
      rw [hm] at h
      dsimp only at h
      split at h
      · rename_i k
        cases hw : word c with
        | none => rw [hw] at h; exact h.elim
        | some jj =>
          rw [hw] at h
          intro ρ1 H1 g rs1
          obtain ⟨v, e2, rv⟩ := rp.one
          cases rv.ofInt
          exact ⟨rfl, c, jj, k, rfl, hw, e2, fun z _ => h ρ1 H1 _ g rs1 RD.bl z⟩
      · exact h.elim
    | bad =>
      rw [hm] at h
      exact h.elim
  | raised word =>
    refine ⟨ρ, env, S, rs, re, ?_⟩
    have h : OKo X.K cl E ρ H (RD X.K) Q (match m env S with
      | .ok _ S => .ok (.int 0) S
      | .ex c S => (match word c with
        | some j => .ok (.int j) S
        | none => .bad)
      | .bad => .bad) := h
    cases hm : m env S with
    | ok d S1 =>
      rw [hm] at h
      exact fun ρ1 H1 v g rs1 _ z _ z' => h ρ1 H1 _ g rs1 RD.int z'
    | ex c S1 =>
      rw [hm] at h
      dsimp only at h
      cases hw : word c with
      | none => rw [hw] at h; exact h.elim
      | some jj =>
        rw [hw] at h
        exact fun ρ1 H1 g rs1 => ⟨rfl, c, jj, rfl, hw, fun z _ => h ρ1 H1 _ g rs1 RD.int z⟩
    | bad => rw [hm] at h; exact h.elim
end
end Mir
end

section
set_option Elab.async false
set_option linter.all false
set_option maxRecDepth 100000
set_option maxHeartbeats 2000000
/-! Mir6i: x(lambda: e), where it is written. -/
namespace Mir
open PySem PySem.Spec PyProof.Rows L2
/-- where lambdas can be made: the def's code object and its table -/
structure LamAt (X : Cx) : Prop where
  ex : ∃ c P, X.env.code = .ref c ∧ LamX.TabB X.base X.mg c P ∧ (P, X.env.qual ++ "<lambda>") ∈ tabsK X.K ∧ ∀ p ∈ tabsK X.K, p.1 = P → p.2 = X.env.qual ++ "<lambda>"
def lamBare : Arguments → Bool
  | { posonlyargs := [], args := [], vararg := none, kwonlyargs := [], kw_defaults := [], kwarg := none, defaults := [] } => true
  | _ => false
theorem lam_bare {ps : Arguments} (h : lamBare ps = true) : ps = { posonlyargs := [], args := [], vararg := none, kwonlyargs := [], kw_defaults := [], kwarg := none, defaults := [] } := by
  unfold lamBare at h
  split at h
  · rfl
  · cases h
section
variable {X : Cx} {cl : Nat → Addr} {E : XK} {pins : List (Addr × Obj)} {σ : L2.St} {H : Hp} {s : Shared}
/-- the lambda made, then handed over -/
theorem lam_core {kd : LK} {pre : List D} {vpre : List V} {us0 : List Value} {m : SE} {ρ : Rho} {env : Env} {S : Store} {Q : VK} {j k : Nat} {np : Nat} {a : Addr} {fd : FuncData} {ps : List Str} {params : Arguments} {body : Expr} {scope : Scope} {lpos : Pos} (T : LamAt X)
    (hb : Binds X.K fd ps []) (hl : ps.length = np + 1) (hr : Room k X.A) (hgd : X.A.guards = some [])
    (F : ∀ (A : Around) (outer : List PySem.Env) (s : Shared) (H : Hp) (args : Args) (pre : List V) (us : List Value) (f : Addr) (I : Hp → Prop) (tl : XK → Hp → VK → Prop) (Q : VK), Room k A → A.guards = some [] → Env0 X.prog X.w X.K X.mg X.base A outer s H → BindsTo s fd args (ps.zip us) →
      Vals (pre ++ [.ref f]) us → pre.length = np → ClosOk X.prog X.w X.K X.mg X.base j outer s H f I tl → I H → kd.TT X.K cl pre tl H Q → codeAny (model X.prog X.w) A (.call (.ref a) args) (CR C8.CX0 outer X.prog X.w H s Q C8.E0) s)
    (L : LamX.LamS X.env.scope scope) (hdef : defaultsOf params X.env = ([], []))
    (hbind : ∀ (q : Str) (cl : List (Str × Addr)) (pm cv ctv : Value), bindArgs (PySem.W.kla_fn "<lambda>" q params body scope cl pm cv ctv) ⟨[], []⟩ = pure [])
    (hbody : ∀ (A : Around) (out2 : List PySem.Env) (s2 : Shared) (H2 : Hp) (E : XK) (f c' : Addr), Room j (A.deeper (LamX.lamEnv X scope s2.heap.objs.size f c')) → A.guards = some [] → PE (LamX.lamCx X A out2 s2 H2 E scope f c') body (lE X.K cl E m))
    (I : Inv X pins σ H s) (rs : RelS X.K ρ S H) (re : RelE X.K ρ H env σ) (rp : RDs X.K ρ H pre vpre) (rv : Vals vpre us0) (lp : vpre.length = np) (h : OKo X.K cl E ρ H (RD X.K) Q (mLam kd pre m env S)) (pos : Pos) :
    wpAny (model X.prog X.w) X.A (spliced ((false, eval (.Lambda params body scope lpos) X.env) :: backTo pos (starEach [] X.env))) (fun us s2 => X.K.In s2.heap ∧ wpAny (model X.prog X.w) X.A (call (.ref a) (us0 ++ us)) (EP X pins σ Q) X.xe s2) X.xe s := by
  obtain ⟨c, P, hc, TB, hm, hu⟩ := T.ex
  have tb := rs.tab
  rw [← rs.told] at hm hu
  refine Calls.spliced_cons (LamX.lam_make2 I TB hc hm hu tb hdef (L.has I.ok) fun f c' pm' ctv H1 s' I1 eN T1 hf hfn hfr hco => ?_)
  refine Calls.spliced_nil ⟨I1.kIn, ?_⟩
  have rs1 := extN_rel rs eN T1
  have g1 : Grow ρ H ρ H1 := extN_grow eN
  have vals : Vals (vpre ++ [.ref f]) (us0 ++ [.ref f]) := rv.append (.cons rfl .nil)
  have lu : (us0 ++ [Value.ref f]).length = ps.length := by rw [← vals.length, List.length_append, lp, hl]; rfl
  have bd := hb s' (us0 ++ [.ref f]) I1.kIn (by simpa using lu)
  simp only [List.append_nil] at bd
  refine wpAny_call (codeAny_mono (F X.A X.stack s' H1 ⟨us0 ++ [.ref f], []⟩ vpre (us0 ++ [.ref f]) f _ _ _ hr hgd I1.env0 bd vals lp (clos_ok (c' := c') (tb := fun E' => lE X.K cl E' m) I1 L hf hfn hfr hbind fun A out2 s2 H2 E' => hbody A out2 s2 H2 E' f c') hco
    (lam_TT rs1 (re.grow g1) (rp.grow g1) (OKo.grow g1 h))) fun r s2 hq => ?_)
  cases r with
  | error e => exact (show False from hq).elim
  | ok fl =>
    cases fl with
    | ret u =>
      obtain ⟨v, H2, I2, r2, q2⟩ := I1.after hq
      exact ⟨v, H2, I2, r2, q2 (siz_of I2.hok)⟩
    | next => exact (show False from hq).elim
    | brk => exact (show False from hq).elim
    | cont => exact (show False from hq).elim
theorem lam_none {params : Arguments} {env : PySem.Env} (h : lamBare params = true) : defaultsOf params env = ([], []) := by
  rw [lam_bare h]
  rfl
theorem lam_bind {params : Arguments} {body : Expr} {scope : Scope} (h : lamBare params = true) (q : Str) (cl : List (Str × Addr)) (pm cv ctv : Value) : bindArgs (PySem.W.kla_fn "<lambda>" q params body scope cl pm cv ctv) ⟨[], []⟩ = pure [] := by
  rw [lam_bare h]
  rfl
/-- x(lambda: e) -/
theorem c_lam0 {kd : LK} {m : SE} {x : Str} {j k : Nat} {params : Arguments} {body : Expr} {scope : Scope} {p lpos pos : Pos} (T : LamAt X) (C : LamCal X.prog X.w X.K X.mg X.base cl j k x 0 kd) (hr : Room k X.A) (hgd : X.A.guards = some []) (hg : Gl X x) (hdb : (x == ("__debug__" : Str)) = false)
    (L : LamX.LamS X.env.scope scope) (hp : lamBare params = true)
    (hbody : ∀ (A : Around) (out2 : List PySem.Env) (s2 : Shared) (H2 : Hp) (E : XK) (f c' : Addr), Room j (A.deeper (LamX.lamEnv X scope s2.heap.objs.size f c')) → A.guards = some [] → PE (LamX.lamCx X A out2 s2 H2 E scope f c') body (lE X.K cl E m)) :
    PE X (.Call (.Name x p) [.Lambda params body scope lpos] [] pos) (lE X.K cl E (mLam kd [] m)) := by
  obtain ⟨a, fd, ps, hm, hk, hb, hl, F⟩ := C.ex
  refine ⟨fun pins s σ H Q I h => ?_⟩
  obtain ⟨ρ, env, S, rs, re, h⟩ := h
  refine wpAny_Call_Name_kw (ld_glob I hg hm ?_ hdb)
  exact PySem.W.callWith_K (h₀ := X.base) I.ok.mod.kin hk (lam_core (us0 := []) T hb hl hr hgd F L (lam_none hp) (lam_bind hp) hbody I rs re RDs.nil .nil rfl h pos) (by rfl) (by rfl)
/-- x(i, lambda: e) -/
theorem c_lam1 {kd : LK} {m : SE} {x : Str} {i : Int} {j k jj : Nat} {params : Arguments} {body : Expr} {scope : Scope} {p lpos pos ip : Pos} (T : LamAt X) (C : LamCal X.prog X.w X.K X.mg X.base cl j k x 1 kd) (hr : Room k X.A) (hgd : X.A.guards = some []) (hg : Gl X x) (hdb : (x == ("__debug__" : Str)) = false)
    (L : LamX.LamS X.env.scope scope) (hp : lamBare params = true)
    (hbody : ∀ (A : Around) (out2 : List PySem.Env) (s2 : Shared) (H2 : Hp) (E : XK) (f c' : Addr), Room j (A.deeper (LamX.lamEnv X scope s2.heap.objs.size f c')) → A.guards = some [] → PE (LamX.lamCx X A out2 s2 H2 E scope f c') body (lE X.K cl E m)) :
    PE X (.Call (.Name x p) [.Constant (.int i) jj ip, .Lambda params body scope lpos] [] pos) (lE X.K cl E (mLam kd [.int i] m)) := by
  obtain ⟨a, fd, ps, hm, hk, hb, hl, F⟩ := C.ex
  refine ⟨fun pins s σ H Q I h => ?_⟩
  obtain ⟨ρ, env, S, rs, re, h⟩ := h
  refine wpAny_Call_Name_kw (ld_glob I hg hm ?_ hdb)
  refine PySem.W.callWith_K (h₀ := X.base) I.ok.mod.kin hk ?_ (by rfl) (by rfl)
  refine Calls.spliced_cons (thn ((pe_int (X := X) (i := i) (j := jj) (pos := ip)).run pins s σ H (fun v H1 => v = .int i ∧ H1 = H) I ⟨rfl, rfl⟩) fun u s1 ⟨v, H1, I1, r1, e1, e2⟩ => ?_)
  subst e1 e2
  exact lam_core (us0 := [u]) T hb hl hr hgd F L (lam_none hp) (lam_bind hp) hbody I1 rs re (RDs.cons RD.int RDs.nil) (.cons r1 .nil) rfl h pos
end
end Mir
end

section
set_option Elab.async false
set_option linter.all false
set_option maxRecDepth 100000
set_option maxHeartbeats 4000000
/-! Mir6j: sorted(set(list of numbers)). -/
namespace Mir
open PySem PySem.Spec L2 PyProof.Rows
section
variable {P : Program} {w : World} {A : Around} {E : Value → Shared → Prop} {s : Shared}
/-- a set with nothing in it, as it is laid -/
def nSet (w : World) : Obj := { cls := .type "set", dict := none, data := .set #[] 0 (.fresh 0 0 (!w.params.followText "set-order")) }
theorem set_of_list {l : Addr} {its : Array Value} (ns : List Int) {Q : Value → Shared → Prop} (free : A.handled = none) (at_ : s.heap.IsList l its) (are : IntsAre its.toList ns) (few : ns.length + 1 < scanBound)
    (q : ∀ (g : Heap) (tk c : Nat), SetR w g s.heap.objs.size (fun j => decide (j ∈ ns)) c → c ≤ ns.length → (∀ b o, s.heap.get? b = some o → g.get? b = some o) → Q (.ref s.heap.objs.size) { s with heap := g, toks := tk }) :
    wpAny (model P w) A (call (.type "set") [.ref l]) Q E s := by
  have sz : its.size = ns.length := by rw [← IntsAre.length are, Array.length_toList]
  obtain ⟨c0, tl0, mro0⟩ := F.called_set.mro
  have made0 := F.called_set.made
  have sub0 := F.called_set.sub
  refine wpAny_call (codeAny_of_tree ?_)
  show wpAny _ _ (callAny (.type "set") _) _ _ _
  refine wpAny_pure ⟨Code.quiet_builtin _ (by decide +kernel), codeAny_builtin F.entry_type_call ?_⟩
  rw [Around.under_plain (weight_type_call_type "set" [.ref l] []) rfl]
  have no0 := F.called_set.notType
  have can0 := F.called_set.canCreate
  have tc0 := F.typeCall_set_1 (.ref l)
  repeat (any_goals (first | assumption | wp_step))
  refine codeAny_mono (code_set_led1 (.ref l) (E := E) (Q₁ := fun v t => v = .ref s.heap.objs.size ∧ t = { s with heap := s.heap.push (nSet w) }) ⟨rfl, rfl⟩) fun r t hr => ?_
  cases r with
  | error e => exact hr
  | ok fl => cases fl with
    | ret v =>
      obtain ⟨rfl, rfl⟩ := hr
      have laid : (s.heap.push (nSet w)).get? s.heap.objs.size = some (nSet w) := Heap.get?_push_size _ rfl
      have ty : Shared.TypeIs { s with heap := s.heap.push (nSet w) } (.ref s.heap.objs.size) "set" := ⟨_, laid, rfl⟩
      have il := F.called_set.init.lookup
      have ib := F.called_set.init.bind (.ref s.heap.objs.size)
      repeat (any_goals (first | assumption | wp_step))
      refine codeAny_mono (codeAny_call_builtin (R := wants (fun y t => y = .none ∧ ∃ g tk c, t = { s with heap := g, toks := tk } ∧ SetR w g s.heap.objs.size (fun j => decide (j ∈ ns)) c ∧ c ≤ ns.length ∧ ∀ b o, s.heap.get? b = some o → g.get? b = some o) E)
        F.called_set.init.plain F.entry_set_init (check_set_init_1 ty ?_)) fun r2 t2 hr2 => ?_
      · have lo : l < s.heap.objs.size := by
          obtain ⟨o, ho, _⟩ := at_
          exact Heap.lt_size ho
        have at1 : (s.heap.push (nSet w)).IsList l its := at_.push _
        obtain ⟨ol, hol, hcl, nl, hdl⟩ := at_
        obtain ⟨ocls, odict, odata, oslots⟩ := ol
        simp only at hcl hdl
        subst hcl; subst hdl
        have hol' := Heap.get?_push_of_some (nSet w) hol
        have no1 := F.sub_list_set
        have no2 := F.sub_list_frozenset
        have ne1 : (Value.type "list" == Value.type "dict") = false := by decide
        unfold Builtin.«set.__init__» noKeywords Builtin.Frozenset.updateFrom
        generalize hPI : pyIter = PI
        wp_walk
        subst hPI
        refine wpAny_pyIter_list at1 (wpAny_bind (wpAny_runValue ?_))
        have free3 : A.in1.in1.in1.handled = none := by simp [free]
        have sz1 : (s.heap.push (nSet w)).objs.size = s.heap.objs.size + 1 := Heap.size_push ..
        have apart1 : l ≠ (s.heap.push (nSet w)).objs.size := by rw [sz1]; exact Nat.ne_of_lt (Nat.lt_succ_of_lt lo)
        have apart2 : s.heap.objs.size ∉ [(s.heap.push (nSet w)).objs.size, l] := by
          simp only [List.mem_cons, List.not_mem_nil, or_false, not_or]
          rw [sz1]
          exact ⟨Nat.ne_of_lt (Nat.lt_succ_self _), Nat.ne_of_gt lo⟩
        have each : ∀ (i : Nat) (v : Value), its[i]? = some v → ∃ k t, ns[i]? = some k ∧ v = .int k t := fun i v hv => by
          have hi : i < ns.length := sz ▸ (Array.getElem?_eq_some_iff.mp hv).1
          obtain ⟨t, e⟩ := PyProof.Rows.IntsAre.int_at are i v (by rw [Array.getElem?_toList]; exact hv)
          refine ⟨ns[i], t, List.getElem?_eq_getElem hi, ?_⟩
          rw [e, List.getD_eq_getElem?_getD, List.getElem?_eq_getElem hi]; rfl
        have get1 : ((s.heap.push (nSet w)).push { cls := .type "list_iterator", data := .fields #[.ref l, .int 0 0] }).get? s.heap.objs.size = some (nSet w) := Heap.get?_push_of_some _ laid
        refine set_update_ints ((Walks.list free3 _ l apart1 its).toS) s.heap.objs.size apart2 ns sz few each (its.size - 0) 0 _ (by omega) (Nat.zero_le _) ⟨⟨_, Heap.get?_push_size _ rfl, rfl, rfl⟩, at1.push _⟩ ⟨0, Nat.le_refl 0, setR_new_at get1⟩ ?_
        intro t c moved hc hS
        obtain ⟨g, g2, d2, tk, o2⟩ := t
        have e1 : g2 = s.gens := moved.gens
        have e2 : d2 = s.drawn := moved.drawn
        have e3 : o2 = s.os := moved.os
        subst e1 e2 e3
        refine wpAny_pure ?_
        rw [sz] at hc
        show wpAny _ _ (ret Value.none) _ _ _
        refine wpAny_pure ⟨rfl, g, tk, c, rfl, hS, hc, fun b o e => ?_⟩
        have b0 : b < s.heap.objs.size := Heap.lt_size e
        exact moved.heap b o (by
            simp only [List.mem_cons, List.not_mem_nil, or_false, not_or]
            rw [sz1]
            exact ⟨Nat.ne_of_lt b0, Nat.ne_of_lt (Nat.lt_succ_of_lt b0)⟩) (Heap.get?_push_of_some _ (Heap.get?_push_of_some _ e))
      · cases r2 with
        | error e => exact hr2
        | ok fl => cases fl with
          | ret y =>
            obtain ⟨rfl, g, tk, c, rfl, u1, u2, u3⟩ := hr2
            repeat (any_goals (first | assumption | wp_step))
            exact q _ _ _ u1 u2 u3
          | _ => exact hr2.elim
    | _ => exact hr.elim
end
/-- sorted(set(xs)), xs a list of fewer than 64 numbers -/
def tSortSet (K : PySem.W.Frag) (ta : TE) : TE := fun σ H Q => ta σ H fun x H1 => ∃ (l : Addr) (ns : List Int), x = .ref l ∧ SqL K H1 l (ns.map V.int) ∧ ns.length < 64 ∧
  ∀ (us : List Int) (p : Addr), us.Pairwise (· < ·) → (∀ k, k ∈ us ↔ k ∈ ns) → us.length ≤ ns.length → H1 p = none → Q (.ref p) (upd H1 p (.lst (us.map V.int)))
theorem pe_sortSet {X : Cx} {a : Expr} {ta : TE} {p p2 q pos : Pos} (hc : X.calm = true) (hg : Gl X "sorted") (hm : X.mg "sorted" = none) (hg2 : Gl X "set") (hm2 : X.mg "set" = none) (ha : PE X a ta)
    (na : starEach [a] X.env = (false, eval a X.env) :: starEach [] X.env) : PE X (.Call (.Name "sorted" p) [.Call (.Name "set" p2) [a] [] q] [] pos) (tSortSet X.K ta) := by
  refine ⟨fun pins s σ H Q I h => ?_⟩
  refine Call_ (ld_blt I hg hm PyProof.Rows.boot_sorted (PyProof.Rows.callWith_builtin1 (PyProof.Rows.args_cons ?_ rfl) rfl rfl))
  refine Call_ (ld_blt I hg2 hm2 PyProof.Rows.boot_set (PyProof.Rows.callWith_type1 (PyProof.Rows.args_cons (thn (ha.run pins s σ H _ I h) fun v s1 ⟨x, H1, I1, r1, q1⟩ => PyProof.Rows.args_nil ?_) na) na rfl))
  obtain ⟨l, ns, rfl, hq, few, q1⟩ := q1
  cases r1
  obtain ⟨its, rv, pl, _⟩ := I1.list hq
  have hd := I1.ok.hd hc
  refine set_of_list ns hd pl.isList (ints_of_vals rv) (by unfold scanBound; omega) fun g tk c R hcn keep => ?_
  refine PyProof.Rows.args_nil ?_
  have I2 : Inv X pins σ H1 { s1 with heap := g, toks := tk } := I1.kept fun b o e => keep b o e
  refine sorted_set R (I2.ok.hd hc) (by omega) fun s' p out c2 us k2 g2 o2 hp hgp hi hs hmem hl => ?_
  have np : H1 p = none := I2.hok.fresh hp
  have few2 : (us.map V.int).length ≤ sizeLine := by rw [List.length_map, hl, sizeLine_eq]; omega
  have J : Inv X pins σ (upd H1 p (.lst (us.map V.int))) s' := I2.call' (ch := []) o2 (Un.laid k2 hp np) (I2.hok.laid k2 hp ⟨few2, out.toList, c2, vals_of_ints hi, hgp⟩) (by rw [g2]; exact I2.bare) (fun _ z => nomatch z)
  exact ⟨.ref p, _, J, rfl, q1 us p hs (fun k => by rw [hmem, decide_eq_true_eq]) (by rw [hl]; exact hcn) np⟩
/-- each once -/
def once : List Int → List Int
  | [] => []
  | x :: xs => if x ∈ xs then once xs else x :: once xs
theorem mem_once {k : Int} : ∀ {xs : List Int}, k ∈ once xs ↔ k ∈ xs
  | [] => Iff.rfl
  | x :: xs => by
    unfold once
    by_cases h : x ∈ xs
    · rw [if_pos h, mem_once, List.mem_cons]
      exact ⟨.inr, fun z => z.elim (fun e => e ▸ h) id⟩
    · rw [if_neg h, List.mem_cons, List.mem_cons, mem_once]
theorem once_nodup : ∀ xs : List Int, (once xs).Nodup
  | [] => List.nodup_nil
  | x :: xs => by
    unfold once
    by_cases h : x ∈ xs
    · rw [if_pos h]; exact once_nodup xs
    · rw [if_neg h]; exact List.nodup_cons.mpr ⟨fun z => h (mem_once.mp z), once_nodup xs⟩
theorem once_sort {us ns : List Int} (h : us.Pairwise (· < ·)) (hm : ∀ k, k ∈ us ↔ k ∈ ns) : us = sortI (once ns) := by
  have nu : us.Nodup := h.imp fun h => by omega
  have pe : us.Perm (once ns) := (List.perm_ext_iff_of_nodup nu (once_nodup ns)).mpr fun k => by rw [hm, mem_once]
  exact (pe.trans (sortI_perm _).symm).eq_of_pairwise (fun x y _ _ h1 h2 => Int.le_antisymm h1 h2) (h.imp fun h => by omega) (sortI_sorted _)
def mSortSet (mt : Bool) (a : SE) : SE := fun env S => (a env S).bind fun x S1 => match listInts S1 x with
  | some ns => if ns.length < 64 then mkL mt ((sortI (once ns)).map D.int) S1 else .bad
  | none => .bad
theorem c_sortSet {X : Cx} {cl : Nat → Addr} {E : XK} {a : Expr} {ma : SE} {mt : Bool} {p p2 q pos : Pos} (hc : X.calm = true) (hg : Gl X "sorted") (hm : X.mg "sorted" = none) (hg2 : Gl X "set") (hm2 : X.mg "set" = none) (ha : PE X a (lE X.K cl E ma))
    (na : starEach [a] X.env = (false, eval a X.env) :: starEach [] X.env) : PE X (.Call (.Name "sorted" p) [.Call (.Name "set" p2) [a] [] q] [] pos) (lE X.K cl E (mSortSet mt ma)) := by
  refine PE.via (pe_sortSet hc hg hm hg2 hm2 ha na) fun σ H Q z h => ?_
  obtain ⟨ρ, env, S, rs, re, h⟩ := h
  refine lE_step rs re h fun x H1 ρ1 S1 d z1 g1 rs1 re1 rd h1 => ?_
  split at h1
  · rename_i ns hi
    split at h1
    · rename_i few
      obtain ⟨b, rfl, hs⟩ := listInts_at rs1 hi rd
      refine ⟨b, ns, rfl, SqL.of hs, few, fun us p hu hm _ np => ?_⟩
      rw [once_sort hu hm]
      exact mkL_ok rs1 (ints_rds _) h1 p np
    · exact h1.elim
  · exact h1.elim
end Mir
end

section
set_option Elab.async false
set_option linter.all false
set_option maxRecDepth 100000
set_option maxHeartbeats 4000000
/-! Mir6k: sorted(rows, key=lambda row: ..), rows of whole numbers. -/
namespace Mir
open PySem PySem.Spec PyProof.Rows L2
/-! ### keys -/
abbrev KS := Env → List Int → Option Int
def kNo : KS := fun _ _ => none
def kC (i : Int) : KS := fun _ _ => some i
def kVr (i : Nat) : KS := fun env _ => match env[i]? with
  | some (some (.int k)) => some k
  | _ => none
theorem kVr_at {j : Nat} {me : Env} {xs : List Int} {i : Int} (h : kVr j me xs = some i) : me[j]? = some (some (.int i)) := by
  unfold kVr at h
  cases hm : me[j]? with
  | none => rw [hm] at h; cases h
  | some o =>
    rw [hm] at h
    cases o with
    | none => cases h
    | some d => cases d <;> first | (cases h; rfl) | cases h
def kIxK (i : Nat) : KS := fun _ xs => xs[i]?
def k2K (f : Int → Int → Option Int) (a b : KS) : KS := fun env xs => match a env xs with
  | some i => (match b env xs with
    | some j => f i j
    | none => none)
  | none => none
def oSub (i j : Int) : Option Int := some (i - j)
def oAdd (i j : Int) : Option Int := some (i + j)
def oMul (i j : Int) : Option Int := if Nat.blt i.natAbs 18446744073709551616 then some (i * j) else none
def oDiv (i j : Int) : Option Int := if decide (0 < j) && decide (j < 1073741824) then some (i / j) else none
def kOp : Operator → Option (Int → Int → Option Int)
  | .Add => some oAdd
  | .Sub => some oSub
  | .Mult => some oMul
  | .FloorDiv => some oDiv
  | _ => none
def nmB (x : Str) : Bool := !(x == ("__debug__" : Str)) && !(x == ("__classdict__" : Str))
def dK (N : List Str) (scope : Scope) (p : Str) : Nat → Expr → KS
  | 0, _ => kNo
  | n + 1, e => match e with
    | .Constant (.int i) _ _ => kC i
    | .Name x _ => if decide (scope.names.lookup x = some .free) && nmB x then (match N.findIdx? fun y => decide (y = x) with
      | some j => kVr j
      | none => kNo) else kNo
    | .Subscript (.Name x _) (.Constant (.int i) _ _) _ => if decide (x = p) && (decide (0 ≤ i) && decide (i < 1000)) then kIxK i.toNat else kNo
    | .BinOp l op r _ => match kOp op with
      | some f => k2K f (dK N scope p n l) (dK N scope p n r)
      | none => kNo
    | _ => kNo
/-- what the key's body sees -/
structure KSee (env : PySem.Env) (h : Heap) (p : Str) (a : Addr) (xs : List Int) (N : List Str) (me : Env) : Prop where
  kind : env.scope.kind = .function
  loc : env.kindOf p = some .local
  at_ : ∃ m, h.Ns env.locals m ∧ m p = some (.ref a)
  pn : (p == ("__debug__" : Str)) = false
  tup : ∃ its, IsTup h a its ∧ IntsAre its.toList xs
  few : xs.length ≤ sizeLine
  free : ∀ (x : Str) (j : Nat) (i : Int), (N.findIdx? fun y => decide (y = x)) = some j → me[j]? = some (some (.int i)) → env.kindOf x = some .free → ∃ c t, env.cells.lookup x = some c ∧ h.IsCell c (some (.int i t))
theorem KSee.toks {env : PySem.Env} {h : Heap} {p : Str} {a : Addr} {xs : List Int} {N : List Str} {me : Env} (K : KSee env h p a xs N me) : KSee env h p a xs N me := K
theorem key_run {prog : Program} {w : World} {env : PySem.Env} {A : Around} {E : Value → Shared → Prop} {p : Str} {a : Addr} {xs : List Int} {N : List Str} {me : Env} : ∀ (n : Nat) (e : Expr) (i : Int) (s : Shared) (Q : Value → Shared → Prop),
    dK N env.scope p n e me xs = some i → KSee env s.heap p a xs N me → (∀ t tk, Q (.int i t) { s with toks := tk }) → wpAny (model prog w) A (eval e env) Q E s
  | 0, _, _, _, _, h, _, _ => by cases h
  | n + 1, e, i, s, Q, h, K, q => by
    unfold dK at h
    split at h
    · rename_i k _ _
      cases (show some k = some i from h)
      exact wpAny_Constant_int (q _ _)
    · rename_i x pos
      by_cases hc : (decide (env.scope.names.lookup x = some .free) && nmB x) = true
      · rw [if_pos hc] at h
        rw [Bool.and_eq_true, decide_eq_true_eq] at hc
        obtain ⟨h1, h2⟩ := hc
        unfold nmB at h2
        rw [Bool.and_eq_true] at h2
        cases hj : N.findIdx? fun y => decide (y = x) with
        | none => rw [hj] at h; cases (show (none : Option Int) = some i from h)
        | some j =>
          rw [hj] at h
          have h : kVr j me xs = some i := h
          obtain ⟨c, t, e1, e2⟩ := K.free x j i hj (kVr_at h) h1
          have := q t s.toks
          exact wpAny_Name (wpAny_loadName_free K.kind h1 e1 e2 this (by simpa using h2.2)) (by simpa using h2.1)
      · rw [if_neg hc] at h
        cases (show (none : Option Int) = some i from h)
    · rename_i x p1 k j p2 p3
      by_cases hc : (decide (x = p) && (decide (0 ≤ k) && decide (k < 1000))) = true
      · rw [if_pos hc] at h
        simp only [Bool.and_eq_true, decide_eq_true_eq] at hc
        obtain ⟨rfl, h0, h1⟩ := hc
        have h : xs[k.toNat]? = some i := h
        obtain ⟨m, hn, hm⟩ := K.at_
        obtain ⟨its, ht, hi⟩ := K.tup
        refine Subscript_ (wpAny_Name (wpAny_loadName_local K.kind K.loc hn hm ?_) K.pn)
        refine wpAny_Constant_int ?_
        obtain ⟨t, hx⟩ := hi.get _ _ h
        have hl := hi.length
        have hk := (List.getElem?_eq_some_iff.mp h).1
        rw [Array.length_toList] at hl
        refine subscriptTail_builtinR (x := .int i t) ht.typeIs slot_tuple_getitem.lookup
          (getItem_tuple (j := k.toNat) (Q := fun r s' => r = .int i t ∧ Q r s') ht (by omega) (by omega) ?_ (by simpa using hx) ⟨rfl, q t _⟩) rfl
        rw [seqIndex_of h0 (by omega)]
      · rw [if_neg hc] at h
        cases (show (none : Option Int) = some i from h)
    · rename_i l op r pos
      cases hf : kOp op with
      | none => rw [hf] at h; cases (show (none : Option Int) = some i from h)
      | some f =>
        rw [hf] at h
        have h : k2K f (dK N env.scope p n l) (dK N env.scope p n r) me xs = some i := h
        unfold k2K at h
        split at h
        · rename_i i1 h1
          split at h
          · rename_i i2 h2
            refine wpAny_BinOp (key_run n l i1 s _ h1 K fun t tk => key_run n r i2 _ _ h2 K fun t2 tk2 => ?_)
            have q2 : ∀ t3 tk3, Q (.int i t3) { s with toks := tk3 } := fun t3 tk3 => q _ _
            cases op <;> first | cases hf | skip
            · cases (show some (i1 + i2) = some i from h)
              exact add_int (q2 _ _)
            · cases (show some (i1 - i2) = some i from h)
              exact sub_int (q2 _ _)
            · unfold oMul at h
              split at h
              · rename_i hb
                cases h
                have hb : i1.natAbs < 18446744073709551616 := by simpa using hb
                exact mul_int (q2 _ _) (CMul.ok (.inl ⟨by omega, by omega⟩))
              · cases h
            · unfold oDiv at h
              split at h
              · rename_i hb
                cases h
                rw [Bool.and_eq_true, decide_eq_true_eq, decide_eq_true_eq] at hb
                exact floordiv_int (by omega) (by rw [Int.fdiv_eq_ediv_of_nonneg i1 (by omega)]; exact q2 _ _) (.inl (PyProof.noPylong_small (by omega)))
              · cases h
          · cases h
        · cases h
    · cases (show (none : Option Int) = some i from h)
/-- the key's lambda: one parameter, a local name; all others free or global -/
structure KeyS (sc scope : Scope) (p : Str) : Prop where
  kind : scope.kind = .function
  co : scope.isCoroutine = false
  gen : scope.isGenerator = false
  par : scope.names.lookup p = some .local
  cell : ∀ y ∈ scope.names, y.2 ≠ .cell
  free : ∀ y ∈ scope.names, y.2 = .free → sc.names.lookup y.1 = some .cell ∨ sc.names.lookup y.1 = some .free
def keySB (sc scope : Scope) (p : Str) : Bool :=
  decide (scope.kind = .function) && (!scope.isCoroutine && (!scope.isGenerator && (decide (scope.names.lookup p = some .local) && scope.names.all fun y => !decide (y.2 = .cell) && (!decide (y.2 = .free) || (decide (sc.names.lookup y.1 = some .cell) || decide (sc.names.lookup y.1 = some .free))))))
theorem keyS_by {sc scope : Scope} {p : Str} (h : keySB sc scope p = true) : KeyS sc scope p := by
  unfold keySB at h
  simp only [Bool.and_eq_true, Bool.or_eq_true, Bool.not_eq_true', decide_eq_true_eq, decide_eq_false_iff_not, List.all_eq_true] at h
  obtain ⟨h1, h2, h3, h4, h5⟩ := h
  refine ⟨h1, h2, h3, h4, fun y hy => (h5 y hy).1, fun y hy e => ?_⟩
  rcases (h5 y hy).2 with z | z | z
  · exact absurd e z
  · exact .inl z
  · exact .inr z
theorem KeyS.has {X : Cx} {scope : Scope} {p : Str} (L : KeyS X.env.scope scope p) (ok : X.Ok) : ∀ y ∈ scope.names, y.2 = .free → ∃ c, X.env.cells.lookup y.1 = some c := fun y hy e => by
  rcases L.free y hy e with k | k
  · exact ok.has _ (.inl k)
  · exact ok.has _ (.inr k)
def keyPar : Arguments → Option Str
  | { posonlyargs := [], args := [a], vararg := none, kwonlyargs := [], kw_defaults := [], kwarg := none, defaults := [] } => some a.arg
  | _ => none
theorem key_none {ps : Arguments} {p : Str} {env : PySem.Env} (h : keyPar ps = some p) : defaultsOf ps env = ([], []) := by
  unfold keyPar at h
  split at h
  · rfl
  · cases h
theorem key_bind {ps : Arguments} {p : Str} {body : Expr} {scope : Scope} (h : keyPar ps = some p) (q : Str) (cl : List (Str × Addr)) (pm cv ctv v : Value) : bindArgs (PySem.W.kla_fn "<lambda>" q ps body scope cl pm cv ctv) ⟨[v], []⟩ = pure [(p, v)] := by
  unfold keyPar at h
  split at h
  · cases h
    rename_i a
    have e : ([(a.arg, v)] : List (Str × Value)).lookup a.arg = some v := by simp
    have e2 : seqItems? Value.none = pure none := rfl
    unfold bindArgs
    simp [e, e2]
  · cases h
section
variable {X : Cx} {cl : Nat → Addr} {E : XK} {pins : List (Addr × Obj)} {σ : L2.St} {H : Hp} {s : Shared} {ρ : Rho}
theorem key_turn {A : Around} {n : Nat} {body : Expr} {params : Arguments} {scope : Scope} {p : Str} {f c' a : Addr} {pm ctv : Value} {xs : List Int} {me : Env} {i : Int} {h : Heap} {tk : Nat}
    (I : Inv X pins σ H s) (re : RelE X.K ρ H me σ) (L : KeyS X.env.scope scope p) (hp : keyPar params = some p) (hpd : (p == ("__debug__" : Str)) = false)
    (hf : s.heap.get? f = some (PySem.W.kla_obj "<lambda>" (X.env.qual ++ "<lambda>") params body scope (cloFrom X.env.cells scope.names []) pm c' ctv)) (hco : H c' = some (LamX.CodeO c' (X.env.qual ++ "<lambda>")))
    (hr : A.depth < recursionLimit) (up : ∀ b o, s.heap.get? b = some o → h.get? b = some o) (ht : ∃ its, IsTup s.heap a its ∧ IntsAre its.toList xs) (few : xs.length ≤ sizeLine) (hk : dK X.N scope p n body me xs = some i) :
    wpAny (model X.prog X.w) A (call (.ref f) [.ref a]) (PySem.W.KeyPure (.int i) { s with heap := h, toks := tk }) (fun _ _ => False) { s with heap := h, toks := tk } := by
  refine wpAny_call ?_
  obtain ⟨⟨oc, vs, t, oc1, oc2, oc3⟩, _, _⟩ := I.hok c' _ hco
  refine PySem.W.kla_callFunE hr (up _ _ hf) rfl L.co L.gen rfl ⟨c', oc, vs, t, rfl, up _ _ oc1, oc2, oc3⟩ ?_
  rw [key_bind hp]
  have cm : ∀ {y c}, (cloFrom X.env.cells scope.names []).lookup y = some c → X.env.cells.lookup y = some c := fun {y c} e => by
    rcases cloFrom_mem (PySem.mem_of_lookup e) with hm | ⟨h1, h2⟩
    · cases hm
    · obtain ⟨c1, hc⟩ := L.has I.ok _ h1 rfl
      have hc : X.env.cells.lookup y = some c1 := hc
      have e2 : c = c1 := by
        rw [h2, hc] <;> rfl
      rw [e2]
      exact hc
  have look : ∀ {y}, scope.names.lookup y = some .free → ∃ c, (cloFrom X.env.cells scope.names []).lookup y = some c := fun {y} hl => by
    have hy : (y, NameKind.free) ∈ scope.names := PySem.mem_of_lookup hl
    exact mem_lookup (cloFrom_has (cells := X.env.cells) (acc := []) hy)
  refine wpAny_pure (wpAny_newFunctionEnv L.cell (fun y hy => by rw [List.mem_singleton.mp hy]; exact L.par) (fun h₁ hns hsb => ?_) L.kind)
  have up1 : ∀ b o, h.get? b = some o → h₁.get? b = some o := fun b o e => hsb.extBut b o (Nat.ne_of_lt (Heap.lt_size e)) (Heap.get?_push_of_some _ e)
  refine ⟨(I.nolimit.keeps up).keeps up1, ?_⟩
  show codeAny _ _ (.expr body (LamX.lamEnv X scope h.objs.size f c')) _ _
  refine PySem.W.kla_codeExpr (key_run (N := X.N) (me := me) (xs := xs) (a := a) (p := p) n body i _ _ hk ?_ fun t' tk' => ?_)
  · refine ⟨L.kind, L.par, ⟨_, hns, by simp⟩, hpd, ?_, few, fun x j k e1 e2 e3 => ?_⟩
    · obtain ⟨its, h1, h2⟩ := ht
      exact ⟨its, h1.keeps fun b o e => up1 b o (up b o e), h2⟩
    · obtain ⟨v, hv, rv⟩ := re.2 j _ e2
      cases rv.ofInt
      obtain ⟨m, hn, hl⟩ := I.loc
      have e3 : scope.names.lookup x = some .free := e3
      have hN : X.N[j]? = some x := by
        obtain ⟨h1, h2, _⟩ := List.findIdx?_eq_some_iff_getElem.mp e1
        rw [List.getElem?_eq_getElem h1]
        exact congrArg some (of_decide_eq_true h2)
      have hvis : Vis X.env.scope x := (L.free _ (PySem.mem_of_lookup e3) rfl).elim (fun k => .inr (.inl k)) (fun k => .inr (.inr k))
      obtain ⟨w', r, q⟩ := hl j x _ hN hv hvis
      obtain ⟨t, rfl⟩ := r
      obtain ⟨c2, h2⟩ := look e3
      refine ⟨c2, t, h2, ?_⟩
      have c1 := cm h2
      rcases q with ⟨k', _⟩ | ⟨_, c3, e', z⟩
      · have k' : X.env.scope.names.lookup x = some .local := k'
        rcases L.free _ (PySem.mem_of_lookup e3) rfl with k2 | k2 <;> rw [show X.env.scope.names.lookup x = _ from k2] at k' <;> cases k'
      · rw [c1] at e'
        cases e'
        exact z.keeps fun b o e => up1 b o (up b o e)
  · exact ⟨h₁, tk', rfl, up1, .int _ _⟩
/-- sorted(rows, key=lambda row: ..) -/
def tSortKey (K : PySem.W.Frag) (T : List (Addr × Str)) (N : List Str) (scope : Scope) (p : Str) (n : Nat) (body : Expr) (ta : TE) : TE := fun σ H Q => ta σ H fun x H1 => ∃ (l : Addr) (rows : List (Addr × List Int × Int)) (me : Env) (ρ : Rho),
  x = .ref l ∧ SqL K H1 l (rows.map fun r => V.ref r.1) ∧ (∀ r ∈ rows, H1 r.1 = some (.tup (r.2.1.map V.int)) ∧ dK N scope p n body me r.2.1 = some r.2.2) ∧ RelE K ρ H1 me σ ∧ LamX.Tabs T H1 ∧
  ∀ (out : List (Addr × List Int × Int)) (q : Addr) (H2 : Hp), LamX.ExtN H1 H2 → LamX.Tabs T H2 → out.Perm rows → out.Pairwise (fun x y => x.2.2 ≤ y.2.2) → H2 q = none → Q (.ref q) (upd H2 q (.lst (out.map fun r => .ref r.1)))
theorem each_refs {γ : Type} : ∀ (rows : List (Addr × γ)), PySem.W.EachIs (fun (v : Value) (r : Addr × γ) => v = .ref r.1) (rows.map fun r => Value.ref r.1) rows
  | [] => .nil
  | r :: rows => .cons rfl (each_refs rows)
theorem refs_each {γ : Type} : ∀ {vs : List Value} {rows : List (Addr × γ)}, PySem.W.EachIs (fun (v : Value) (r : Addr × γ) => v = .ref r.1) vs rows → vs = rows.map fun r => Value.ref r.1
  | _, _, .nil => rfl
  | _, _, .cons h t => by rw [h, refs_each t]; rfl
theorem vals_refs {γ : Type} : ∀ {rows : List (Addr × γ)} {its : List Value}, Vals (rows.map fun r => V.ref r.1) its → its = rows.map fun r => Value.ref r.1
  | [], _, .nil => rfl
  | r :: rows, _, .cons h t => by cases h; rw [vals_refs t]; rfl
theorem refs_vals {γ : Type} : ∀ (rows : List (Addr × γ)), Vals (rows.map fun r => V.ref r.1) (rows.map fun r => Value.ref r.1)
  | [] => .nil
  | r :: rows => .cons rfl (refs_vals rows)
theorem pe_sortKey {T : List (Addr × Str)} {c P : Addr} {a body : Expr} {ta : TE} {p : Str} {n k : Nat} {params : Arguments} {scope : Scope} {np lpos kpos pos : Pos} (hg : Gl X "sorted") (hm : X.mg "sorted" = none) (hr : Room k X.A)
    (TB : LamX.TabB X.base X.mg c P) (hcode : X.env.code = .ref c) (hmT : (P, X.env.qual ++ "<lambda>") ∈ T) (hu : ∀ q ∈ T, q.1 = P → q.2 = X.env.qual ++ "<lambda>")
    (L : KeyS X.env.scope scope p) (hp : keyPar params = some p) (hpd : (p == ("__debug__" : Str)) = false) (ha : PE X a ta)
    (na : starEach [a] X.env = (false, eval a X.env) :: starEach [] X.env) :
    PE X (.Call (.Name "sorted" np) [a] [⟨some "key", .Lambda params body scope lpos, kpos⟩] pos) (tSortKey X.K T X.N scope p n body ta) := by
  refine ⟨fun pins s σ H Q I h => ?_⟩
  refine wpAny_Call_Name_kw (ld_blt I hg hm PyProof.Rows.boot_sorted ?_)
  refine PyProof.Rows.callWith_kw ?_ (by rw [na]; rfl) (by rw [na]; rfl) (by rfl) (by rfl)
  refine PyProof.Rows.args_cons (thn (ha.run pins s σ H _ I h) fun v s1 ⟨x, H1, I1, r1, q1⟩ => PyProof.Rows.args_nil ?_) na
  obtain ⟨l, rows, me, ρ, rfl, hq, hrow, re, ht, q1⟩ := q1
  cases r1
  refine PyProof.Rows.kws_cons (LamX.lam_make2 I1 TB hcode hmT hu ht (key_none hp) (L.has I1.ok) fun f c' pm ctv H2 s2 I2 eN T2 hf hfn hfr hco => PyProof.Rows.kws_nil ?_)
  have hq2 : SqL X.K H2 l (rows.map fun r => V.ref r.1) := by
    rcases hq with (hq | ⟨o, hq⟩) | hq
    · exact .inl (.inl (eN _ _ hq (by intro _ z; cases z)))
    · exact .inl (.inr ⟨o, eN _ _ hq (by intro _ z; cases z)⟩)
    · exact .inr hq
  obtain ⟨its, rv, pl, hz⟩ := I2.list hq2
  have e := vals_refs rv
  subst e
  have re2 : RelE X.K ρ H2 me σ := re.grow (extN_grow eN)
  have hle := PySem.W.dataLe_int fun r : Addr × List Int × Int => r.2.2
  rw [List.length_map] at hz
  refine PySem.W.sorted_key_data (β := Addr × List Int × Int) (f := .ref f) (kw := [(Str.ofString "key", .ref f)]) (b := false) (R := fun v r => v = .ref r.1) (fun r => .int r.2.2) pl.isList (each_refs rows) ?_ ?_ hz ?_ (PyProof.Rows.ksk_s1 _ _) (fun _ => PyProof.Rows.ksk_l1 _ _) (fun _ => PyProof.Rows.ksk_t1 _ _)
    (fun v r hv hr2 h tk up => ?_) fun out c2 h' tk keep fr at_ hlen each => ?_
  · intro d hd d' hd'
    obtain ⟨r, _, rfl⟩ := List.mem_map.mp hd
    obtain ⟨r', _, rfl⟩ := List.mem_map.mp hd'
    rfl
  · refine .inr fun d hd => ?_
    obtain ⟨r, _, rfl⟩ := List.mem_map.mp hd
    exact ⟨fun z => (by cases z), fun xs z => (by cases z)⟩
  · intro r _
    have := hr.un
    show X.A.units + 2 + 0 < cLine
    omega
  · subst hv
    obtain ⟨h1, h2⟩ := hrow r hr2
    have h1 : H2 r.1 = some (.tup (r.2.1.map V.int)) := eN _ _ h1 (by intro _ z; cases z)
    obtain ⟨its, rt, tp, lt⟩ := I2.tuple (SqT.of (K := X.K) h1)
    rw [List.length_map] at lt
    refine key_turn I2 re2 L hp hpd hf hco ?_ up ⟨_, tp, by simpa using rt.ints⟩ lt h2
    have := hr.dp
    show X.A.depth < recursionLimit
    omega
  · rw [hle] at each
    have eo := refs_each each
    have pm := List.mergeSort_perm rows (fun a b => decide (a.2.2 ≤ b.2.2))
    have so := List.pairwise_mergeSort (le := fun a b : Addr × List Int × Int => decide (a.2.2 ≤ b.2.2)) (fun a b c h1 h2 => by simp at *; omega) (fun a b => by simp; omega) rows
    generalize rows.mergeSort (fun a b => decide (a.2.2 ≤ b.2.2)) = rs at *
    subst eo
    have np : H2 (s2.heap.objs.size + 1) = none := I2.hok.fresh (Nat.le_succ _)
    refine ⟨.ref _, upd H2 (s2.heap.objs.size + 1) (.lst (rs.map fun r => .ref r.1)), I2.laid (t' := tk) keep (Nat.le_succ _) ⟨?_, _, c2, refs_vals rs, at_⟩, rfl, q1 rs _ H2 eN T2 pm (so.imp fun h => by simpa using h) np⟩
    rw [List.length_map, pm.length_eq]
    exact hz
/-! ### in values -/
def rowOf : D → Option (List Int)
  | .tup xs => intsOf xs
  | _ => none
def rowsOf (ds : List D) : Option (List (List Int)) := ds.mapM rowOf
def insK (r : List Int × Int) : List (List Int × Int) → List (List Int × Int)
  | [] => [r]
  | q :: t => if r.2 ≤ q.2 then r :: q :: t else q :: insK r t
def sortK : List (List Int × Int) → List (List Int × Int)
  | [] => []
  | r :: t => insK r (sortK t)
theorem insK_perm (r : List Int × Int) : ∀ t, (insK r t).Perm (r :: t)
  | [] => .refl _
  | q :: t => by
    unfold insK
    split
    · exact .refl _
    · exact ((insK_perm r t).cons q).trans (.swap ..)
theorem sortK_perm : ∀ t, (sortK t).Perm t
  | [] => .refl _
  | r :: t => (insK_perm r _).trans ((sortK_perm t).cons r)
theorem insK_sorted (r : List Int × Int) : ∀ {t : List (List Int × Int)}, t.Pairwise (fun x y => x.2 ≤ y.2) → (insK r t).Pairwise fun x y => x.2 ≤ y.2
  | [], _ => by unfold insK; simp
  | q :: t, h => by
    rw [List.pairwise_cons] at h
    unfold insK
    split
    · rename_i hl
      refine List.pairwise_cons.mpr ⟨fun x hx => ?_, List.pairwise_cons.mpr h⟩
      rcases List.mem_cons.mp hx with rfl | hx
      · exact hl
      · exact Int.le_trans hl (h.1 x hx)
    · rename_i hl
      refine List.pairwise_cons.mpr ⟨fun x hx => ?_, insK_sorted r h.2⟩
      rcases List.mem_cons.mp ((insK_perm r t).mem_iff.mp hx) with rfl | hx
      · omega
      · exact h.1 x hx
theorem sortK_sorted : ∀ t, (sortK t).Pairwise fun x y => x.2 ≤ y.2
  | [] => .nil
  | r :: t => insK_sorted r (sortK_sorted t)
theorem sortK_one {a b : List (List Int × Int)} (hp : a.Perm b) (hs : a.Pairwise fun x y => x.2 ≤ y.2) (hn : (b.map (·.2)).Nodup) : a = sortK b := by
  refine (hp.trans (sortK_perm b).symm).eq_of_pairwise (fun x y hx hy h1 h2 => ?_) hs (sortK_sorted b)
  have e : x.2 = y.2 := Int.le_antisymm h1 h2
  replace hx := hp.mem_iff.mp hx
  replace hy := (sortK_perm b).mem_iff.mp hy
  clear hp hs h1 h2
  induction b with
  | nil => cases hx
  | cons q t ih =>
    rw [List.map_cons, List.nodup_cons] at hn
    rcases List.mem_cons.mp hx with hx | hx <;> rcases List.mem_cons.mp hy with hy | hy
    · rw [hx, hy]
    · rw [← hx, e] at hn; exact absurd (List.mem_map.mpr ⟨y, hy, rfl⟩) hn.1
    · rw [← hy, ← e] at hn; exact absurd (List.mem_map.mpr ⟨x, hx, rfl⟩) hn.1
    · exact ih hn.2 hx hy
def encRow (r : List Int) : D := .tup (r.map .int)
def mSortKey (mt : Bool) (kf : KS) (a : SE) : SE := fun env S => (a env S).bind fun x S1 => match listOf S1 x with
  | some ds => (match rowsOf ds with
    | some rows => (match rows.mapM (kf env) with
      | some ks => if decide ks.Nodup then mkL mt ((sortK (rows.zip ks)).map fun r => encRow r.1) S1 else .bad
      | none => .bad)
    | none => .bad)
  | none => .bad
theorem rowOf_at {K : PySem.W.Frag} {d : D} {r : List Int} {v : V} (h : rowOf d = some r) (q : RD K ρ H d v) : ∃ a, v = .ref a ∧ H a = some (.tup (r.map V.int)) ∧ a ∉ ρ.all := by
  unfold rowOf at h
  split at h
  · rename_i xs
    unfold RD at q
    obtain ⟨a, vs, e, ⟨h1, h2⟩, h3⟩ := q
    rw [intsOf_at h h3] at h1
    exact ⟨a, e, h1, h2⟩
  · cases h
theorem rowsOf_at {K : PySem.W.Frag} {kf : List Int → Option Int} : ∀ {ds : List D} {rows : List (List Int)} {ks : List Int} {vs : List V}, rowsOf ds = some rows → rows.mapM kf = some ks → RDs K ρ H ds vs →
    ∃ ar : List (Addr × List Int × Int), vs = ar.map (fun r => V.ref r.1) ∧ ar.map (·.2) = rows.zip ks ∧ rows.length = ks.length ∧ ∀ r ∈ ar, (H r.1 = some (.tup (r.2.1.map V.int)) ∧ r.1 ∉ ρ.all) ∧ kf r.2.1 = some r.2.2
  | [], rows, ks, vs, h1, h2, q => by
    cases (show some [] = some rows from h1)
    cases (show some [] = some ks from h2)
    unfold RDs at q
    subst q
    exact ⟨[], rfl, rfl, rfl, fun r hr => by cases hr⟩
  | d :: ds, rows, ks, vs, h1, h2, q => by
    unfold RDs at q
    obtain ⟨v, t, rfl, q1, q2⟩ := q
    unfold rowsOf at h1
    rw [List.mapM_cons] at h1
    cases e1 : rowOf d with
    | none => rw [e1] at h1; cases h1
    | some r =>
      cases e2 : ds.mapM rowOf with
      | none => rw [e1, e2] at h1; cases h1
      | some rs =>
        rw [e1, e2] at h1
        cases (show some (r :: rs) = some rows from h1)
        rw [List.mapM_cons] at h2
        cases e3 : kf r with
        | none => rw [e3] at h2; cases h2
        | some k =>
          cases e4 : rs.mapM kf with
          | none => rw [e3, e4] at h2; cases h2
          | some kk =>
            rw [e3, e4] at h2
            cases (show some (k :: kk) = some ks from h2)
            obtain ⟨a, rfl, ha, hn⟩ := rowOf_at e1 q1
            obtain ⟨ar, rfl, g2, g3, g4⟩ := rowsOf_at (kf := kf) (show rowsOf ds = some rs from e2) e4 q2
            refine ⟨(a, r, k) :: ar, rfl, by rw [List.map_cons, g2]; rfl, by simp [g3], fun x hx => ?_⟩
            rcases List.mem_cons.mp hx with rfl | hx
            · exact ⟨⟨ha, hn⟩, e3⟩
            · exact g4 x hx
theorem rds_rows {K : PySem.W.Frag} : ∀ {ar : List (Addr × List Int × Int)}, (∀ r ∈ ar, H r.1 = some (.tup (r.2.1.map V.int)) ∧ r.1 ∉ ρ.all) → RDs K ρ H (ar.map fun r => encRow r.2.1) (ar.map fun r => V.ref r.1)
  | [], _ => RDs.nil
  | r :: ar, h => by
    refine RDs.cons ?_ (rds_rows fun x hx => h x (List.mem_cons_of_mem _ hx))
    unfold encRow RD
    exact ⟨r.1, _, rfl, h r List.mem_cons_self, ints_rds _⟩
theorem c_sortKey {a body : Expr} {ma : SE} {mt : Bool} {p : Str} {n k : Nat} {params : Arguments} {scope : Scope} {np lpos kpos pos : Pos} (T : LamAt X) (hg : Gl X "sorted") (hm : X.mg "sorted" = none) (hr : Room k X.A)
    (L : KeyS X.env.scope scope p) (hp : keyPar params = some p) (hpd : (p == ("__debug__" : Str)) = false) (ha : PE X a (lE X.K cl E ma)) (na : starEach [a] X.env = (false, eval a X.env) :: starEach [] X.env) :
    PE X (.Call (.Name "sorted" np) [a] [⟨some "key", .Lambda params body scope lpos, kpos⟩] pos) (lE X.K cl E (mSortKey mt (dK X.N scope p n body) ma)) := by
  obtain ⟨c, P, hcode, TB, hmT, hu⟩ := T.ex
  refine PE.via (pe_sortKey (T := tabsK X.K) (n := n) hg hm hr TB hcode hmT hu L hp hpd ha na) fun σ H Q z h => ?_
  obtain ⟨ρ, env, S, rs, re, h⟩ := h
  refine lE_step rs re h fun x H1 ρ1 S1 d z1 g1 rs1 re1 rd h1 => ?_
  split at h1
  · rename_i ds hd
    split at h1
    · rename_i rows hrows
      split at h1
      · rename_i ks hks
        split at h1
        · rename_i hn
          have hn := of_decide_eq_true hn
          obtain ⟨l, vs, rfl, hl, qs⟩ := list_at rs1 hd rd
          obtain ⟨ar, rfl, e2, e3, h4⟩ := rowsOf_at (kf := dK X.N scope p n body env) hrows hks qs
          have tb := rs1.tab
          rw [rs1.told] at tb
          refine ⟨l, ar, env, ρ1, rfl, SqL.of hl, fun r hr => ⟨(h4 r hr).1.1, (h4 r hr).2⟩, re1, tb, fun out q H2 eN T2 pm so np => ?_⟩
          have g2 : Grow ρ1 H1 ρ1 H2 := extN_grow eN
          have rs2 := extN_rel rs1 eN (by rw [rs1.told]; exact T2)
          have key : (out.map (·.2)) = sortK (rows.zip ks) := by
            refine sortK_one (by rw [← e2]; exact pm.map _) ?_ ?_
            · rw [List.pairwise_map]; exact so
            · have : (rows.zip ks).map (·.2) = ks := List.map_snd_zip (by omega)
              rw [this]; exact hn
          have rw_ : (sortK (rows.zip ks)).map (fun r => encRow r.1) = out.map fun r => encRow r.2.1 := by
            rw [← key, List.map_map]; rfl
          rw [rw_] at h1
          refine mkL_ok rs2 (rds_rows fun r hr => ?_) (OKo.grow g2 h1) q np
          obtain ⟨h5, h6⟩ := (h4 r (pm.mem_iff.mp hr)).1
          exact ⟨eN _ _ h5 (by intro _ z; cases z), h6⟩
        · exact h1.elim
      · exact h1.elim
    · exact h1.elim
  · exact h1.elim
/-! ### sep.join(xs) -/
def strOfD : D → Option Str
  | .str x => some x
  | _ => none
def strsOf (ds : List D) : Option (List Str) := ds.mapM strOfD
theorem strsOf_at {K : PySem.W.Frag} : ∀ {ds : List D} {ys : List Str} {vs : List V}, strsOf ds = some ys → RDs K ρ H ds vs → vs = ys.map V.str
  | [], ys, vs, e, r => by
    cases (show some [] = some ys from e)
    unfold RDs at r
    exact r
  | d :: ds, ys, vs, e, r => by
    unfold RDs at r
    obtain ⟨v, us, rfl, r1, r2⟩ := r
    unfold strsOf at e
    rw [List.mapM_cons] at e
    cases d with
    | str x =>
      cases e2 : ds.mapM strOfD with
      | none => rw [e2] at e; cases e
      | some zs =>
        rw [e2] at e
        cases (show some (x :: zs) = some ys from e)
        cases r1.ofStr
        rw [strsOf_at (show strsOf ds = some zs from e2) r2]
        rfl
    | _ => cases e
def mJoin (o a : SE) : SE := fun env S => (o env S).bind fun c S1 => match c with
  | .str sep => (a env S1).bind fun x S2 => match listOf S2 x with
    | some ds => (match strsOf ds with
      | some ys => if Nat.ble ((ys.map (·.length)).sum + ys.length * sep.length) 16777216 then .ok (.str (Txt.join sep ys)) S2 else .bad
      | none => .bad)
    | none => .bad
  | _ => .bad
theorem c_join {o a : Expr} {mo ma : SE} {apos pos : Pos} (ho : PE X o (lE X.K cl E mo)) (ha : PE X a (lE X.K cl E ma)) (hs : starEach [a] X.env = [(false, eval a X.env)]) (hb : attributeBase o "join" X.env (eval o X.env) = eval o X.env) (hl : (apos.endLine == pos.line) = true) :
    PE X (.Call (.Attribute o "join" apos) [a] [] pos) (lE X.K cl E (mJoin mo ma)) := by
  refine PE.via (pe_join ho ha hs hb hl) fun σ H Q z h => ?_
  obtain ⟨ρ, env, S, rs, re, h⟩ := h
  refine lE_step rs re h fun x H1 ρ1 S1 d z1 g1 rs1 re1 rd h1 => ?_
  split at h1
  · rename_i sep
    cases rd.ofStr
    refine ⟨⟨_, rfl⟩, lE_step rs1 re1 h1 fun y H2 ρ2 S2 d2 z2 g2 rs2 re2 rd2 h2 => ?_⟩
    split at h2
    · rename_i ds hd
      split at h2
      · rename_i ys hys
        split at h2
        · rename_i few
          obtain ⟨l, vs, rfl, hq, qs⟩ := list_at rs2 hd rd2
          rw [strsOf_at hys qs] at hq
          exact ⟨sep, l, ys, rfl, rfl, .inl (SqL.of hq), Nat.le_of_ble_eq_true few, fun z3 => h2 ρ2 H2 _ Grow.refl rs2 RD.str z3⟩
        · exact h2.elim
      · exact h2.elim
    · exact h2.elim
  · exact h1.elim
end
end Mir
end

section
set_option Elab.async false
set_option linter.all false
set_option maxRecDepth 100000
set_option maxHeartbeats 4000000
/-! Mir6l: enumerate of a tuple. -/
namespace Mir
open PySem PySem.Spec PyProof.Rows L2
open AutoSeq1 (wpAny_loadPart')
theorem meets_enumT (l : Addr) (items : Array Value) :
    Meets (Builtin.«enumerate.__new__» ⟨[.type "enumerate", .ref l], []⟩) (fun _ R s => s.heap.IsTuple l items ∧
      R (.ok (.ret (.ref (s.heap.push { cls := .type "tuple_iterator", data := .fields #[.ref l, .int 0 0] }).objs.size)))
        { s with heap := (s.heap.push { cls := .type "tuple_iterator", data := .fields #[.ref l, .int 0 0] }).push { cls := .type "enumerate", data := .fields #[.none, .bool false, .ref s.heap.objs.size, rawInt 0, .none, .none] } }) :=
  .of_wp fun prog w A R s h => by
    obtain ⟨hp, g, d, tk, os⟩ := s; obtain ⟨h1, h⟩ := h
    have hsub := sub_enumerate
    have q1 : ∀ {A' : Around} {E : Value → Shared → Prop} {Q : Value → Shared → Prop}, Q (.ref hp.objs.size) ⟨hp.push { cls := .type "tuple_iterator", data := .fields #[.ref l, .int 0 0] }, g, d, tk, os⟩ → wpAny (model prog w) A' (pyIter (.ref l)) Q E ⟨hp, g, d, tk, os⟩ :=
      fun q => wpAny_pyIter_tuple h1 q
    wp_walk using q1
    refine wpAny_stack_any fun st => wpAny_pure ?_
    split
    · rename_i c _ _ _ _ _
      cases (c == Value.type "enumerate")
      · wp_walk using q1
        exact ⟨_, rfl, h⟩
      · wp_walk using q1
        exact ⟨_, rfl, h⟩
    · wp_walk using q1
      exact ⟨_, rfl, h⟩
section
variable {prog : Program} {w : World} {A : Around} {E : Value → Shared → Prop} {s : Shared}
theorem call_enumT {l : Addr} {items : Array Value} {Q : Value → Shared → Prop} (hL : s.heap.IsTuple l items)
    (h : ∀ h', IsEnum h' (s.heap.objs.size + 1) s.heap.objs.size 0 .none → h'.IsTupleIter s.heap.objs.size l 0 → h'.objs.size = s.heap.objs.size + 2 →
      (∀ b o, s.heap.get? b = some o → h'.get? b = some o) → Q (.ref (s.heap.objs.size + 1)) { s with heap := h' }) :
    wpAny (model prog w) A (call (.type "enumerate") [.ref l]) Q E s := by
  refine callType_new F.called_enumerate (by decide) (F.typeCall_enumerate_1 _) (F.newCall_enumerate_1 _) (fun obj => F.args_object_init_2 obj _) F.entry_enumerate_new
    (meets_enumT l items) ⟨hL, ?_⟩
  have hz : (s.heap.push { cls := .type "tuple_iterator", data := .fields #[.ref l, .int 0 0] }).objs.size = s.heap.objs.size + 1 := Heap.size_push ..
  show _ ∧ _
  rw [hz]
  have he : IsEnum ((s.heap.push { cls := .type "tuple_iterator", data := .fields #[.ref l, .int 0 0] }).push
      { cls := .type "enumerate", data := .fields #[.none, .bool false, .ref s.heap.objs.size, rawInt 0, .none, .none] }) (s.heap.objs.size + 1) s.heap.objs.size 0 .none := by
    have := Heap.get?_push_size (s.heap.push { cls := .type "tuple_iterator", data := .fields #[.ref l, .int 0 0] })
      (o := { cls := .type "enumerate", data := .fields #[.none, .bool false, .ref s.heap.objs.size, rawInt 0, .none, .none] }) rfl
    rw [hz] at this; exact this
  refine ⟨⟨_, he, rfl⟩, h _ he ⟨_, Heap.get?_push_of_some _ (Heap.get?_push_size _ rfl), rfl, rfl⟩ (by rw [Heap.size_push, hz]) fun b o x => Heap.get?_push_of_some _ (Heap.get?_push_of_some _ x)⟩
end
theorem enumT_end {prog : Program} {w : World} {A : Around} {E : Value → Shared → Prop} {s : Shared} {e it l : Addr} {i : Nat} {items : Array Value} {old : Value} {Q : Option Value → Shared → Prop} (hh : A.handled = none)
    (he : IsEnum s.heap e it i old) (hit : s.heap.IsTupleIter it l i) (hl : s.heap.IsTuple l items) (hx : items[i]? = none)
    (hQ : ∀ h', Heap.ExtBut it s.heap h' → Q none { s with heap := h' }) : wpAny (model prog w) A (pyNext (.ref e)) Q E s := by
  have hT : s.TypeIs (.ref e) "enumerate" := ⟨_, he, rfl⟩
  unfold pyNext
  refine wpAny_bind (wpAny_attempt (wpAny_callSpecial?_slot (name := Str.ofString "__next__") hT F.slot_enumerate_next
    (wpAny_call_entry F.slot_enumerate_next hT F.entry_enumerate_next ?_ (F.args_enumerate_next_1 _))))
  show wpAny _ _ (field (.ref e) 2 >>= _) _ _ _
  refine wpAny_bind (wpAny_field he rfl (x := .ref it) rfl ?_)
  refine wpAny_bind (wpAny_nextOf_tuple_end hh hit hl hx fun h' x he' hx' => ?_)
  obtain ⟨o, ho, hc⟩ := hx'
  refine wpAny_bind (wpAny_isInstance (T := "StopIteration") (b := true) ⟨o, ho, hc⟩ isSubtype_stop ?_)
  exact wpAny_pure (hQ _ he')
/-- the tuple at a, each item in a new pair -/
def IteT (K : PySem.W.Frag) (a : Addr) : It :=
  ⟨fun i H => ∃ (xs : List V) (x : V), SqT K H a xs ∧ xs[i]? = some x, fun i H v H' => ∃ T x, v = .ref T ∧ H T = none ∧ H' = upd H T (.tup [.int (i : Nat), x]) ∧ ∀ xs, SqT K H a xs → xs[i]? = some x, fun i H => ∃ xs : List V, SqT K H a xs ∧ xs.length ≤ i⟩
theorem turn_enumT {P : Program} {w : World} {K : PySem.W.Frag} {elts : List Expr} {kk : Nat} {tpos : Pos} (a e it : Addr) (na : e ≠ a) (nb : a ≠ it) :
    Turn P w K (.Tuple elts kk tpos) (IteT K a) [e, it] e (fun i h => (∃ old, IsEnum h e it ((i : Nat) : Int) old) ∧ h.IsTupleIter it a i ∧ e ≠ it) where
  mem := by simp
  obj := fun i h st b hb => by
    obtain ⟨⟨old, he⟩, ⟨o, ho, hc, hd⟩, _⟩ := st
    have e' : b = e ∨ b = it := by simpa using hb
    rcases e' with z | z
    · rw [z]; exact ⟨_, he, fun v q => nomatch q⟩
    · rw [z]; exact ⟨o, ho, fun v q => by rw [hd] at q; cases q⟩
  keep := fun i h h' st k => let ⟨⟨old, he⟩, hi, hne⟩ := st; ⟨⟨old, k e (by simp) _ he⟩, hi.at fun o q => k it (by simp) o q, hne⟩
  item := by
    intro X hP hw hK hc i pins s σ H E I hf st hg
    subst hP hw hK
    obtain ⟨⟨old, he⟩, hit, hne⟩ := st
    obtain ⟨xs, x, hq, hx⟩ := hg
    obtain ⟨its, rv, p, hz⟩ := I.tuple hq
    obtain ⟨u, hu, ru⟩ := rv.get hx
    have hel : e < s.heap.objs.size := Heap.lt_size he
    have hil : it < s.heap.objs.size := by obtain ⟨_, q, _⟩ := hit; exact Heap.lt_size q
    have hul : i < its.toArray.size := by simpa using (List.getElem?_eq_some_iff.mp hu).1
    refine wpAny_pyNext_enum_itemD (Draws.tuple (prog := X.prog) (w := X.w) (A := X.A.in1) (I.ok.hd hc) it a nb its.toArray) he ⟨hit, p⟩ hul hne (by simp [hne, na]) fun u' h' tk hu' ho hit' hT hsz hk => ?_
    have eu : u' = u := by
      have h1 : its.toArray[i]? = some u' := hu'
      have h2 : its.toArray[i]? = some u := by simpa using hu
      rw [h2] at h1
      exact (Option.some.inj h1).symm
    subst eu
    refine ⟨_, rfl, wpAny_letOwnedTupleGo_enum (s := { s with heap := h', toks := tk + 1 }) ho fun h'' he' sb => ?_⟩
    have hT2 : h''.get? s.heap.objs.size = some { cls := .type "tuple", data := .seq #[.int i tk, u'] } := (sb.2 _ (Nat.ne_of_gt hel)).trans hT
    have new : ObjOk X.prog X.w (upd H s.heap.objs.size (.tup [.int (i : Nat), x])) h'' s.heap.objs.size (.tup [.int (i : Nat), x]) :=
      ⟨by show 2 ≤ sizeLine; decide, [.int i tk, u'], .cons ⟨_, rfl⟩ (.cons ru .nil), ⟨_, hT2, rfl, _, rfl⟩⟩
    have I1 : Inv X pins σ (upd H s.heap.objs.size (.tup [.int (i : Nat), x])) { s with heap := h'', toks := tk + 1 } :=
      I.turnedNew (ch := [e, it]) (fun b ob hb q => (sb.2 b (fun z => hb (by simp [z]))).trans (hk b ob (fun z => hb (by simp [z])) (fun z => hb (by simp [z])) q)) hf (Nat.le_refl _) new
    refine ⟨.ref s.heap.objs.size, _, I1, rfl, ⟨_, x, rfl, I.hok.fresh (Nat.le_refl _), rfl, fun ys hy => by rw [I.tuple_inj hy hq]; exact hx⟩, ⟨⟨u', ?_⟩, hit'.1.at fun o q => (sb.2 it (Ne.symm hne)).trans q, hne⟩, fun b hb => ?_⟩
    · have e1 : ((i + 1 : Nat) : Int) = (i : Int) + 1 := by omega
      rw [e1]; exact he'
    · have hb' : b < s.heap.objs.size := by
        have e' : b = e ∨ b = it := by simpa using hb
        rcases e' with z | z
        · rw [z]; exact hel
        · rw [z]; exact hil
      rw [upd_ne (Nat.ne_of_lt hb')]
      exact (hf b hb).1
  done := by
    intro X hP hw hK hc i pins s σ H E I hf st hg
    subst hP hw hK
    obtain ⟨⟨old, he⟩, hit, hne⟩ := st
    obtain ⟨xs, hq, hx⟩ := hg
    obtain ⟨its, rv, p, hz⟩ := I.tuple hq
    obtain ⟨f0, f1, f2, f3, f4, f5⟩ := hf it (by simp)
    have hl := rv.length
    exact enumT_end (I.ok.hd hc) he hit p (by simp; omega) fun h' eb => ⟨rfl, I.turned (t' := s.toks) (fun b o hb q => eb b o hb q) f0 f1 f3 f4 f5⟩
  self := fun A i s Q E st h => let ⟨⟨_, he⟩, _⟩ := st; wpAny_pyIter_enum he h
def iEnumA (K : PySem.W.Frag) (ta : TA) : TI := fun σ H R => ta σ H fun vs H1 => ∃ a xs, vs = [.ref a] ∧ ((SqL K H1 a xs ∧ R (Ite K a) H1) ∨ (SqT K H1 a xs ∧ R (IteT K a) H1))
theorem pi_enumA {X : Cx} {e : Expr} {ta : TA} {p pos tpos : Pos} {elts : List Expr} {kk : Nat} (hg : Gl X "enumerate") (hm : X.mg "enumerate" = none) (ha : PA X [e] ta) (hs : starEach [e] X.env = [(false, eval e X.env)] := by rfl) :
    PI X (.Tuple elts kk tpos) (.Call (.Name "enumerate" p) [e] [] pos) (iEnumA X.K ta) := by
  refine ⟨fun pins s σ H R I h => ?_⟩
  refine Call_ (ld_blt I hg hm boot_enumerate (PyProof.Rows.callWith_type1 (thn (ha.run pos pins s σ H _ I h) fun us s1 ⟨vs, H1, I1, r1, q1⟩ => ?_) hs rfl))
  obtain ⟨a, xs, ex, q⟩ := q1
  subst ex
  cases r1 with
  | cons r rr =>
    cases rr
    cases r
    have fps : ∀ b, b ∈ [s1.heap.objs.size + 1, s1.heap.objs.size] → FpOk X pins H1 b := fun b hb => by
      have e' : b = s1.heap.objs.size + 1 ∨ b = s1.heap.objs.size := by simpa using hb
      have hle : s1.heap.objs.size ≤ b := by
        rcases e' with z | z
        · rw [z]; exact Nat.le_add_right _ _
        · rw [z]; exact Nat.le_refl _
      exact I1.fpOk hle (I1.hok.fresh hle)
    rcases q with ⟨hq, q⟩ | ⟨hq, q⟩
    · obtain ⟨its, rv, p', hz⟩ := I1.list hq
      refine call_enumerate_list p'.isList fun h' he hit hsz hk => wpAny_pyIter_enum he ?_
      have I2 : Inv X pins σ H1 { s1 with heap := h' } := I1.kept (t' := s1.toks) hk
      exact ⟨s1.heap.objs.size + 1, [s1.heap.objs.size + 1, s1.heap.objs.size], _, _, H1, rfl, I2, turn_enum a (s1.heap.objs.size + 1) s1.heap.objs.size, ⟨⟨.none, he⟩, hit, Nat.succ_ne_self _⟩, fps, q⟩
    · obtain ⟨its, rv, p', hz⟩ := I1.tuple hq
      have lt : a < s1.heap.objs.size := by obtain ⟨_, q, _⟩ := p'; exact Heap.lt_size q
      refine call_enumT p' fun h' he hit hsz hk => wpAny_pyIter_enum he ?_
      have I2 : Inv X pins σ H1 { s1 with heap := h' } := I1.kept (t' := s1.toks) hk
      exact ⟨s1.heap.objs.size + 1, [s1.heap.objs.size + 1, s1.heap.objs.size], _, _, H1, rfl, I2, turn_enumT a (s1.heap.objs.size + 1) s1.heap.objs.size (Nat.ne_of_gt (Nat.lt_succ_of_lt lt)) (Nat.ne_of_lt lt), ⟨⟨.none, he⟩, hit, Nat.succ_ne_self _⟩, fps, q⟩
def enumE (i : Nat) (x : D) : D := .tup [.int (i : Nat), x]
def Src.liveE (n len : Nat) : Src := ⟨len, fun i S => match S[n]? with
  | some (.lst xs) => if xs.length = len then xs[i]?.map (enumE i) else none
  | _ => none, fun S => match S[n]? with
  | some (.lst xs) => decide (xs.length = len)
  | _ => false⟩
def mEnumA (as : SA) : Env → Store → Out Src := fun env S => (as env S).bind fun xs S1 => match xs with
  | [.lst a] => .ok (.items (enumD 0 a)) S1
  | [.tup a] => .ok (.items (enumD 0 a)) S1
  | [.ref n] => (match S1[n]? with
    | some (.lst xs) => .ok (.liveE n xs.length) S1
    | _ => .bad)
  | _ => .bad
section
variable {X : Cx} {cl : Nat → Addr} {E : XK} {K : PySem.W.Frag} {ρ : Rho} {H : Hp} {S : Store}
theorem serves0_enumT {as : List D} {v : V} (r : RD K ρ H (.tup as) v) : ∃ a xs, v = .ref a ∧ SqT K H a xs ∧ Serves0 K (IteT K a) (.items (enumD 0 as)) ρ H := by
  unfold RD at r
  obtain ⟨a, vs, rfl, h, q⟩ := r
  refine ⟨a, vs, rfl, SqT.of h.1, fun ρ1 H1 S1 g rs => ?_⟩
  have k1 := at_grow g h
  have q1 := q.grow g
  have l1 := q.length
  refine ⟨fun i d hi hd => ?_, fun _ => ⟨vs, SqT.of k1.1, ?_⟩⟩
  · obtain ⟨x, hx, rfl⟩ := enumD_get (show (enumD 0 as)[i]? = some d from hd)
    obtain ⟨vx, hvx, rx⟩ := q1.get hx
    refine ⟨⟨vs, vx, SqT.of k1.1, hvx⟩, fun z H2 yl => ?_⟩
    obtain ⟨T, x', rfl, hT, rfl, f1⟩ := yl
    have e1 := f1 vs (SqT.of k1.1)
    rw [hvx] at e1
    cases e1
    refine ⟨grow_upd hT, rs.out hT, ?_⟩
    rw [Nat.zero_add]
    exact RD.newTup rs hT (RDs.cons RD.int (RDs.cons rx RDs.nil))
  · show vs.length ≤ (enumD 0 as).length
    rw [enumD_len]
    omega
theorem serves0_enumL {n : Nat} {xs : List D} {v : V} (rs : RelS K ρ S H) (hS : S[n]? = some (.lst xs)) (r : RD K ρ H (.ref n) v) : ∃ a ys, v = .ref a ∧ SqL K H a ys ∧ Serves0 K (Ite K a) (.liveE n xs.length) ρ H := by
  unfold RD at r
  obtain ⟨a, rfl, hn⟩ := r
  obtain ⟨o, e, vs, rfl, q⟩ := rs.ob n a _ hn hS
  refine ⟨a, vs, rfl, SqL.of e, fun ρ1 H1 S1 g rs1 => ?_⟩
  have hn1 := g.ix hn
  refine ⟨fun i d hi hd => ?_, fun hf => ?_⟩
  · have hd : (match S1[n]? with
      | some (.lst ys) => if ys.length = xs.length then ys[i]?.map (enumE i) else none
      | _ => none) = some d := hd
    split at hd
    · rename_i ys hy
      split at hd
      · obtain ⟨o1, e1, ws, rfl, q1⟩ := rs1.ob n a _ hn1 hy
        obtain ⟨x, hx, rfl⟩ := Option.map_eq_some_iff.mp hd
        obtain ⟨vx, hvx, rx⟩ := q1.get hx
        refine ⟨⟨ws, vx, SqL.of e1, hvx⟩, fun z H2 yl => ?_⟩
        obtain ⟨T, x', rfl, hT, rfl, f1⟩ := yl
        have e2 := f1 ws (SqL.of e1)
        rw [hvx] at e2
        cases e2
        exact ⟨grow_upd hT, rs1.out hT, RD.newTup rs1 hT (RDs.cons RD.int (RDs.cons rx RDs.nil))⟩
      · cases hd
    · cases hd
  · have hf : (match S1[n]? with
      | some (.lst ys) => decide (ys.length = xs.length)
      | _ => false) = true := hf
    split at hf
    · rename_i ys hy
      have hf := of_decide_eq_true hf
      obtain ⟨o1, e1, ws, rfl, q1⟩ := rs1.ob n a _ hn1 hy
      have := q1.length
      exact ⟨ws, SqL.of e1, by show ws.length ≤ xs.length; omega⟩
    · cases hf
theorem serves_enumT {as : List D} {v : V} (r : RD K ρ H (.tup as) v) : ∃ a xs, v = .ref a ∧ SqT K H a xs ∧ Serves K (IteT K a) (.items (enumD 0 as)) ρ H := by
  obtain ⟨a, xs, rfl, h, _⟩ := serves0_enumT r
  refine ⟨a, xs, rfl, h, fun ρ0 H0 sh => ?_⟩
  obtain ⟨_, _, e, _, z⟩ := serves0_enumT (r.shr sh)
  cases e
  exact z
theorem serves_enumL {n : Nat} {xs : List D} {v : V} (rs : RelS K ρ S H) (hS : S[n]? = some (.lst xs)) (r : RD K ρ H (.ref n) v) : ∃ a ys, v = .ref a ∧ SqL K H a ys ∧ Serves K (Ite K a) (.liveE n xs.length) ρ H := by
  obtain ⟨a, ys, rfl, h, _⟩ := serves0_enumL rs hS r
  refine ⟨a, ys, rfl, h, fun ρ0 H0 sh => ?_⟩
  obtain ⟨_, _, e, _, z⟩ := serves0_enumL (rs.shr sh) hS (r.shr sh)
  cases e
  exact z
theorem i_enumA {elts : List Expr} {kk : Nat} {a : Expr} {p pos tpos : Pos} {as : SA} (hg : Gl X "enumerate") (hm : X.mg "enumerate" = none) (ha : PA X [a] (lA X.K cl E as)) (hs : starEach [a] X.env = [(false, eval a X.env)]) :
    PI X (.Tuple elts kk tpos) (.Call (.Name "enumerate" p) [a] [] pos) (lI X.K cl E (mEnumA as)) := by
  refine PI.imp (pi_enumA hg hm ha hs) fun σ H R z h => ?_
  obtain ⟨ρ, env, S, rs, re, h⟩ := h
  refine lA_step rs re h fun xs H1 ρ1 S1 ds z1 g1 rs1 re1 rd h1 => ?_
  split at h1
  · obtain ⟨v, rfl, r1⟩ := rd.one
    obtain ⟨a, xs, rfl, q1, sv⟩ := serves_enum r1
    exact ⟨a, xs, rfl, .inl ⟨q1, h1 ρ1 H1 _ Grow.refl rs1 sv⟩⟩
  · obtain ⟨v, rfl, r1⟩ := rd.one
    obtain ⟨a, xs, rfl, q1, sv⟩ := serves_enumT r1
    exact ⟨a, xs, rfl, .inr ⟨q1, h1 ρ1 H1 _ Grow.refl rs1 sv⟩⟩
  · rename_i n
    obtain ⟨v, rfl, r1⟩ := rd.one
    split at h1
    · rename_i ys hS
      obtain ⟨a, xs, rfl, q1, sv⟩ := serves_enumL rs1 hS r1
      exact ⟨a, xs, rfl, .inl ⟨q1, h1 ρ1 H1 _ Grow.refl rs1 sv⟩⟩
    · exact h1.elim
  · exact h1.elim
end
end Mir
end

section
set_option Elab.async false
set_option linter.all false
set_option maxRecDepth 100000
set_option maxHeartbeats 4000000
/-! Mir6m: rows of whole numbers as data: the least of a list. -/
namespace Mir
open PySem PySem.Spec PyProof.Rows L2
/-! ### rows as data -/
def rowP (r : List Int) : PyData := .tuple (r.map .int)
theorem alikeAll_ints : ∀ xs ys : List Int, PySem.W.alikeAll (xs.map .int) (ys.map .int) = true
  | [], _ => by simp [PySem.W.alikeAll]
  | _ :: _, [] => by simp [PySem.W.alikeAll]
  | x :: xs, y :: ys => by
    rw [List.map_cons, List.map_cons]
    unfold PySem.W.alikeAll
    rw [alikeAll_ints xs ys]
    rfl
theorem alike_rows (r q : List Int) : PySem.W.alike (rowP r) (rowP q) = true := by
  show PySem.W.alikeAll (r.map .int) (q.map .int) = true
  exact alikeAll_ints r q
theorem depth_ints : ∀ xs : List Int, PyData.depthAll (xs.map .int) = 0
  | [] => rfl
  | x :: xs => by
    rw [List.map_cons]
    unfold PyData.depthAll
    rw [depth_ints xs]
    rfl
theorem depth_row (r : List Int) : (rowP r).depth = 1 := by
  show PyData.depthAll (r.map .int) + 1 = 1
  rw [depth_ints]
theorem depth_rows : ∀ rs : List (List Int), PyData.depthAll (rs.map rowP) ≤ 1
  | [] => by show (0 : Nat) ≤ 1; omega
  | r :: rs => by
    rw [List.map_cons]
    unfold PyData.depthAll
    have := depth_rows rs
    rw [depth_row]
    omega
theorem reads_ints {h : Heap} : ∀ {xs : List Int} {us : List Value}, Vals (xs.map V.int) us → ReadsAll h us (xs.map .int) []
  | [], _, .nil => .nil
  | x :: xs, _, .cons r t => by
    obtain ⟨k, rfl⟩ := r
    exact ReadsAll.cons (as := []) (bs := []) (.int x k) (reads_ints t)
theorem ints_reads {h : Heap} : ∀ {xs : List Int} {us : List Value} {ds : List PyData} {as : List Addr}, Vals (xs.map V.int) us → ReadsAll h us ds as → ds = xs.map .int
  | [], _, _, _, .nil, .nil => rfl
  | x :: xs, _, _, _, .cons r t, .cons q s => by
    obtain ⟨k, rfl⟩ := r
    cases q
    rw [ints_reads t s]
    rfl
theorem map_int_inj : ∀ {xs ys : List Int}, xs.map PyData.int = ys.map PyData.int → xs = ys
  | [], [], _ => rfl
  | [], _ :: _, h => by cases h
  | _ :: _, [], h => by cases h
  | x :: xs, y :: ys, h => by
    rw [List.map_cons, List.map_cons] at h
    injection h with h1 h2
    injection h1 with h1
    rw [h1, map_int_inj h2]
/-- one row is ahead of another -/
def rLt : List Int → List Int → Bool
  | [], [] => false
  | [], _ :: _ => true
  | _ :: _, [] => false
  | x :: xs, y :: ys => decide (x < y) || (decide (x = y) && rLt xs ys)
theorem rLt_is : ∀ xs ys : List Int, rLt xs ys = decide (xs < ys)
  | [], [] => by simp [rLt]
  | [], _ :: _ => by simp [rLt]
  | _ :: _, [] => by simp [rLt]
  | x :: xs, y :: ys => by
    unfold rLt
    rw [rLt_is xs ys, Bool.eq_iff_iff]
    simp [List.cons_lt_cons_iff]
theorem dataLt_rows (r q : List Int) : PySem.W.dataLt (rowP r) (rowP q) = rLt r q := by
  rw [rLt_is]
  unfold rowP
  rw [PySem.W.dataLt_tuple]
  exact PySem.W.dataLt_ints r q
def minR (r : List Int) (rs : List (List Int)) : List Int := rs.foldl (fun a y => if rLt y a then y else a) r
theorem minD_rows (rs : List (List Int)) : ∀ r : List Int, PySem.W.minD (rowP r) (rs.map rowP) = rowP (minR r rs) := by
  unfold PySem.W.minD minR
  induction rs with
  | nil => intro r; rfl
  | cons q rs ih =>
    intro r
    rw [List.map_cons, List.foldl_cons, List.foldl_cons, dataLt_rows]
    cases rLt q r with
    | true => exact ih q
    | false => exact ih r
section
variable {X : Cx} {cl : Nat → Addr} {E : XK} {ρ : Rho} {S : Store}
theorem row_reads {pins : List (Addr × Obj)} {σ : L2.St} {H : Hp} {s : Shared} {a : Addr} {r : List Int} (I : Inv X pins σ H s) (h : H a = some (.tup (r.map V.int))) : Reads s.heap (.ref a) (rowP r) [] := by
  obtain ⟨its, rv, ⟨o, e1, e2, n, e3⟩, _⟩ := I.tuple (SqT.of (K := X.K) h)
  exact .tuple e1 e2 e3 (by simpa using reads_ints rv)
theorem rows_reads {pins : List (Addr × Obj)} {σ : L2.St} {H : Hp} {s : Shared} (I : Inv X pins σ H s) : ∀ {ar : List (Addr × List Int)}, (∀ r ∈ ar, H r.1 = some (.tup (r.2.map V.int))) → ReadsAll s.heap (ar.map fun r => Value.ref r.1) (ar.map fun r => rowP r.2) []
  | [], _ => .nil
  | r :: ar, h => ReadsAll.cons (as := []) (bs := []) (row_reads I (h r List.mem_cons_self)) (rows_reads I fun x hx => h x (List.mem_cons_of_mem _ hx))
/-- min(rows) -/
def rMinR (K : PySem.W.Frag) : List V → Hp → VK → Prop := fun xs H Q => ∃ (l : Addr) (r : Addr × List Int) (ar : List (Addr × List Int)), xs = [.ref l] ∧ SqL K H l ((r :: ar).map fun r => V.ref r.1) ∧ (∀ q ∈ r :: ar, H q.1 = some (.tup (q.2.map V.int))) ∧
  ∀ q ∈ r :: ar, q.2 = minR r.2 (ar.map (·.2)) → Q (.ref q.1) H
theorem cr_minR (hc : X.calm = true) (hu : X.A.units + 100 < cLine) : CallR X (.builtin "min") (rMinR X.K) := by
  intro pins s σ H xs us Q I r h
  obtain ⟨l, q, ar, rfl, hs, hr, k⟩ := h
  rw [Vals.ref1 r]
  obtain ⟨its, rv, pl, hz⟩ := I.list hs
  have e := vals_refs rv
  subst e
  have ra := rows_reads I hr
  have ra : ReadsAll s.heap ((q :: ar).map fun r => Value.ref r.1).toArray.toList (rowP q.2 :: (ar.map (·.2)).map rowP) [] := by
    have e : (ar.map (·.2)).map rowP = ar.map fun r => rowP r.2 := by rw [List.map_map]; rfl
    rw [e]
    simpa using ra
  refine PySem.W.min_list_data (I.ok.hd hc) pl.isList ra ⟨fun x hx y hy => ?_, fun x hx => ?_⟩ ?_ fun i v h' tk bs hv hrd keep => ?_
  · have at_ : ∀ z ∈ rowP q.2 :: (ar.map (·.2)).map rowP, ∃ t, z = rowP t := fun z hz => by
      rcases List.mem_cons.mp hz with rfl | hz
      · exact ⟨_, rfl⟩
      · obtain ⟨t, _, rfl⟩ := List.mem_map.mp hz
        exact ⟨t, rfl⟩
    obtain ⟨t, rfl⟩ := at_ x hx
    obtain ⟨u, rfl⟩ := at_ y hy
    exact alike_rows t u
  · rcases List.mem_cons.mp hx with rfl | hx
    · exact fun z => (by cases z)
    · obtain ⟨t, _, rfl⟩ := List.mem_map.mp hx
      exact fun z => (by cases z)
  · have := depth_rows (q.2 :: ar.map (·.2))
    rw [List.map_cons] at this
    omega
  · rw [minD_rows] at hrd
    have hv : ((q :: ar).map fun r => Value.ref r.1)[i]? = some v := by simpa using hv
    rw [List.getElem?_map] at hv
    obtain ⟨t, ht, rfl⟩ := Option.map_eq_some_iff.mp hv
    have hm := List.mem_of_getElem? ht
    have I2 : Inv X pins σ H { s with heap := h', toks := tk } := I.kept keep
    obtain ⟨its, rt, ⟨o, e1, e2, n, e3⟩, _⟩ := I2.tuple (SqT.of (K := X.K) (hr t hm))
    refine ⟨.ref t.1, H, I2, rfl, k t hm ?_⟩
    unfold rowP at hrd
    cases hrd with
    | tuple f1 f2 f3 f4 =>
      rw [show h'.get? t.1 = some o from e1] at f1
      cases f1
      rw [e3] at f3
      cases f3
      have := ints_reads rt (by simpa using f4)
      exact (map_int_inj this).symm
theorem rowsA_at {K : PySem.W.Frag} {H : Hp} : ∀ {ds : List D} {rows : List (List Int)} {vs : List V}, rowsOf ds = some rows → RDs K ρ H ds vs →
    ∃ ar : List (Addr × List Int), vs = ar.map (fun r => V.ref r.1) ∧ ar.map (·.2) = rows ∧ ∀ r ∈ ar, H r.1 = some (.tup (r.2.map V.int)) ∧ r.1 ∉ ρ.all
  | [], rows, vs, h1, q => by
    cases (show some [] = some rows from h1)
    unfold RDs at q
    subst q
    exact ⟨[], rfl, rfl, fun r hr => by cases hr⟩
  | d :: ds, rows, vs, h1, q => by
    unfold RDs at q
    obtain ⟨v, t, rfl, q1, q2⟩ := q
    unfold rowsOf at h1
    rw [List.mapM_cons] at h1
    cases e1 : rowOf d with
    | none => rw [e1] at h1; cases h1
    | some r =>
      cases e2 : ds.mapM rowOf with
      | none => rw [e1, e2] at h1; cases h1
      | some rs =>
        rw [e1, e2] at h1
        cases (show some (r :: rs) = some rows from h1)
        obtain ⟨a, rfl, ha, hn⟩ := rowOf_at e1 q1
        obtain ⟨ar, rfl, g2, g4⟩ := rowsA_at (show rowsOf ds = some rs from e2) q2
        refine ⟨(a, r) :: ar, rfl, by rw [List.map_cons, g2], fun x hx => ?_⟩
        rcases List.mem_cons.mp hx with rfl | hx
        · exact ⟨ha, hn⟩
        · exact g4 x hx
def vMin3 : VL := fun ds S => match ds with
  | [x] => (match listOf S x with
    | some xs => (match rowsOf xs with
      | some (r :: rs) => .ok (encRow (minR r rs)) S
      | _ => vMin2 ds S)
    | none => vMin2 ds S)
  | _ => vMin2 ds S
theorem cb_min3 (hc : X.calm = true) (hu : X.A.units + 100 < cLine) : CallR X (.builtin "min") (wL X.K cl E vMin3) := by
  refine CallR.cases fun vs H Q z h => ?_
  obtain ⟨ρ, S, ds, rs, rd, h⟩ := h
  have old : OKo X.K cl E ρ H (RD X.K) Q (vMin2 ds S) → ∃ r, CallR X (.builtin "min") r ∧ r vs H fun v H' => Siz H' → Q v H' := fun h => ⟨_, cb_min2 hc, ρ, S, ds, rs, rd, OKo.mono h fun v H1 z q _ => q⟩
  unfold vMin3 at h
  split at h
  · rename_i x
    split at h
    · rename_i xs hx
      split at h
      · rename_i r q hr
        obtain ⟨v, rfl, rx⟩ := rd.one
        obtain ⟨l, us, rfl, hl, qs⟩ := list_at rs hx rx
        obtain ⟨ar, rfl, e2, h4⟩ := rowsA_at hr qs
        cases ar with
        | nil => cases e2
        | cons t ar =>
          rw [List.map_cons] at e2
          injection e2 with e2 e3
          subst e2 e3
          refine ⟨_, cr_minR hc hu, l, t, ar, rfl, SqL.of hl, fun q hq => (h4 q hq).1, fun q hq e z' => ?_⟩
          refine h ρ H _ Grow.refl rs ?_ z'
          rw [← e]
          unfold encRow RD
          exact ⟨q.1, _, rfl, h4 q hq, ints_rds _⟩
      · exact old h
    · exact old h
  · exact old h
end
end Mir
end

section
set_option Elab.async false
set_option linter.all false
set_option maxRecDepth 100000
/-! Mir7: the functions that expressions denote. -/
namespace Mir
open PySem PySem.Spec L2

/-- what the text's top tells: the defs' functions, whole numbers, the errors' classes; marks by places: which lists are changed later, which dicts bear tuples as keys -/
structure Gx where
  fns : List (Str × FSem)
  nums : List (Str × Int)
  exc : List (Str × Nat)
  mt : Pos → Bool
  dt : Pos → Bool
  wf : Nat
  lam : List (Str × Nat × LK) := []
  lb : Scope → Expr → SE := fun _ _ => mBad
  key : Bool := false
def slotN (N : List Str) (x : Str) : Option Nat := N.findIdx? fun y => decide (y = x)
def globB (sc : Scope) (x : Str) : Bool := decide (sc.names.lookup x = some .globalImplicit) && decide (x ≠ "__debug__")
def visB (sc : Scope) (x : Str) : Bool := (match sc.names.lookup x with
  | some .local => true
  | some .cell => true
  | some .free => true
  | _ => false) && (!(x == ("__debug__" : Str)) && !(x == ("__classdict__" : Str)))
def isStar : Expr → Bool
  | .Starred _ _ => true
  | _ => false
def isSet : Expr → Bool
  | .Set _ _ _ => true
  | _ => false
def isTuple : Expr → Bool
  | .Tuple _ _ _ => true
  | _ => false
def isSlice : Expr → Bool
  | .Slice _ _ _ _ => true
  | _ => false
def isCall0 : Expr → Bool
  | .Call _ [] _ _ => true
  | _ => false
/-- its test is its value's truth -/
def plainT : Expr → Bool
  | .UnaryOp .Not _ _ => false
  | .BoolOp _ _ _ => false
  | .IfExp _ _ _ _ => false
  | .Compare _ _ _ _ => false
  | _ => true
def binV (mt : Bool) : Operator → Option V2
  | .Add => some (vAdd mt)
  | .Sub => some vSub
  | .Mult => some (vMul mt)
  | .FloorDiv => some vDiv
  | .Mod => some vMod
  | .Pow => some vPow
  | .LShift => some vShl
  | .RShift => some vShr
  | .BitAnd => some vAnd
  | .BitOr => some vOr
  | .BitXor => some vXor
  | _ => none
def cmpV : CmpOp → V2
  | .Eq => vEqS
  | .NotEq => vNeS
  | .Lt => vLt
  | .LtE => vLe
  | .Gt => vGt
  | .GtE => vGe
  | .Is => vIs
  | .IsNot => vIsNot
  | .In => vIn
  | .NotIn => vNotIn
inductive Blt where
  | len | abs | int | sum | max | min | any | all | list | tuple | sorted | repr
def bltOf (x : Str) : Option Blt :=
  if x = "len" then some .len else if x = "abs" then some .abs else if x = "int" then some .int else if x = "sum" then some .sum else if x = "max" then some .max else
  if x = "min" then some .min else if x = "any" then some .any else if x = "all" then some .all else if x = "list" then some .list else if x = "tuple" then some .tuple else if x = "sorted" then some .sorted else if x = "repr" then some .repr else none
def bltV (mt : Bool) : Blt → VL
  | .len => vLen
  | .abs => vAbs
  | .int => vIntC
  | .sum => vSum2
  | .max => vMax2
  | .min => vMin3
  | .any => vAnyAll false
  | .all => vAnyAll true
  | .list => vList mt
  | .tuple => vTuple
  | .sorted => vSorted mt
  | .repr => vRepr
/-- the built-in names that the text must leave alone -/
def bltNames : List Str := ["len", "abs", "int", "sum", "max", "min", "any", "all", "list", "tuple", "sorted", "range", "isinstance", "enumerate", "zip", "dict", "set", "repr", "bool", "str", "ValueError"]
def ownOf (N : List Str) (scope : Scope) : List (Str × Nat) := scope.names.filterMap fun p => match p.2 with
  | .local => (slotN N p.1).map fun i => (p.1, i)
  | .cell => (slotN N p.1).map fun i => (p.1, i)
  | _ => none
/-- methods of lists that change them, by their name and number of arguments -/
def vAppend (c : D) (ds : List D) (S : Store) : Out D := match c, ds with
  | .ref n, [d] => match S[n]? with
    | some (.lst xs) => if Nat.ble xs.length 16000000 then .ok .non (S.set n (.lst (xs ++ [d]))) else .bad
    | _ => .bad
  | _, _ => .bad
def vPop (c : D) (ds : List D) (S : Store) : Out D := match c, ds with
  | .ref n, [] => match S[n]? with
    | some (.lst xs) => match xs[xs.length - 1]? with
      | some d => .ok d (S.set n (.lst xs.dropLast))
      | none => .bad
    | _ => .bad
  | _, _ => .bad
inductive Mtd where
  | append | pop
def mtdOf (x : Str) (n : Nat) : Option Mtd :=
  if x = "append" ∧ n = 1 then some .append else if x = "pop" ∧ n = 0 then some .pop else none
def mtdV : Mtd → D → List D → Store → Out D
  | .append => vAppend
  | .pop => vPop
def mMtd (f : D → List D → Store → Out D) (o : SE) (as : SA) : SE := fun env S => (o env S).bind fun c S1 => match listOf S1 c with
  | some _ => (as env S1).bind fun ds S2 => f c ds S2
  | none => .bad
def mGet (o k x : SE) : SE := fun env S => (o env S).bind fun c S1 => match c with
  | .ref n => match S1[n]? with
    | some (.dic t _) => (k env S1).bind fun kd S2 => (x env S2).bind fun xd S3 => match S3[n]? with
      | some (.dic t2 kvs) => if isKey t2 kd then .ok ((dLook t2 kvs kd).getD xd) S3 else .bad
      | _ => .bad
    | _ => .bad
  | _ => .bad
/-- list(range(..)), tuple(range(..)) -/
def mRgL (tup mt : Bool) (as : SA) : SE := fun env S => (as env S).bind fun xs S1 => match xs with
  | [.int j] => if rngOk j && Nat.ble j.toNat 16777216 then (if tup then .ok (.tup (rangeD 0 j.toNat)) S1 else mkL mt (rangeD 0 j.toNat) S1) else .bad
  | [.int i, .int j] => if rngOk i && rngOk j && Nat.ble (j - i).toNat 16777216 then (if tup then .ok (.tup (rangeD i (j - i).toNat)) S1 else mkL mt (rangeD i (j - i).toNat) S1) else .bad
  | _ => .bad

section
variable (Γ : Gx) (N : List Str)
/-- a name -/
def dName (sc : Scope) (x : Str) : SE := if visB sc x then (match slotN N x with
    | some i => mVar i
    | none => mBad)
  else if globB sc x then (match Γ.nums.lookup x with
    | some i => mC (.int i)
    | none => mBad) else mBad
def dArgs (f : Expr → SE) : List Expr → SA
  | [] => mNil
  | e :: es => if isStar e then (fun _ _ => .bad) else mCons (f e) (dArgs f es)
def dAnd (t : Expr → ST) : List Expr → ST
  | [] => fun _ _ => .bad
  | [e] => t e
  | e :: es => mAndT (t e) (dAnd t es)
def dOr (t : Expr → ST) : List Expr → ST
  | [] => fun _ _ => .bad
  | [e] => t e
  | e :: es => mOrT (t e) (dOr t es)
def dAndV (f : Expr → SE) : List Expr → SE
  | [] => mBad
  | [e] => f e
  | e :: es => mAndV (f e) (dAndV f es)
def dOrV (f : Expr → SE) : List Expr → SE
  | [] => mBad
  | [e] => f e
  | e :: es => mOrV (f e) (dOrV f es)
def owB (ow : Option (List Nat)) (i : Nat) : Bool := match ow with
  | none => true
  | some vs => vs.contains i
/-- targets of names alone; ow: the comprehension's own slots -/
def dTgt (sc : Scope) (fb : Str → Bool) (ow : Option (List Nat)) (fs : Expr → SE) : Nat → Expr → SG
  | 0, _ => fun _ _ _ => .bad
  | n + 1, e => match e with
    | .Name x _ => match slotN N x with
      | some i => if (decide (sc.names.lookup x = some .local) || (decide (sc.names.lookup x = some .cell) && fb x)) && owB ow i then gSet i else fun _ _ _ => .bad
      | none => fun _ _ _ => .bad
    | .Tuple es _ _ => if es.any isStar then (fun _ _ _ => .bad) else gTupD es.length (es.foldr (fun e g => gMore (dTgt sc fb ow fs n e) g) gNone)
    | .Subscript o i _ => if isSlice i then (fun _ _ _ => .bad) else gSubD (fs o) (fs i)
    | _ => fun _ _ _ => .bad
def dIter (sc : Scope) (fs : Expr → SE) (tg e : Expr) : Env → Store → Out Src := match e with
  | .Call (.Name x _) [a] [] _ => if x = "range" then (if globB sc x && !isStar a then mRange1 (mCons (fs a) mNil) else fun _ _ => .bad)
    else if x = "enumerate" then (if globB sc x && (!isStar a && isTuple tg) then mEnumA (mCons (fs a) mNil) else fun _ _ => .bad) else mSrc (fs e)
  | .Call (.Name x _) [a, c, d] [] _ => if x = "range" then (if globB sc x && (!isStar a && (!isStar c && !isStar d)) then mRange3 (mCons (fs a) (mCons (fs c) (mCons (fs d) mNil))) else fun _ _ => .bad) else mSrc (fs e)
  | .Call (.Name x _) [a, c] [] _ => if x = "range" then (if globB sc x && (!isStar a && !isStar c) then mRange2 (mCons (fs a) (mCons (fs c) mNil)) else fun _ _ => .bad)
    else if x = "zip" then (if globB sc x && ((!isStar a && !isStar c) && isTuple tg) then mZip (mCons (fs a) (mCons (fs c) mNil)) else fun _ _ => .bad) else mSrc (fs e)
  | _ => if isSet e then (fun _ _ => .bad) else mSrc (fs e)
def dIfs (ft : Expr → ST) : List Expr → ST
  | [] => fun _ S => .ok true S
  | [t] => ft t
  | _ => fun _ _ => .bad
def dLC (mt : Bool) (sc : Scope) (fs : Expr → SE) (fe : Scope → Expr → SE) (ft : Scope → Expr → ST) (elt : Expr) (c : Comprehension) (scope : Scope) : SE :=
  if blkC N sc scope (ownOf N scope) && (decide (c.is_async = 0) && !isSet c.iter) then
    mLC ((ownOf N scope).map (·.2)) mt (dIter sc fs c.target c.iter) (dTgt N (relS scope sc) (fun x => scope.names.lookup x == some .cell) (some ((ownOf N scope).map (·.2))) (fun _ => mBad) 3 c.target) (dIfs (ft (relS scope sc)) c.ifs) (fe (relS scope sc) elt)
  else mBad
def tgSlots : Expr → List Nat
  | .Name x _ => (slotN N x).toList
  | .Tuple es _ _ => es.flatMap fun e => match e with
    | .Name x _ => (slotN N x).toList
    | _ => []
  | _ => []
def dLC2 (mt : Bool) (sc : Scope) (fs : Expr → SE) (fe : Scope → Expr → SE) (ft : Scope → Expr → ST) (elt : Expr) (c c1 : Comprehension) (scope : Scope) : SE :=
  if blkC N sc scope (ownOf N scope) && ((decide (c.is_async = 0) && !isSet c.iter) && ((decide (c1.is_async = 0) && !isSet c1.iter) && (tgSlots N c1.target).all fun i => ((ownOf N scope).map (·.2)).contains i)) then
    mLC2 ((ownOf N scope).map (·.2)) (tgSlots N c1.target) mt (dIter sc fs c.target c.iter) (dTgt N (relS scope sc) (fun x => scope.names.lookup x == some .cell) (some ((ownOf N scope).map (·.2))) (fun _ => mBad) 3 c.target) (dIfs (ft (relS scope sc)) c.ifs)
      (dIter (relS scope sc) (fe (relS scope sc)) c1.target c1.iter) (dTgt N (relS scope sc) (fun x => scope.names.lookup x == some .cell) (some (tgSlots N c1.target)) (fun _ => mBad) 3 c1.target) (dIfs (ft (relS scope sc)) c1.ifs) (fe (relS scope sc) elt)
  else mBad
def dDC (t : Bool) (sc : Scope) (fs : Expr → SE) (fe : Scope → Expr → SE) (ft : Scope → Expr → ST) (k v : Expr) (c : Comprehension) (scope : Scope) : SE :=
  if blkC N sc scope (ownOf N scope) && (decide (c.is_async = 0) && !isSet c.iter) then
    mDC ((ownOf N scope).map (·.2)) t (dIter sc fs c.target c.iter) (dTgt N (relS scope sc) (fun x => scope.names.lookup x == some .cell) (some ((ownOf N scope).map (·.2))) (fun _ => mBad) 3 c.target) (dIfs (ft (relS scope sc)) c.ifs) (fe (relS scope sc) k) (fe (relS scope sc) v)
  else mBad
def dCmp (f : Expr → SE) (a : Expr) (ops : List CmpOp) (cs : List Expr) : SE := match ops, cs with
  | [op], [c] => if isSet c then mBad else m2 (cmpV op) (f a) (f c)
  | [op, op2, op3], [c, c2, c3] => if isSet c3 then mBad else mChain3 (cmpV op) (cmpV op2) (cmpV op3) (f a) (f c) (f c2) (f c3)
  | [op, op2], [c, c2] => if isSet c || isSet c2 then mBad else mChain (cmpV op) (cmpV op2) (f a) (f c) (f c2)
  | _, _ => mBad
/-- isinstance(e, T) -/
def dIsi (sc : Scope) (f : Expr → SE) (es : List Expr) : SE := match es with
  | [a, .Name x _] => if globB sc x && !isStar a then (match tyOf x with
    | some t => mIs t (f a)
    | none => mBad) else mBad
  | _ => mBad
/-- list(range(e)), tuple(range(e)) -/
def rgArg : List Expr → Option Expr
  | [.Call (.Name x _) [a] [] _] => if x = "range" then some a else none
  | _ => none
def dRg (sc : Scope) (mt : Bool) (f : Expr → SE) (x : Str) (a : Expr) : SE :=
  if globB sc x && (globB sc "range" && !isStar a) then (if x = "list" then mRg1 false mt (f a) else if x = "tuple" then mRg1 true mt (f a) else mBad) else mBad
def setArg : List Expr → Option Expr
  | [.Call (.Name x _) [a] [] _] => if x = "set" then some a else none
  | _ => none
def dSet (sc : Scope) (mt : Bool) (f : Expr → SE) (x : Str) (a : Expr) : SE :=
  if globB sc x && (globB sc "set" && !isStar a) then (if x = "sorted" then mSortSet mt (f a) else mBad) else mBad
/-- a lambda handed over, what stands ahead of it -/
def lamArg : List Expr → Option (List D × Arguments × Expr × Scope)
  | [.Lambda ps b sc _] => some ([], ps, b, sc)
  | [.Constant (.int i) _ _, .Lambda ps b sc _] => some ([.int i], ps, b, sc)
  | _ => none
def dLam (sc : Scope) (x : Str) (l : List D × Arguments × Expr × Scope) : SE :=
  if globB sc x && (lamBare l.2.1 && LamX.lamSB sc l.2.2.2) then (match Γ.lam.lookup x with
    | some (np, kd) => if l.1.length = np then mLam kd l.1 (Γ.lb l.2.2.2 l.2.2.1) else mBad
    | none => mBad) else mBad
/-- a lambda as the key -/
def keyArg : List Keyword → Option (Arguments × Expr × Scope)
  | [⟨some x, .Lambda ps b sc _, _⟩] => if x = "key" then some (ps, b, sc) else none
  | _ => none
def dKey (sc : Scope) (mt : Bool) (f : Expr → SE) (x : Str) (es : List Expr) (l : Arguments × Expr × Scope) : SE := match es with
  | [a] => if Γ.key && (decide (x = "sorted") && (globB sc x && !isStar a)) then (match keyPar l.1 with
    | some p => if keySB sc l.2.2 p && !(p == ("__debug__" : Str)) then mSortKey mt (dK N l.2.2 p 20 l.2.1) (f a) else mBad
    | none => mBad) else mBad
  | _ => mBad
def dCall (sc : Scope) (f : Expr → SE) (g : Expr) (es : List Expr) (ks : List Keyword) (pos : Pos) : SE := match g with
  | .Name x _ => match keyArg ks with
    | some l => dKey Γ N sc (Γ.mt pos) f x es l
    | none => if x = "isinstance" then (if ks.isEmpty && globB sc x then dIsi sc f es else mBad) else match setArg es with
    | some a => if ks.isEmpty then dSet sc (Γ.mt pos) f x a else mBad
    | none => match rgArg es with
    | some a => if ks.isEmpty then dRg sc (Γ.mt pos) f x a else mBad
    | none => match lamArg es with
    | some l => if ks.isEmpty then dLam Γ sc x l else mBad
    | none => if ks.isEmpty && (globB sc x && (!es.isEmpty && !es.any isStar)) then (match Γ.fns.lookup x with
    | some g => mCall g (dArgs f es)
    | none => match bltOf x with
      | some bl => mCall (bltV (Γ.mt pos) bl) (dArgs f es)
      | none => mBad) else mBad
  | .Attribute o m apos => if ks.isEmpty && (!isCall0 o && (!es.any isStar && ((apos.endLine == pos.line) && Nat.ble es.length 19))) then (if m = "join" then (match es with
    | [a] => mJoin (f o) (f a)
    | _ => mBad) else match mtdOf m es.length with
    | some mt => mMtd (mtdV mt) (f o) (dArgs f es)
    | none => mBad) else mBad
  | _ => mBad
mutual
def dE : Nat → Scope → Expr → SE
  | 0, _, _ => mBad
  | n + 1, sc, e => match e with
    | .Name x _ => dName Γ N sc x
    | .Constant c _ _ => match c with
      | .int i => mC (.int i)
      | .bool k => mC (.bl k)
      | .none => mC .non
      | .str x => mC (.str x)
      | _ => mBad
    | .BinOp l op r pos => match binV (Γ.mt pos) op with
      | some f => m2 f (dE n sc l) (dE n sc r)
      | none => mBad
    | .UnaryOp op a _ => match op with
      | .USub => m1 vNeg (dE n sc a)
      | .Not => mNotV (dE n sc a)
      | _ => mBad
    | .BoolOp op es _ => match op with
      | .And => dAndV (dE n sc) es
      | .Or => dOrV (dE n sc) es
    | .IfExp t a c _ => mIf (dT n sc t) (dE n sc a) (dE n sc c)
    | .Compare a ops cs _ => dCmp (dE n sc) a ops cs
    | .Tuple es _ _ => mTup (dArgs (dE n sc) es)
    | .List es pos => mLst (Γ.mt pos) (dArgs (dE n sc) es)
    | .Dict ks vs pos => match ks, vs with
      | [], [] => mDic (Γ.dt pos)
      | [some k], [v] => mDisp1 (dE n sc k) (dE n sc v)
      | _, _ => mBad
    | .Subscript a i pos => match i with
      | .Slice lo hi st _ => match st with
        | none => mSl (Γ.mt pos) (dE n sc a) (lo.map (dE n sc)) (hi.map (dE n sc))
        | some s => match lo, hi, s with
          | none, none, .UnaryOp .USub (.Constant (.int i) _ _) _ => if i = 1 then mRev (Γ.mt pos) (dE n sc a) else mBad
          | _, _, _ => mBad
      | _ => m2 vIx (dE n sc a) (dE n sc i)
    | .Call f es ks pos => dCall Γ N sc (dE n sc) f es ks pos
    | .DictComp k v gs scope pos => match gs with
      | [c] => dDC N (Γ.dt pos) sc (dE n sc) (dE n) (dT n) k v c scope
      | _ => mBad
    | .ListComp elt gs scope pos => match gs with
      | [c] => dLC N (Γ.mt pos) sc (dE n sc) (dE n) (dT n) elt c scope
      | [c, c1] => dLC2 N (Γ.mt pos) sc (dE n sc) (dE n) (dT n) elt c c1 scope
      | _ => mBad
    | _ => mBad
def dT : Nat → Scope → Expr → ST
  | 0, _, _ => fun _ _ => .bad
  | n + 1, sc, e => match e with
    | .UnaryOp .Not a _ => mNotT (dT n sc a)
    | .BoolOp op es _ => match op with
      | .And => dAnd (dT n sc) es
      | .Or => dOr (dT n sc) es
    | .Compare a ops cs _ => mTst (dCmp (dE n sc) a ops cs)
    | .IfExp _ _ _ _ => fun _ _ => .bad
    | _ => mTru (dE n sc e)
end
end
end Mir
end

section
set_option Elab.async false
set_option linter.all false
set_option maxRecDepth 100000
set_option maxHeartbeats 2000000
/-! Mir8: the expressions' functions are what they do. -/
namespace Mir
open PySem PySem.Spec L2

theorem slot_ix {N : List Str} {x : Str} {i : Nat} (h : slotN N x = some i) : N[i]? = some x := by
  unfold slotN at h
  obtain ⟨h1, h2⟩ := List.findIdx?_eq_some_iff_getElem.mp h
  obtain ⟨h2, _⟩ := h2
  rw [List.getElem?_eq_getElem h1]
  exact congrArg some (of_decide_eq_true h2)
theorem vis_of {sc : Scope} {x : Str} (h : visB sc x = true) : Vis sc x ∧ (x == ("__debug__" : Str)) = false ∧ (x == ("__classdict__" : Str)) = false := by
  unfold visB at h
  rw [Bool.and_eq_true, Bool.and_eq_true] at h
  obtain ⟨h1, h2, h3⟩ := h
  refine ⟨?_, by simpa using h2, by simpa using h3⟩
  split at h1
  · rename_i e; exact .inl e
  · rename_i e; exact .inr (.inl e)
  · rename_i e; exact .inr (.inr e)
  · cases h1
theorem star_one {e : Expr} {es : List Expr} {env : PySem.Env} (h : isStar e = false) : starEach (e :: es) env = (false, eval e env) :: starEach es env := by
  cases e <;> first | rfl | cases h
theorem star_plain {env : PySem.Env} {pos : Pos} : ∀ {es : List Expr}, es.any isStar = false → (backTo pos (starEach es env)).any (·.1) = false ∧ (backTo pos (starEach es env)).all (fun x => !x.1) = true
  | [], _ => ⟨rfl, rfl⟩
  | e :: es, h => by
    rw [List.any_cons, Bool.or_eq_false_iff] at h
    obtain ⟨h1, h2⟩ := star_plain (env := env) (pos := pos) h.2
    rw [star_one h.1]
    refine ⟨?_, ?_⟩
    · show (false || (backTo pos (starEach es env)).any (·.1)) = false
      rw [h1]; rfl
    · show (!false && (backTo pos (starEach es env)).all (fun x => !x.1)) = true
      rw [h2]; rfl
theorem assign_one {e : Expr} {es : List Expr} {env : PySem.Env} (h : isStar e = false) : assignEach (e :: es) env = (false, assign e env) :: assignEach es env := by
  cases e <;> first | rfl | cases h
theorem assign_plain {env : PySem.Env} : ∀ {es : List Expr}, es.any isStar = false → (assignEach es env).length = es.length ∧ (assignEach es env).findIdx? (·.1) = none
  | [], _ => ⟨rfl, rfl⟩
  | e :: es, h => by
    rw [List.any_cons, Bool.or_eq_false_iff] at h
    obtain ⟨h1, h2⟩ := assign_plain (env := env) h.2
    rw [assign_one h.1]
    refine ⟨by simp [h1], ?_⟩
    rw [List.findIdx?_cons]
    simp [h2]
theorem behind_ok {op : CmpOp} {e : Expr} (h : isSet e = false) : behindInMarks op e = false := by
  cases e <;> first | rfl | cases h
theorem folded_ok {e : Expr} {env : PySem.Env} (h : isSet e = false) : ∀ x, foldedSetIterable e env x = pure x := by
  intro x
  cases e <;> first | rfl | cases h
theorem base_ok {o : Expr} {m : Str} {env : PySem.Env} {whole : Sem Value} (h : isCall0 o = false) : attributeBase o m env whole = whole := by
  cases o with
  | Call f es ks pos =>
    cases es with
    | nil => cases h
    | cons a b => cases f <;> rfl
  | _ => rfl
theorem slice_ok {i : Expr} (h : isSlice i = false) (v u : Value) : subscripted i false v u = operate [v, u] (getItem v u) := by
  cases i <;> first | rfl | cases h
theorem truth_ok {e : Expr} {env : PySem.Env} (h : plainT e = true) : ∀ whole, isTrue e env whole = (do let v ← whole; standAt e.pos; holding [v] (truthy v)) := by
  intro w
  cases e with
  | UnaryOp op a p => cases op <;> first | rfl | cases h
  | BoolOp _ _ _ => cases h
  | IfExp _ _ _ _ => cases h
  | Compare _ _ _ _ => cases h
  | _ => rfl

/-- where the text stands -/
structure Cond0 (X : Cx) (Γ : Gx) (cl : Nat → Addr) (E : XK) (N : List Str) (sc : Scope) (fb : Str → Bool) (k : Nat) : Prop where
  eN : X.N = N
  nd : N.Nodup
  eS : X.env.scope = sc
  calm : X.calm = true
  room : Room k X.A
  gd : X.A.guards = some []
  tk : Takes X (fun c d _ H => E c d H)
  fns : ∀ x f, Γ.fns.lookup x = some f → Cal X.prog X.w X.K X.mg X.base cl k x f
  nums : ∀ x i, Γ.nums.lookup x = some i → ∃ t, X.mg x = some (.int i t)
  free : ∀ x ∈ bltNames, X.mg x = none
  hfb : ∀ x, fb x = true → X.fn x = true
/-- what lambdas lean on -/
structure LamK (X : Cx) (Γ : Gx) (cl : Nat → Addr) (N : List Str) (k : Nat) (x : Str) (np : Nat) (kd : LK) : Prop where
  here : LamAt X
  ex : ∃ j, LamCal X.prog X.w X.K X.mg X.base cl j k x np kd ∧ (∀ y f, Γ.fns.lookup y = some f → Cal X.prog X.w X.K X.mg X.base cl j y f) ∧
    ∀ (X' : Cx) (E' : XK) (sc' : Scope), Cond0 X' Γ cl E' N sc' (fun _ => false) j → ∀ e, PE X' e (lE X'.K cl E' (Γ.lb sc' e))
structure Cond (X : Cx) (Γ : Gx) (cl : Nat → Addr) (E : XK) (N : List Str) (sc : Scope) (fb : Str → Bool) (k : Nat) : Prop extends Cond0 X Γ cl E N sc fb k where
  lam : ∀ x np kd, Γ.lam.lookup x = some (np, kd) → LamK X Γ cl N k x np kd
  key : Γ.key = true → LamAt X
section
variable {X : Cx} {Γ : Gx} {cl : Nat → Addr} {E : XK} {N : List Str} {sc : Scope} {fb : Str → Bool} {k : Nat}
theorem Cond.u (C : Cond X Γ cl E N sc fb k) : X.A.units + 65 < cLine := by have := C.room.units; have := C.room.un; omega
theorem pe_bad {e : Expr} : PE X e (lE X.K cl E mBad) := ⟨fun _ _ _ _ _ _ ⟨_, _, _, _, _, h⟩ => h.elim⟩
theorem pt_bad {e : Expr} : PT X e (lT X.K cl E fun _ _ => .bad) := ⟨fun _ _ _ _ _ _ ⟨_, _, _, _, _, h⟩ => h.elim⟩
theorem pw_bad {e : Expr} : PW X e (lT X.K cl E fun _ _ => .bad) := ⟨fun _ _ _ _ _ _ _ ⟨_, _, _, _, _, h⟩ => h.elim⟩
theorem pa_bad {e : List Expr} : PA X e (lA X.K cl E fun _ _ => .bad) := ⟨fun _ _ _ _ _ _ _ ⟨_, _, _, _, _, h⟩ => h.elim⟩
theorem pg_bad {e : Expr} {ow : Option (List Nat)} : PG X e (lG X.K cl E ow fun _ _ _ => .bad) := ⟨fun _ _ _ _ _ _ _ _ _ ⟨_, _, _, _, _, _, _, h⟩ => h.elim⟩
theorem pi_bad {tg e : Expr} : PI X tg e (lI X.K cl E fun _ _ => .bad) := ⟨fun _ _ _ _ _ _ ⟨_, _, _, _, _, h⟩ => h.elim⟩
theorem glob_of (C : Cond X Γ cl E N sc fb k) {x : Str} (h : globB sc x = true) : Gl X x ∧ (x == ("__debug__" : Str)) = false := by
  unfold globB at h
  rw [Bool.and_eq_true] at h
  refine ⟨?_, by simpa using of_decide_eq_true h.2⟩
  show X.env.scope.names.lookup x = _
  rw [C.eS]
  exact of_decide_eq_true h.1
theorem dName_ok (C : Cond X Γ cl E N sc fb k) {x : Str} {pos : Pos} : PE X (.Name x pos) (lE X.K cl E (dName Γ N sc x)) := by
  unfold dName
  split
  · rename_i hv
    obtain ⟨h1, h2, h3⟩ := vis_of hv
    split
    · rename_i i hi
      exact c_var (by rw [C.eN]; exact slot_ix hi) (by rw [C.eS]; exact h1) h2 h3
    · exact pe_bad
  · split
    · rename_i hg
      obtain ⟨g1, g2⟩ := glob_of C hg
      split
      · rename_i i hi
        obtain ⟨t, ht⟩ := C.nums x i hi
        exact c_val (pe_glob (v := .int i) g1 ht ⟨t, rfl⟩ g2) fun _ _ => RD.int
      · exact pe_bad
    · exact pe_bad
theorem dArgs_ok {f : Expr → SE} (hf : ∀ e, PE X e (lE X.K cl E (f e))) : ∀ es : List Expr, PA X es (lA X.K cl E (dArgs f es))
  | [] => c_nil
  | e :: es => by
    unfold dArgs
    split
    · exact pa_bad
    · rename_i h
      exact c_cons (hf e) (dArgs_ok hf es) (star_one (by simpa using h))
theorem dAnd_ok {t : Expr → ST} (ht : ∀ e, PT X e (lT X.K cl E (t e))) {pos : Pos} : ∀ es : List Expr, PW X (.BoolOp .And es pos) (lT X.K cl E (dAnd t es))
  | [] => pw_bad
  | [e] => c_and1 (ht e)
  | e :: e2 :: es => c_andT (ht e) (dAnd_ok ht (e2 :: es))
theorem dOr_ok {t : Expr → ST} (ht : ∀ e, PT X e (lT X.K cl E (t e))) {pos : Pos} : ∀ es : List Expr, PW X (.BoolOp .Or es pos) (lT X.K cl E (dOr t es))
  | [] => pw_bad
  | [e] => c_or1 (ht e)
  | e :: e2 :: es => c_orT (ht e) (dOr_ok ht (e2 :: es))
theorem dAndV_ok {f : Expr → SE} (hf : ∀ e, PE X e (lE X.K cl E (f e))) {pos : Pos} : ∀ es : List Expr, PE X (.BoolOp .And es pos) (lE X.K cl E (dAndV f es))
  | [] => pe_bad
  | [e] => pe_one (hf e)
  | e :: e2 :: es => c_andV (hf e) (dAndV_ok hf (e2 :: es))
theorem dOrV_ok {f : Expr → SE} (hf : ∀ e, PE X e (lE X.K cl E (f e))) {pos : Pos} : ∀ es : List Expr, PE X (.BoolOp .Or es pos) (lE X.K cl E (dOrV f es))
  | [] => pe_bad
  | [e] => pe_one (hf e)
  | e :: e2 :: es => c_orV (hf e) (dOrV_ok hf (e2 :: es))
theorem bin_ok (op : Operator) {mt : Bool} {f : V2} (h : binV mt op = some f) : OpR X (binaryOp op) (w2 X.K cl E f) := by
  cases op <;> first | (cases h; first | exact or_add | exact or_sub | exact or_mul | exact or_div | exact or_mod | exact or_pow | exact or_shl | exact or_shr | exact or_band | exact or_bor | exact or_bxor) | cases h
theorem cmp_ok (C : Cond X Γ cl E N sc fb k) (op : CmpOp) : OpR X (compareOp op) (w2 X.K cl E (cmpV op)) := by
  have u := C.u
  cases op
  · exact or_eqS u
  · exact or_neS u
  · exact or_lt (by omega)
  · exact or_le
  · exact or_gt
  · exact or_ge
  · exact or_is
  · exact or_isNot
  · exact or_in u
  · exact or_notIn u
theorem dTgt_ok (C : Cond X Γ cl E N sc fb k) {ow : Option (List Nat)} {fs : Expr → SE} (hf : ∀ e, PE X e (lE X.K cl E (fs e))) : ∀ (n : Nat) (e : Expr), PG X e (lG X.K cl E ow (dTgt N sc fb ow fs n e))
  | 0, _ => pg_bad
  | n + 1, e => by
    have u := C.u
    unfold dTgt
    split
    · split
      · rename_i x _ _ i hi
        split
        · rename_i hc
          rw [Bool.and_eq_true, Bool.or_eq_true, Bool.and_eq_true, decide_eq_true_eq, decide_eq_true_eq] at hc
          obtain ⟨h1, h2⟩ := hc
          refine g_name (by rw [C.eN]; exact C.nd) (by rw [C.eN]; exact slot_ix hi) ?_ ?_ fun vs e => ?_
          · rw [C.eS]
            rcases h1 with h | ⟨h, _⟩
            · exact .inl h
            · exact .inr h
          · rw [C.eS]
            rcases h1 with h | ⟨_, h⟩
            · exact .inr h
            · exact .inl (C.hfb _ h)
          · subst e
            exact List.contains_iff_mem.mp (show vs.contains i = true from h2)
        · exact pg_bad
      · exact pg_bad
    · rename_i es _ _
      split
      · exact pg_bad
      · rename_i hs
        replace hs : es.any isStar = false := by simpa using hs
        obtain ⟨h1, h2⟩ := assign_plain (env := X.env) hs
        refine g_tup C.calm ?_ h1 h2
        clear h1 h2
        induction es with
        | nil => exact g_nil
        | cons e es ih =>
          rw [List.any_cons, Bool.or_eq_false_iff] at hs
          rw [List.foldr_cons]
          exact g_cons (dTgt_ok C hf n e) (ih hs.2) (by rw [assign_one hs.1]; rfl)
    · split
      · exact pg_bad
      · rename_i o i _ hs
        refine g_sub (by omega) (hf o) (hf i) fun v => ?_
        cases i <;> first | rfl | exact absurd rfl hs
    · exact pg_bad
theorem dIter_ok (C : Cond X Γ cl E N sc fb k) {fs : Expr → SE} (hf : ∀ e, PE X e (lE X.K cl E (fs e))) {tg : Expr} (e : Expr) : PI X tg e (lI X.K cl E (dIter sc fs tg e)) := by
  have hr : X.mg "range" = none := C.free _ (List.mem_of_getElem? (i := 11) rfl)
  have hen : X.mg "enumerate" = none := C.free _ (List.mem_of_getElem? (i := 13) rfl)
  have hzi : X.mg "zip" = none := C.free _ (List.mem_of_getElem? (i := 14) rfl)
  unfold dIter
  split
  · rename_i x p a pos
    by_cases hx : x = "range"
    · rw [if_pos hx]
      subst hx
      split
      · rename_i hc
        simp only [Bool.and_eq_true, Bool.not_eq_true'] at hc
        obtain ⟨hg, s1⟩ := hc
        exact i_range1 (glob_of C hg).1 hr (c_cons (hf _) c_nil (star_one s1)) (by rw [star_one s1]; rfl)
      · exact pi_bad
    · rw [if_neg hx]
      by_cases hy : x = "enumerate"
      · rw [if_pos hy]
        subst hy
        split
        · rename_i hc
          simp only [Bool.and_eq_true, Bool.not_eq_true'] at hc
          obtain ⟨hg, s1, ht⟩ := hc
          cases tg with
          | Tuple _ _ _ => exact i_enumA (glob_of C hg).1 hen (c_cons (hf _) c_nil (star_one s1)) (by rw [star_one s1]; rfl)
          | _ => cases ht
        · exact pi_bad
      · rw [if_neg hy]
        exact i_value (hf _)
  · rename_i x p a c d pos
    by_cases hx : x = "range"
    · rw [if_pos hx]
      subst hx
      split
      · rename_i hc
        simp only [Bool.and_eq_true, Bool.not_eq_true'] at hc
        obtain ⟨hg, s1, s2, s3⟩ := hc
        refine i_range3 (glob_of C hg).1 hr (c_cons (hf _) (c_cons (hf _) (c_cons (hf _) c_nil (star_one s3)) (star_one s2)) (star_one s1)) (star_one s1) (star_plain ?_).1
        simp [s2, s3]
      · exact pi_bad
    · rw [if_neg hx]
      exact i_value (hf _)
  · rename_i x p a c pos
    by_cases hx : x = "range"
    · rw [if_pos hx]
      subst hx
      split
      · rename_i hc
        simp only [Bool.and_eq_true, Bool.not_eq_true'] at hc
        obtain ⟨hg, s1, s2⟩ := hc
        exact i_range2 (glob_of C hg).1 hr (c_cons (hf _) (c_cons (hf _) c_nil (star_one s2)) (star_one s1)) (by rw [star_one s1, star_one s2]; rfl) (by rw [star_one s2]; rfl)
      · exact pi_bad
    · rw [if_neg hx]
      by_cases hy : x = "zip"
      · rw [if_pos hy]
        subst hy
        split
        · rename_i hc
          simp only [Bool.and_eq_true, Bool.not_eq_true'] at hc
          obtain ⟨hg, ⟨s1, s2⟩, ht⟩ := hc
          cases tg with
          | Tuple _ _ _ => exact i_zip (glob_of C hg).1 hzi (c_cons (hf _) (c_cons (hf _) c_nil (star_one s2)) (star_one s1)) (star_one s1) (star_plain (by simp [s2])).1
          | _ => cases ht
        · exact pi_bad
      · rw [if_neg hy]
        exact i_value (hf _)
  · split
    · exact pi_bad
    · exact i_value (hf _)
theorem dIsi_ok (C : Cond X Γ cl E N sc fb k) {f : Expr → SE} (hf : ∀ e, PE X e (lE X.K cl E (f e))) {p pos : Pos} {es : List Expr} (hg : Gl X "isinstance") : PE X (.Call (.Name "isinstance" p) es [] pos) (lE X.K cl E (dIsi sc f es)) := by
  have hi : X.mg "isinstance" = none := C.free _ (List.mem_of_getElem? (i := 12) rfl)
  unfold dIsi
  split
  · rename_i a x q
    split
    · rename_i hc
      rw [Bool.and_eq_true, Bool.not_eq_true'] at hc
      obtain ⟨g1, g2⟩ := glob_of C hc.1
      split
      · rename_i t ht
        have key : bootBuiltins x = some (.type t.name) ∧ t ≠ .non ∧ X.mg x = none ∧ x ≠ "__name__" := by
          unfold tyOf at ht
          by_cases h : x = "int"
          · rw [if_pos h] at ht; subst h; cases ht; exact ⟨PyProof.Rows.boot_int, by decide, C.free _ (List.mem_of_getElem? (i := 2) rfl), by decide +kernel⟩
          rw [if_neg h] at ht; clear h
          by_cases h : x = "bool"
          · rw [if_pos h] at ht; subst h; cases ht; exact ⟨by decide +kernel, by decide, C.free _ (List.mem_of_getElem? (i := 18) rfl), by decide +kernel⟩
          rw [if_neg h] at ht; clear h
          by_cases h : x = "tuple"
          · rw [if_pos h] at ht; subst h; cases ht; exact ⟨PyProof.Rows.boot_tuple, by decide, C.free _ (List.mem_of_getElem? (i := 9) rfl), by decide +kernel⟩
          rw [if_neg h] at ht; clear h
          by_cases h : x = "list"
          · rw [if_pos h] at ht; subst h; cases ht; exact ⟨PyProof.Rows.boot_list, by decide, C.free _ (List.mem_of_getElem? (i := 8) rfl), by decide +kernel⟩
          rw [if_neg h] at ht; clear h
          by_cases h : x = "str"
          · rw [if_pos h] at ht; subst h; cases ht; exact ⟨by decide +kernel, by decide, C.free _ (List.mem_of_getElem? (i := 19) rfl), by decide +kernel⟩
          rw [if_neg h] at ht; cases ht
        obtain ⟨k1, k2, k3, k4⟩ := key
        exact c_isi k1 k2 k3 g1 k4 g2 hg hi (hf _) (star_one hc.2)
      · exact pe_bad
    · exact pe_bad
  · exact pe_bad
theorem blt_ok (C : Cond X Γ cl E N sc fb k) {x : Str} {p pos : Pos} {e : Expr} {es : List Expr} {mt : Bool} {bl : Blt} {as : SA} (h : bltOf x = some bl) (hg : Gl X x) (ha : PA X (e :: es) (lA X.K cl E as)) (hs : (e :: es).any isStar = false) :
    PE X (.Call (.Name x p) (e :: es) [] pos) (lE X.K cl E (mCall (bltV mt bl) as)) := by
  rw [List.any_cons, Bool.or_eq_false_iff] at hs
  have s1 := star_one (env := X.env) (es := es) hs.1
  have s2 := (star_plain (env := X.env) (pos := pos) hs.2).1
  have fr := fun y hy => C.free y hy
  have cm := C.calm
  unfold bltOf at h
  by_cases hx : x = "len"
  · rw [if_pos hx] at h; subst hx; cases h
    exact c_callB (pe_callB cb_len hg (fr _ (List.mem_of_getElem? (i := 0) rfl)) PySem.boot_len ha (by decide +kernel) (by decide +kernel) s1 s2)
  rw [if_neg hx] at h; clear hx
  by_cases hx : x = "abs"
  · rw [if_pos hx] at h; subst hx; cases h
    exact c_callB (pe_callB cb_abs hg (fr _ (List.mem_of_getElem? (i := 1) rfl)) PyProof.Rows.boot_abs ha (by decide +kernel) (by decide +kernel) s1 s2)
  rw [if_neg hx] at h; clear hx
  by_cases hx : x = "int"
  · rw [if_pos hx] at h; subst hx; cases h
    exact c_callB (pe_callTy cb_int hg (fr _ (List.mem_of_getElem? (i := 2) rfl)) PyProof.Rows.boot_int ha (by decide +kernel) (by decide +kernel) s1 s2)
  rw [if_neg hx] at h; clear hx
  by_cases hx : x = "sum"
  · rw [if_pos hx] at h; subst hx; cases h
    exact c_callB (pe_callB (cb_sum2 cm) hg (fr _ (List.mem_of_getElem? (i := 3) rfl)) PyProof.Rows.boot_sum ha (by decide +kernel) (by decide +kernel) s1 s2)
  rw [if_neg hx] at h; clear hx
  by_cases hx : x = "max"
  · rw [if_pos hx] at h; subst hx; cases h
    exact c_callB (pe_callB (cb_max2 cm) hg (fr _ (List.mem_of_getElem? (i := 4) rfl)) PyProof.Rows.boot_max ha (by decide +kernel) (by decide +kernel) s1 s2)
  rw [if_neg hx] at h; clear hx
  by_cases hx : x = "min"
  · rw [if_pos hx] at h; subst hx; cases h
    exact c_callB (pe_callB (cb_min3 cm (by have := C.room.un; omega)) hg (fr _ (List.mem_of_getElem? (i := 5) rfl)) PyProof.Rows.boot_min ha (by decide +kernel) (by decide +kernel) s1 s2)
  rw [if_neg hx] at h; clear hx
  by_cases hx : x = "any"
  · rw [if_pos hx] at h; subst hx; cases h
    exact c_callB (pe_callB (cb_anyAll (all := false) cm) hg (fr _ (List.mem_of_getElem? (i := 6) rfl)) PyProof.Rows.boot_any ha (by decide +kernel) (by decide +kernel) s1 s2)
  rw [if_neg hx] at h; clear hx
  by_cases hx : x = "all"
  · rw [if_pos hx] at h; subst hx; cases h
    exact c_callB (pe_callB (cb_anyAll (all := true) cm) hg (fr _ (List.mem_of_getElem? (i := 7) rfl)) PyProof.Rows.boot_all ha (by decide +kernel) (by decide +kernel) s1 s2)
  rw [if_neg hx] at h; clear hx
  by_cases hx : x = "list"
  · rw [if_pos hx] at h; subst hx; cases h
    exact c_callB (pe_callTy cb_list hg (fr _ (List.mem_of_getElem? (i := 8) rfl)) PyProof.Rows.boot_list ha (by decide +kernel) (by decide +kernel) s1 s2)
  rw [if_neg hx] at h; clear hx
  by_cases hx : x = "tuple"
  · rw [if_pos hx] at h; subst hx; cases h
    exact c_callB (pe_callTy cb_tuple hg (fr _ (List.mem_of_getElem? (i := 9) rfl)) PyProof.Rows.boot_tuple ha (by decide +kernel) (by decide +kernel) s1 s2)
  rw [if_neg hx] at h; clear hx
  by_cases hx : x = "sorted"
  · rw [if_pos hx] at h; subst hx; cases h
    exact c_callB (pe_callB cb_sorted hg (fr _ (List.mem_of_getElem? (i := 10) rfl)) PyProof.Rows.boot_sorted ha (by decide +kernel) (by decide +kernel) s1 s2)
  rw [if_neg hx] at h; clear hx
  by_cases hx : x = "repr"
  · rw [if_pos hx] at h; subst hx; cases h
    exact c_callB (pe_callB (cb_repr C.u C.gd) hg (fr _ (List.mem_of_getElem? (i := 17) rfl)) PyProof.Rows.boot_repr ha (by decide +kernel) (by decide +kernel) s1 s2)
  rw [if_neg hx] at h; cases h
theorem dSet_ok (C : Cond X Γ cl E N sc fb k) {f : Expr → SE} (hf : ∀ e, PE X e (lE X.K cl E (f e))) {mt : Bool} {x : Str} {a : Expr} {es : List Expr} {p pos : Pos} (h : setArg es = some a) : PE X (.Call (.Name x p) es [] pos) (lE X.K cl E (dSet sc mt f x a)) := by
  unfold setArg at h
  split at h
  · rename_i y p2 b pos2
    split at h
    · rename_i hy
      subst hy
      cases h
      unfold dSet
      split
      · rename_i hc
        simp only [Bool.and_eq_true, Bool.not_eq_true'] at hc
        obtain ⟨g1, g2, g3⟩ := hc
        split
        · rename_i hx
          subst hx
          exact c_sortSet C.calm (glob_of C g1).1 (C.free _ (List.mem_of_getElem? (i := 10) rfl)) (glob_of C g2).1 (C.free _ (List.mem_of_getElem? (i := 16) rfl)) (hf _) (star_one g3)
        · exact pe_bad
      · exact pe_bad
    · cases h
  · cases h
theorem dRg_ok (C : Cond X Γ cl E N sc fb k) {f : Expr → SE} (hf : ∀ e, PE X e (lE X.K cl E (f e))) {mt : Bool} {x : Str} {a : Expr} {es : List Expr} {p pos : Pos} (h : rgArg es = some a) : PE X (.Call (.Name x p) es [] pos) (lE X.K cl E (dRg sc mt f x a)) := by
  unfold rgArg at h
  split at h
  · rename_i y p2 b pos2
    split at h
    · rename_i hy
      subst hy
      cases h
      unfold dRg
      split
      · rename_i hc
        simp only [Bool.and_eq_true, Bool.not_eq_true'] at hc
        obtain ⟨g1, g2, g3⟩ := hc
        have G1 := (glob_of C g1).1
        have G2 := (glob_of C g2).1
        have r0 : X.mg "range" = none := C.free _ (List.mem_of_getElem? (i := 11) rfl)
        split
        · rename_i hx
          subst hx
          exact c_rg1 (tup := false) C.calm G2 r0 G1 (C.free _ (List.mem_of_getElem? (i := 8) rfl)) (hf _) (star_one g3)
        · split
          · rename_i hx
            subst hx
            exact c_rg1 (tup := true) C.calm G2 r0 G1 (C.free _ (List.mem_of_getElem? (i := 9) rfl)) (hf _) (star_one g3)
          · exact pe_bad
      · exact pe_bad
    · cases h
  · cases h
end
end Mir
end

section
set_option Elab.async false
set_option linter.all false
set_option maxRecDepth 100000
set_option maxHeartbeats 4000000
/-! Mir9: methods; all expressions. -/
namespace Mir
open PySem PySem.Spec L2
section
variable {X : Cx} {Γ : Gx} {cl : Nat → Addr} {E : XK} {N : List Str} {sc : Scope} {fb : Str → Bool} {k : Nat}
def wM (K : PySem.W.Frag) (cl : Nat → Addr) (E : XK) (f : D → List D → Store → Out D) : V → List V → Hp → VK → Prop := fun x vs H Q => ∃ ρ S c ds, RelS K ρ S H ∧ RD K ρ H c x ∧ RDs K ρ H ds vs ∧ OKo K cl E ρ H (RD K) Q (f c ds S)
theorem MtR.siz {id : String} {r r' : V → List V → Hp → VK → Prop} (h : MtR X id r) (i : ∀ x vs H Q, Siz H → r' x vs H Q → r x vs H fun v H' => Siz H' → Q v H') : MtR X id r' :=
  fun pins s σ H x xs v us Q I rx rs q => thn (h pins s σ H x xs v us _ I rx rs (i x xs H Q (siz_of I.hok) q)) fun v s' ⟨x, H', I', r, q'⟩ => ⟨x, H', I', r, q' (siz_of I'.hok)⟩
theorem mr_append : MtR X "list.append" (wM X.K cl E vAppend) := by
  have hsl := sizeLine_eq
  refine MtR.siz mt_append fun x vs H Q z h => ?_
  obtain ⟨ρ, S, c, ds, rs, rc, rd, h⟩ := h
  unfold vAppend at h
  split at h
  · rename_i n d
    · split at h
      · rename_i xs hS
        split at h
        · rename_i hl
          have hl := Nat.le_of_ble_eq_true hl
          unfold RD at rc
          obtain ⟨a, rfl, hn⟩ := rc
          obtain ⟨o, e, ws, rfl, q⟩ := rs.ob n a _ hn hS
          obtain ⟨v, rfl, rv⟩ := rd.one
          have l := q.length
          exact ⟨a, ws, v, rfl, rfl, e, by omega, fun z' => h ρ _ _ (grow_set (List.mem_of_getElem? hn)) (rs.set hn ⟨_, rfl, q.append (RDs.cons rv RDs.nil)⟩) RD.non z'⟩
        · exact h.elim
      · exact h.elim
  · exact h.elim
theorem RDs.dropLast {K : PySem.W.Frag} {ρ : Rho} {H : Hp} {ds : List D} {vs : List V} (h : RDs K ρ H ds vs) : RDs K ρ H ds.dropLast vs.dropLast := by
  rw [List.dropLast_eq_take, List.dropLast_eq_take, ← h.length]
  exact h.take _
theorem mr_pop : MtR X "list.pop" (wM X.K cl E vPop) := by
  refine MtR.siz mt_pop fun x vs H Q z h => ?_
  obtain ⟨ρ, S, c, ds, rs, rc, rd, h⟩ := h
  unfold vPop at h
  split at h
  · rename_i n
    unfold RDs at rd
    subst rd
    split at h
    · rename_i xs hS
      split at h
      · rename_i d hd
        unfold RD at rc
        obtain ⟨a, rfl, hn⟩ := rc
        obtain ⟨o, e, ws, rfl, q⟩ := rs.ob n a _ hn hS
        have l := q.length
        obtain ⟨v, hv, rv⟩ := q.get hd
        have g := grow_set (H := H) (o := .lst ws.dropLast) (List.mem_of_getElem? hn)
        exact ⟨a, ws, v, rfl, rfl, e, by rw [← l]; exact hv, fun z' => h ρ _ _ g (rs.set hn ⟨_, rfl, q.dropLast⟩) (rv.grow g) z'⟩
      · exact h.elim
    · exact h.elim
  · exact h.elim
theorem c_mtd {o : Expr} {es : List Expr} {name : Str} {apos pos : Pos} {id : String} {f : D → List D → Store → Out D} {mo : SE} {as : SA} (slot : Slot "list" name id) (hty : typeOf (.builtin id) = pure (.type "method_descriptor")) (hm : MtR X id (wM X.K cl E f))
    (ho : PE X o (lE X.K cl E mo)) (ha : PA X es (lA X.K cl E as)) (hb : isCall0 o = false) (hs : es.any isStar = false) (hl : (apos.endLine == pos.line) = true) (h20 : es.length < 20) (h0 : es = [] → as = mNil) :
    PE X (.Call (.Attribute o name apos) es [] pos) (lE X.K cl E (mMtd f mo as)) := by
  have key : ∀ (σ : L2.St) (H : Hp) (Q : VK), lE X.K cl E (mMtd f mo as) σ H Q → lE X.K cl E mo σ H fun x H1 => tyV X.K "list" x H1 ∧ lA X.K cl E as σ H1 fun xs H2 => wM X.K cl E f x xs H2 Q := by
    intro σ H Q h
    obtain ⟨ρ, env, S, rs, re, h⟩ := h
    refine lE_step rs re h fun x H1 ρ1 S1 c z1 g1 rs1 re1 rc h1 => ?_
    split at h1
    · rename_i ys hl
      obtain ⟨a, vs, rfl, hs, qs⟩ := list_at rs1 hl rc
      refine ⟨Or.inl ⟨rfl, vs, SqL.of hs⟩, lA_step rs1 re1 h1 fun xs H2 ρ2 S2 ds z2 g2 rs2 re2 rds h2 => ?_⟩
      exact ⟨ρ2, S2, c, ds, rs2, rc.grow g2, rds, h2⟩
    · exact h1.elim
  cases es with
  | nil =>
    refine PE.imp (pe_bm0 PySem.F.plainAttrs_list slot hty hm ho (base_ok hb) hl) fun σ H Q h => ?_
    obtain ⟨ρ, env, S, rs, re, h1⟩ := key σ H Q h
    refine ⟨ρ, env, S, rs, re, h1.mono fun x H1 z ⟨ty, ρ1, env1, S1, rs1, re1, q⟩ => ⟨ty, ?_⟩⟩
    rw [h0 rfl] at q
    exact q ρ1 H1 [] Grow.refl rs1 RDs.nil z
  | cons e es =>
    rw [List.any_cons, Bool.or_eq_false_iff] at hs
    have s1 := star_one (env := X.env) (es := es) hs.1
    have s2 := star_plain (env := X.env) (pos := pos) hs.2
    refine PE.imp (pe_bm PySem.F.plainAttrs_list slot hty hm ho ha (base_ok hb) ?_ hl s1 s2.1) key
    rw [s1]
    have : (backTo pos ((false, eval e X.env) :: starEach es X.env)).all (fun x => !x.1) = true := s2.2
    rw [this]
    simp only [List.length_cons] at h20
    simp [keywordEach, backToKw]
    omega
theorem mtd_ok {o : Expr} {es : List Expr} {name : Str} {apos pos : Pos} {m : Mtd} {mo : SE} {as : SA} (h : mtdOf name es.length = some m) (ho : PE X o (lE X.K cl E mo)) (ha : PA X es (lA X.K cl E as)) (hb : isCall0 o = false) (hs : es.any isStar = false)
    (hl : (apos.endLine == pos.line) = true) (h20 : es.length < 20) (h0 : es = [] → as = mNil) : PE X (.Call (.Attribute o name apos) es [] pos) (lE X.K cl E (mMtd (mtdV m) mo as)) := by
  unfold mtdOf at h
  split at h
  · rename_i hx
    obtain ⟨rfl, _⟩ := hx
    cases h
    exact c_mtd PySem.F.slot_list_append PySem.F.type_list_append mr_append ho ha hb hs hl h20 h0
  split at h
  · rename_i hx
    obtain ⟨rfl, _⟩ := hx
    cases h
    exact c_mtd PySem.F.slot_list_pop PySem.F.type_list_pop mr_pop ho ha hb hs hl h20 h0
  · cases h

/-! ### the whole -/
def PEs (Γ : Gx) (cl : Nat → Addr) (N : List Str) (k n : Nat) : Prop := ∀ (X : Cx) (E : XK) (sc : Scope) (fb : Str → Bool), Cond X Γ cl E N sc fb k → ∀ e, PE X e (lE X.K cl E (dE Γ N n sc e))
def PTs' (Γ : Gx) (cl : Nat → Addr) (N : List Str) (k n : Nat) : Prop := ∀ (X : Cx) (E : XK) (sc : Scope) (fb : Str → Bool), Cond X Γ cl E N sc fb k → ∀ e, PT X e (lT X.K cl E (dT Γ N n sc e))
theorem Cond.blk (C : Cond X Γ cl E N sc fb k) {s : Shared} {H : Hp} {scope : Scope} {cs : List (Str × Addr)} {A : Addr} {fp : List Addr} :
    Cond (X.blk s H scope (compEnvC scope cs A X.env) fp) Γ cl E0 N (relS scope sc) (fun x => scope.names.lookup x == some .cell) k where
  eN := C.eN
  nd := C.nd
  eS := by rw [← C.eS]; rfl
  calm := C.calm
  room := C.room
  gd := C.gd
  tk := takes0
  fns := C.fns
  nums := C.nums
  free := C.free
  hfb := fun x h => h
  lam := fun x np kd h => ⟨⟨(C.lam x np kd h).here.ex⟩, (C.lam x np kd h).ex⟩
  key := fun h => ⟨(C.key h).ex⟩
theorem lamArg_ok {es : List Expr} {l : List D × Arguments × Expr × Scope} (h : lamArg es = some l) : (∃ p, l.1 = [] ∧ es = [.Lambda l.2.1 l.2.2.1 l.2.2.2 p]) ∨ ∃ i j p p', l.1 = [.int i] ∧ es = [.Constant (.int i) j p, .Lambda l.2.1 l.2.2.1 l.2.2.2 p'] := by
  unfold lamArg at h
  split at h
  · cases h; exact .inl ⟨_, rfl, rfl⟩
  · cases h; exact .inr ⟨_, _, _, _, rfl, rfl⟩
  · cases h
theorem dLam_ok (C : Cond X Γ cl E N sc fb k) {x : Str} {es : List Expr} {l : List D × Arguments × Expr × Scope} {p pos : Pos} (h : lamArg es = some l) : PE X (.Call (.Name x p) es [] pos) (lE X.K cl E (dLam Γ sc x l)) := by
  unfold dLam
  split
  · rename_i hc
    rw [Bool.and_eq_true, Bool.and_eq_true] at hc
    obtain ⟨h1, h2, h3⟩ := hc
    obtain ⟨g1, g2⟩ := glob_of C h1
    split
    · rename_i np kd hl
      split
      · rename_i hn
        obtain ⟨la, j, lc, lf, lb⟩ := C.lam x np kd hl
        have L : LamX.LamS X.env.scope l.2.2.2 := by rw [C.eS]; exact LamX.lamS_by h3
        have body : ∀ (A : Around) (out2 : List PySem.Env) (s2 : Shared) (H2 : Hp) (E : XK) (f c' : Addr), Room j (A.deeper (LamX.lamEnv X l.2.2.2 s2.heap.objs.size f c')) → A.guards = some [] →
            PE (LamX.lamCx X A out2 s2 H2 E l.2.2.2 f c') l.2.2.1 (lE X.K cl E (Γ.lb l.2.2.2 l.2.2.1)) := fun A out2 s2 H2 E f c' hr hgd =>
          lb (LamX.lamCx X A out2 s2 H2 E l.2.2.2 f c') E l.2.2.2 ⟨C.eN, C.nd, rfl, rfl, hr, hgd, takes_of rfl rfl rfl rfl, lf, C.nums, C.free, fun _ z => by cases z⟩ _
        rcases lamArg_ok h with ⟨p1, e1, rfl⟩ | ⟨i, j1, p1, p2, e1, rfl⟩
        · rw [e1] at hn ⊢
          subst hn
          exact c_lam0 la lc C.room C.gd g1 g2 L h2 body
        · rw [e1] at hn ⊢
          subst hn
          exact c_lam1 la lc C.room C.gd g1 g2 L h2 body
      · exact pe_bad
    · exact pe_bad
  · exact pe_bad
theorem dLC_ok (C : Cond X Γ cl E N sc fb k) {n : Nat} (hE : PEs Γ cl N k n) (hT : PTs' Γ cl N k n) {mt : Bool} {elt : Expr} {c : Comprehension} {scope : Scope} {pos : Pos} :
    PE X (.ListComp elt [c] scope pos) (lE X.K cl E (dLC N mt sc (dE Γ N n sc) (dE Γ N n) (dT Γ N n) elt c scope)) := by
  obtain ⟨tg, iter, ifs, asy⟩ := c
  unfold dLC
  split
  · rename_i h
    rw [Bool.and_eq_true, Bool.and_eq_true, decide_eq_true_eq] at h
    obtain ⟨h1, h2, h3⟩ := h
    cases h2
    have h3 : isSet iter = false := by simpa using h3
    have ok : BlkOk X.N X.env.scope scope (ownOf N scope) := by rw [C.eN, C.eS]; exact blkOk_by h1
    have hN : X.N.Nodup := by rw [C.eN]; exact C.nd
    have tgt := fun (s : Shared) (H : Hp) (A : Addr) (cs : List (Str × Addr)) (fp : List Addr) => dTgt_ok (C.blk (s := s) (H := H) (scope := scope) (cs := cs) (A := A) (fp := fp)) (ow := some ((ownOf N scope).map (·.2))) (fs := fun _ => mBad) (fun e => pe_bad) 3 tg
    have elm := fun (s : Shared) (H : Hp) (A : Addr) (cs : List (Str × Addr)) (fp : List Addr) => hE _ _ _ _ (C.blk (s := s) (H := H) (scope := scope) (cs := cs) (A := A) (fp := fp)) elt
    refine c_lc C.calm hN (dIter_ok C (hE X E sc fb C) iter) ok tgt (fun s H A cs fp => ?_) elm (folded_ok h3)
    show PTs _ ifs (lT _ _ _ (dIfs _ ifs))
    unfold dIfs
    split
    · refine ⟨fun pins s σ H Q I q => pts_nil.run pins s σ H Q I ?_⟩
      obtain ⟨ρ, env, S, rs, re, q⟩ := q
      exact q ρ H true Grow.refl rs rfl (siz_of I.hok)
    · exact pts_one (hT _ _ _ _ C.blk _)
    · exact ⟨fun _ _ _ _ _ _ ⟨_, _, _, _, _, h⟩ => h.elim⟩
  · exact pe_bad
theorem dIfs_ok {X : Cx} {ft : Expr → ST} {ifs : List Expr} (hf : ∀ e, PT X e (lT X.K cl E0 (ft e))) : PTs X ifs (lT X.K cl E0 (dIfs ft ifs)) := by
  unfold dIfs
  split
  · refine ⟨fun pins s σ H Q I q => pts_nil.run pins s σ H Q I ?_⟩
    obtain ⟨ρ, env, S, rs, re, q⟩ := q
    exact q ρ H true Grow.refl rs rfl (siz_of I.hok)
  · exact pts_one (hf _)
  · exact ⟨fun _ _ _ _ _ _ ⟨_, _, _, _, _, h⟩ => h.elim⟩
theorem dLC2_ok (C : Cond X Γ cl E N sc fb k) {n : Nat} (hE : PEs Γ cl N k n) (hT : PTs' Γ cl N k n) {mt : Bool} {elt : Expr} {c c1 : Comprehension} {scope : Scope} {pos : Pos} :
    PE X (.ListComp elt [c, c1] scope pos) (lE X.K cl E (dLC2 N mt sc (dE Γ N n sc) (dE Γ N n) (dT Γ N n) elt c c1 scope)) := by
  obtain ⟨tg, iter, ifs, asy⟩ := c
  obtain ⟨tg1, iter1, ifs1, asy1⟩ := c1
  unfold dLC2
  split
  · rename_i h
    simp only [Bool.and_eq_true, decide_eq_true_eq, List.all_eq_true, Bool.not_eq_true'] at h
    obtain ⟨h1, ⟨h2, h3⟩, ⟨h4, h5⟩, h6⟩ := h
    cases h2
    cases h4
    have ok : BlkOk X.N X.env.scope scope (ownOf N scope) := by rw [C.eN, C.eS]; exact blkOk_by h1
    have hN : X.N.Nodup := by rw [C.eN]; exact C.nd
    have B := fun (s : Shared) (H : Hp) (A : Addr) (cs : List (Str × Addr)) (fp : List Addr) => C.blk (s := s) (H := H) (scope := scope) (cs := cs) (A := A) (fp := fp)
    exact c_lc2 C.calm hN (dIter_ok C (hE X E sc fb C) iter) ok (fun i hi => List.contains_iff_mem.mp (h6 i hi)) (fun s H A cs fp => dTgt_ok (B s H A cs fp) (fun e => pe_bad) 3 tg) (fun s H A cs fp => dIfs_ok (hT _ _ _ _ (B s H A cs fp)))
      (fun s H A cs fp => dIter_ok (B s H A cs fp) (hE _ _ _ _ (B s H A cs fp)) iter1) (fun s H A cs fp => dTgt_ok (B s H A cs fp) (fun e => pe_bad) 3 tg1) (fun s H A cs fp => dIfs_ok (hT _ _ _ _ (B s H A cs fp))) (fun s H A cs fp => hE _ _ _ _ (B s H A cs fp) elt) (folded_ok h3) (fun env => folded_ok h5)
  · exact pe_bad
theorem dDC_ok (C : Cond X Γ cl E N sc fb k) {n : Nat} (hE : PEs Γ cl N k n) (hT : PTs' Γ cl N k n) {t : Bool} {kx vx : Expr} {c : Comprehension} {scope : Scope} {pos : Pos} :
    PE X (.DictComp kx vx [c] scope pos) (lE X.K cl E (dDC N t sc (dE Γ N n sc) (dE Γ N n) (dT Γ N n) kx vx c scope)) := by
  obtain ⟨tg, iter, ifs, asy⟩ := c
  have u := C.u
  unfold dDC
  split
  · rename_i h
    rw [Bool.and_eq_true, Bool.and_eq_true, decide_eq_true_eq] at h
    obtain ⟨h1, h2, h3⟩ := h
    cases h2
    have h3 : isSet iter = false := by simpa using h3
    have ok : BlkOk X.N X.env.scope scope (ownOf N scope) := by rw [C.eN, C.eS]; exact blkOk_by h1
    have hN : X.N.Nodup := by rw [C.eN]; exact C.nd
    have tgt := fun (s : Shared) (H : Hp) (A : Addr) (cs : List (Str × Addr)) (fp : List Addr) => dTgt_ok (C.blk (s := s) (H := H) (scope := scope) (cs := cs) (A := A) (fp := fp)) (ow := some ((ownOf N scope).map (·.2))) (fs := fun _ => mBad) (fun e => pe_bad) 3 tg
    have elm := fun e (s : Shared) (H : Hp) (A : Addr) (cs : List (Str × Addr)) (fp : List Addr) => hE _ _ _ _ (C.blk (s := s) (H := H) (scope := scope) (cs := cs) (A := A) (fp := fp)) e
    refine c_dc (by omega) C.calm hN (dIter_ok C (hE X E sc fb C) iter) ok tgt (fun s H A cs fp => ?_) (elm kx) (elm vx) (folded_ok h3)
    show PTs _ ifs (lT _ _ _ (dIfs _ ifs))
    unfold dIfs
    split
    · refine ⟨fun pins s σ H Q I q => pts_nil.run pins s σ H Q I ?_⟩
      obtain ⟨ρ, env, S, rs, re, q⟩ := q
      exact q ρ H true Grow.refl rs rfl (siz_of I.hok)
    · exact pts_one (hT _ _ _ _ C.blk _)
    · exact ⟨fun _ _ _ _ _ _ ⟨_, _, _, _, _, h⟩ => h.elim⟩
  · exact pe_bad
theorem c_notV' {a : Expr} {pos : Pos} {ma : SE} (h : PE X a (lE X.K cl E ma)) : PE X (.UnaryOp .Not a pos) (lE X.K cl E (mNotV ma)) := by
  refine PE.imp (pe_not h) fun σ H Q h => ?_
  obtain ⟨ρ, env, S, rs, re, h⟩ := h
  refine lE_step rs re h fun x H1 ρ1 S1 a z1 g1 rs1 re1 ra h1 => ?_
  split at h1
  · cases ra.ofBl
    exact ⟨_, rfl, ok_val rs1 h1 RD.bl z1⟩
  · exact h1.elim
theorem dCmp_ok (C : Cond X Γ cl E N sc fb k) {f : Expr → SE} (hf : ∀ e, PE X e (lE X.K cl E (f e))) {a : Expr} {ops : List CmpOp} {cs : List Expr} {pos : Pos} :
    PE X (.Compare a ops cs pos) (lE X.K cl E (dCmp f a ops cs)) ∧ PT X (.Compare a ops cs pos) (lT X.K cl E (mTst (dCmp f a ops cs))) := by
  have bad : PT X (.Compare a ops cs pos) (lT X.K cl E (mTst mBad)) := ⟨fun _ _ _ _ _ _ ⟨_, _, _, _, _, h⟩ => h.elim⟩
  unfold dCmp
  split
  · split
    · exact ⟨pe_bad, bad⟩
    · rename_i h
      have hm := fun op => behind_ok (op := op) (Bool.not_eq_true _ ▸ h)
      exact ⟨c_bin (pe_cmpR (cmp_ok C _) (hf _) (hf _) (hm _)), c_tst (pt_cmpR (cmp_ok C _) (hf _) (hf _) (hm _)) l_op⟩
  · split
    · exact ⟨pe_bad, bad⟩
    · rename_i h
      exact c_chain3 (cmp_ok C _) (cmp_ok C _) (cmp_ok C _) (hf _) (hf _) (hf _) (hf _) (behind_ok (Bool.not_eq_true _ ▸ h))
  · split
    · exact ⟨pe_bad, bad⟩
    · rename_i h
      rw [Bool.or_eq_true, not_or] at h
      have hm := fun op => behind_ok (op := op) (Bool.not_eq_true _ ▸ h.2)
      exact ⟨c_chain (pe_chain (cmp_ok C _) (cmp_ok C _) (hf _) (hf _) (hf _) (hm _)), c_tst (pt_chain (cmp_ok C _) (cmp_ok C _) (hf _) (hf _) (hf _) (hm _)) l_chain⟩
  · exact ⟨pe_bad, bad⟩
theorem keyArg_ok {ks : List Keyword} {l : Arguments × Expr × Scope} (h : keyArg ks = some l) : ∃ p q, ks = [⟨some "key", .Lambda l.1 l.2.1 l.2.2 p, q⟩] := by
  unfold keyArg at h
  split at h
  · split at h
    · rename_i hx
      subst hx
      cases h
      exact ⟨_, _, rfl⟩
    · cases h
  · cases h
theorem dKey_ok (C : Cond X Γ cl E N sc fb k) {f : Expr → SE} (hf : ∀ e, PE X e (lE X.K cl E (f e))) {mt : Bool} {x : Str} {es : List Expr} {ks : List Keyword} {l : Arguments × Expr × Scope} {p pos : Pos} (h : keyArg ks = some l) :
    PE X (.Call (.Name x p) es ks pos) (lE X.K cl E (dKey Γ N sc mt f x es l)) := by
  unfold dKey
  split
  · rename_i a
    split
    · rename_i hc
      rw [Bool.and_eq_true, Bool.and_eq_true, Bool.and_eq_true, decide_eq_true_eq] at hc
      obtain ⟨h1, rfl, h3, h4⟩ := hc
      obtain ⟨g1, _⟩ := glob_of C h3
      split
      · rename_i q hq
        split
        · rename_i hs
          rw [Bool.and_eq_true] at hs
          obtain ⟨p1, p2, rfl⟩ := keyArg_ok h
          have := C.eN
          subst this
          exact c_sortKey (C.key h1) g1 (C.free _ (List.mem_of_getElem? (i := 10) rfl)) C.room (by rw [C.eS]; exact keyS_by hs.1) hq (by simpa using hs.2) (hf _) (star_one (by simpa using h4))
        · exact pe_bad
      · exact pe_bad
    · exact pe_bad
  · exact pe_bad
theorem dCall_ok (C : Cond X Γ cl E N sc fb k) {f : Expr → SE} (hf : ∀ e, PE X e (lE X.K cl E (f e))) {g : Expr} {es : List Expr} {ks : List Keyword} {pos : Pos} : PE X (.Call g es ks pos) (lE X.K cl E (dCall Γ N sc f g es ks pos)) := by
  cases g with
  | Name x p =>
    unfold dCall
    dsimp only
    split
    · rename_i l hl
      exact dKey_ok C hf hl
    split
    · rename_i hx
      subst hx
      split
      · rename_i hc
        rw [Bool.and_eq_true] at hc
        cases ks with
        | cons _ _ => cases hc.1
        | nil => exact dIsi_ok C hf (glob_of C hc.2).1
      · exact pe_bad
    split
    · rename_i a ha
      split
      · rename_i hk
        cases ks with
        | cons _ _ => cases hk
        | nil => exact dSet_ok C hf ha
      · exact pe_bad
    split
    · rename_i a ha
      split
      · rename_i hk
        cases ks with
        | cons _ _ => cases hk
        | nil => exact dRg_ok C hf ha
      · exact pe_bad
    split
    · rename_i l hl
      split
      · rename_i hk
        cases ks with
        | cons _ _ => cases hk
        | nil => exact dLam_ok C hl
      · exact pe_bad
    split
    · rename_i hc
      simp only [Bool.and_eq_true, Bool.not_eq_true'] at hc
      obtain ⟨h0, h1, h2, h3⟩ := hc
      cases ks with
      | cons _ _ => cases h0
      | nil =>
        cases es with
        | nil => cases h2
        | cons e es =>
          obtain ⟨g1, g2⟩ := glob_of C h1
          have h4 := h3
          rw [List.any_cons, Bool.or_eq_false_iff] at h4
          split
          · rename_i g hg
            exact c_call (C.fns _ _ hg) C.room C.gd g1 C.tk (dArgs_ok hf _) g2 (star_one h4.1) (star_plain h4.2).1
          · split
            · rename_i hb
              exact blt_ok C hb g1 (dArgs_ok hf _) h3
            · exact pe_bad
    · exact pe_bad
  | Attribute o m apos =>
    unfold dCall
    dsimp only
    split
    · rename_i hc
      simp only [Bool.and_eq_true, Bool.not_eq_true'] at hc
      obtain ⟨h0, h1, h2, h3, h4⟩ := hc
      cases ks with
      | cons _ _ => cases h0
      | nil =>
        split
        · rename_i hj
          subst hj
          split
          · rename_i a
            have s1 : isStar a = false := by simpa using h2
            exact c_join (hf _) (hf _) (by rw [star_one s1]; rfl) (base_ok h1) h3
          · exact pe_bad
        split
        · rename_i hm
          have h4 := Nat.le_of_ble_eq_true h4
          exact mtd_ok hm (hf _) (dArgs_ok hf _) h1 h2 h3 (by omega) fun e => by subst e; rfl
        · exact pe_bad
    · exact pe_bad
  | _ => exact pe_bad
theorem dE_ok : ∀ n, PEs Γ cl N k n ∧ PTs' Γ cl N k n
  | 0 => ⟨fun X E sc fb C e => by unfold dE; exact pe_bad, fun X E sc fb C e => by unfold dT; exact pt_bad⟩
  | n + 1 => by
    obtain ⟨hE, hT⟩ := dE_ok n
    refine ⟨fun X E sc fb C e => ?_, fun X E sc fb C e => ?_⟩
    · have fE := hE X E sc fb C
      have fT := hT X E sc fb C
      have u := C.u
      unfold dE
      cases e with
      | Name x p => exact dName_ok C
      | Constant c _ _ =>
        cases c with
        | int i => exact c_val pe_int fun _ _ => RD.int
        | bool i => exact c_val pe_bl fun _ _ => RD.bl
        | none => exact c_val pe_non fun _ _ => RD.non
        | str i => exact c_val pe_str fun _ _ => RD.str
        | _ => exact pe_bad
      | BinOp l op r pos =>
        dsimp only
        split
        · rename_i h
          exact c_bin (pe_op (bin_ok _ h) (fE _) (fE _))
        · exact pe_bad
      | UnaryOp op a pos =>
        cases op with
        | USub => exact c_un (pe_un ur_neg (fE _))
        | Not => exact c_notV' (fE _)
        | _ => exact pe_bad
      | BoolOp op es pos =>
        cases op with
        | And => exact dAndV_ok fE _
        | Or => exact dOrV_ok fE _
      | IfExp t a c pos => exact c_if (fT _) (fE _) (fE _)
      | Compare a ops cs pos => exact (dCmp_ok C fE).1
      | Tuple es _ _ => exact c_tup (dArgs_ok fE _)
      | List es pos => exact c_lst (dArgs_ok fE _)
      | Dict ks vs pos =>
        dsimp only
        split
        · exact c_dic
        · exact c_disp1 (fE _) (fE _)
        · exact pe_bad
      | Subscript a i pos =>
        cases i with
        | Slice lo hi st p2 =>
          cases st with
          | some s =>
            dsimp only
            split
            · split
              · rename_i hi
                subst hi
                exact c_back (fE _)
              · exact pe_bad
            · exact pe_bad
          | none =>
            refine c_sl (fE _) ?_ ?_
            · cases lo with
              | none => exact po_n
              | some e => exact po_s (fE e)
            · cases hi with
              | none => exact po_n
              | some e => exact po_s (fE e)
        | _ => exact c_bin (pe_ix (or_ix (by omega)) (fE _) (fE _) fun o i => slice_ok rfl o i)
      | Call f es ks pos => exact dCall_ok C fE
      | DictComp kx vx gs scope pos =>
        dsimp only
        split
        · exact dDC_ok C hE hT
        · exact pe_bad
      | ListComp elt gs scope pos =>
        dsimp only
        split
        · exact dLC_ok C hE hT
        · exact dLC2_ok C hE hT
        · exact pe_bad
      | _ => exact pe_bad
    · have fE := hE X E sc fb C
      have fT := hT X E sc fb C
      unfold dT
      cases e with
      | UnaryOp op a pos =>
        cases op with
        | Not => exact c_notT (fT _)
        | _ => exact c_truth (fE _) (truth_ok rfl)
      | BoolOp op es pos =>
        cases op with
        | And => exact (dAnd_ok fT _).pt
        | Or => exact (dOr_ok fT _).pt
      | Compare a ops cs pos => exact (dCmp_ok C fE).2
      | IfExp _ _ _ _ => exact pt_bad
      | _ => exact c_truth (fE _) (truth_ok rfl)
end
end Mir
end

section
set_option Elab.async false
set_option linter.all false
set_option maxRecDepth 100000
set_option maxHeartbeats 4000000
/-! Mir10: statements as functions of the slots and the store. -/
namespace Mir
open PySem PySem.Spec L2

inductive Fl where
  | nx (env : Env) (S : Store) | rt (d : D) (S : Store) | bk (env : Env) (S : Store) | ct (env : Env) (S : Store) | ex (c : Nat) (S : Store) | bad
abbrev SS := Env → Store → Fl
def FOK (K : PySem.W.Frag) (cl : Nat → Addr) (E : XK) (ρ : Rho) (H : Hp) (D : Ends) : Fl → Prop
  | .nx env S' => ∀ ρ' H' σ', Grow ρ H ρ' H' → RelS K ρ' S' H' → RelE K ρ' H' env σ' → Siz H' → D.nx σ' H'
  | .bk env S' => ∀ ρ' H' σ', Grow ρ H ρ' H' → RelS K ρ' S' H' → RelE K ρ' H' env σ' → Siz H' → D.bk σ' H'
  | .ct env S' => ∀ ρ' H' σ', Grow ρ H ρ' H' → RelS K ρ' S' H' → RelE K ρ' H' env σ' → Siz H' → D.ct σ' H'
  | .rt d S' => ∀ ρ' H' v, Grow ρ H ρ' H' → RelS K ρ' S' H' → RD K ρ' H' d v → Siz H' → D.rt v H'
  | .ex c S' => ∀ ρ' H', Grow ρ H ρ' H' → RelS K ρ' S' H' → E (.ref (cl c)) none H'
  | .bad => False
def Out.fl {α : Type} (o : Out α) (f : α → Store → Fl) : Fl :=
  match o with
  | .ok a S => f a S
  | .ex c S => .ex c S
  | .bad => .bad
def sSeq (a c : SS) : SS := fun env S => match a env S with
  | .nx e S1 => c e S1
  | r => r
def sNil : SS := fun env S => .nx env S
def sBad : SS := fun _ _ => .bad
def sAsg (m : SE) (g : SG) : SS := fun env S => (m env S).fl fun d S1 => (g d env S1).fl fun e S2 => .nx e S2
def sPar (is : List Nat) (as : SA) : SS := fun env S => (as env S).fl fun ds S1 => match is, ds with
  | [i, j], [d, e] => .nx ((env.set i (some d)).set j (some e)) S1
  | [i, j, l], [d, e, f] => .nx (((env.set i (some d)).set j (some e)).set l (some f)) S1
  | _, _ => .bad
def sAug (i : Nat) (f : V2) (m : SE) : SS := fun env S => match env[i]? with
  | some (some x) => (m env S).fl fun y S1 => (f x y S1).fl fun z S2 => .nx (env.set i (some z)) S2
  | _ => .bad
def sAugS (o k : SE) (f : V2) (m : SE) : SS := fun env S => (o env S).fl fun c S1 => (k env S1).fl fun i S2 => (vIx c i S2).fl fun x S3 => (m env S3).fl fun y S4 => (f x y S4).fl fun z S5 => (vSet c i z S5).fl fun _ S6 => .nx env S6
def sRet (m : SE) : SS := fun env S => (m env S).fl fun d S1 => .rt d S1
def sExpr (m : SE) : SS := fun env S => (m env S).fl fun _ S1 => .nx env S1
def sIf (t : ST) (a c : SS) : SS := fun env S => (t env S).fl fun k S1 => if k then a env S1 else c env S1
def sRaise (c : Nat) : SS := fun _ S => .ex c S
def whileL (t : ST) (body : SS) : Nat → Env → Store → Fl
  | 0, _, _ => .bad
  | n + 1, env, S => match t env S with
    | .ok true S1 => match body env S1 with
      | .nx e S2 => whileL t body n e S2
      | .ct e S2 => whileL t body n e S2
      | .bk e S2 => .nx e S2
      | r => r
    | .ok false S1 => .nx env S1
    | .ex c S1 => .ex c S1
    | .bad => .bad
def forL (get : Nat → Store → Option D) (fin : Store → Bool) (body : D → SS) : Nat → Nat → Env → Store → Fl
  | 0, _, env, S => if fin S then .nx env S else .bad
  | k + 1, i, env, S => match get i S with
    | some d => match body d env S with
      | .nx e S1 => forL get fin body k (i + 1) e S1
      | .ct e S1 => forL get fin body k (i + 1) e S1
      | .bk e S1 => .nx e S1
      | r => r
    | none => .bad
def sFor (src : Env → Store → Out Src) (g : SG) (body : SS) : SS := fun env S => (src env S).fl fun s S1 => forL s.get s.fin (fun d env S => (g d env S).fl fun e S2 => body e S2) s.len 0 env S1

def lS (K : PySem.W.Frag) (cl : Nat → Addr) (E : XK) (m : SS) : TS := fun D σ H => ∃ ρ env S, RelS K ρ S H ∧ RelE K ρ H env σ ∧ FOK K cl E ρ H D (m env S)
section
variable {X : Cx} {K : PySem.W.Frag} {cl : Nat → Addr} {E : XK} {ρ ρ' : Rho} {H H' : Hp} {S : Store} {σ : L2.St} {D D' : Ends} {st : Stmt} {sts : List Stmt}
theorem FOK.grow {f : Fl} (g : Grow ρ H ρ' H') (h : FOK K cl E ρ H D f) : FOK K cl E ρ' H' D f := by
  cases f with
  | nx e S => exact fun ρ1 H1 s g' => h ρ1 H1 s (g.trans g')
  | bk e S => exact fun ρ1 H1 s g' => h ρ1 H1 s (g.trans g')
  | ct e S => exact fun ρ1 H1 s g' => h ρ1 H1 s (g.trans g')
  | rt e S => exact fun ρ1 H1 s g' => h ρ1 H1 s (g.trans g')
  | ex c S => exact fun ρ1 H1 g' => h ρ1 H1 (g.trans g')
  | bad => exact h
theorem FOK.mono {f : Fl} (h : FOK K cl E ρ H D f) (h1 : ∀ σ H, Siz H → D.nx σ H → D'.nx σ H) (h2 : ∀ v H, Siz H → D.rt v H → D'.rt v H) (h3 : ∀ σ H, Siz H → D.bk σ H → D'.bk σ H) (h4 : ∀ σ H, Siz H → D.ct σ H → D'.ct σ H) : FOK K cl E ρ H D' f := by
  cases f with
  | nx e S => exact fun ρ1 H1 s g r e z => h1 _ _ z (h ρ1 H1 s g r e z)
  | bk e S => exact fun ρ1 H1 s g r e z => h3 _ _ z (h ρ1 H1 s g r e z)
  | ct e S => exact fun ρ1 H1 s g r e z => h4 _ _ z (h ρ1 H1 s g r e z)
  | rt e S => exact fun ρ1 H1 s g r e z => h2 _ _ z (h ρ1 H1 s g r e z)
  | ex c S => exact h
  | bad => exact h
theorem OKo.fl {α β : Type} {R : Rho → Hp → α → β → Prop} {o : Out α} {f : α → Store → Fl} (h : FOK K cl E ρ H D (o.fl f)) :
    OKo K cl E ρ H R (fun v H1 => ∃ ρ1 S1 a, Grow ρ H ρ1 H1 ∧ RelS K ρ1 S1 H1 ∧ R ρ1 H1 a v ∧ FOK K cl E ρ1 H1 D (f a S1)) o := by
  cases o with
  | ok a S => exact fun ρ' H' v g rs r _ => ⟨ρ', S, a, g, rs, r, FOK.grow g h⟩
  | ex c S => exact h
  | bad => exact h
/-- an end known with the sizes -/
abbrev eSiz (D : Ends) : Ends := { nx := fun σ H => Siz H → D.nx σ H, rt := fun v H => Siz H → D.rt v H, bk := fun σ H => Siz H → D.bk σ H, ct := fun σ H => Siz H → D.ct σ H }
theorem SP.unsiz {pins : List (Addr × Obj)} {f : Flow} {s : Shared} (h : SP X pins (eSiz D) f s) : SP X pins D f s := by
  cases f with
  | next => obtain ⟨σ, H, I, q⟩ := h; exact ⟨σ, H, I, q (siz_of I.hok)⟩
  | brk => obtain ⟨σ, H, I, q⟩ := h; exact ⟨σ, H, I, q (siz_of I.hok)⟩
  | cont => obtain ⟨σ, H, I, q⟩ := h; exact ⟨σ, H, I, q (siz_of I.hok)⟩
  | ret u => obtain ⟨v, σ, H, I, r, q⟩ := h; exact ⟨v, σ, H, I, r, q (siz_of I.hok)⟩
theorem PS.via {t t' : TS} (h : PS X st t) (i : ∀ D σ H, Siz H → t' D σ H → t (eSiz D) σ H) : PS X st t' :=
  ⟨fun pins s σ H D I q => thn (h.run pins s σ H (eSiz D) I (i D σ H (siz_of I.hok) q)) fun _ _ z => SP.unsiz z⟩
theorem PSs.via {t t' : TS} (h : PSs X sts t) (i : ∀ D σ H, Siz H → t' D σ H → t (eSiz D) σ H) : PSs X sts t' :=
  ⟨fun pins s σ H D I q => thn (h.run pins s σ H (eSiz D) I (i D σ H (siz_of I.hok) q)) fun _ _ z => SP.unsiz z⟩
theorem FOK.siz {f : Fl} (h : FOK K cl E ρ H D f) : FOK K cl E ρ H (eSiz D) f := h.mono (fun _ _ _ q _ => q) (fun _ _ _ q _ => q) (fun _ _ _ q _ => q) (fun _ _ _ q _ => q)
/-- steps of a reading -/
theorem lE_fl {ma : SE} {f : Mir.D → Store → Fl} {env : Env} (rs : RelS K ρ S H) (re : RelE K ρ H env σ) (h : FOK K cl E ρ H D ((ma env S).fl f)) {P : V → Hp → Prop}
    (k : ∀ x H1 ρ1 S1 a, Siz H1 → Grow ρ H ρ1 H1 → RelS K ρ1 S1 H1 → RelE K ρ1 H1 env σ → RD K ρ1 H1 a x → FOK K cl E ρ1 H1 D (f a S1) → P x H1) : lE K cl E ma σ H P :=
  ⟨ρ, env, S, rs, re, OKo.mono (OKo.fl h) fun x H1 z ⟨ρ1, S1, a, g, rs1, ra, h1⟩ => k x H1 ρ1 S1 a z g rs1 (re.grow g) ra h1⟩
theorem lA_fl {ma : SA} {f : List Mir.D → Store → Fl} {env : Env} (rs : RelS K ρ S H) (re : RelE K ρ H env σ) (h : FOK K cl E ρ H D ((ma env S).fl f)) {P : List V → Hp → Prop}
    (k : ∀ x H1 ρ1 S1 a, Siz H1 → Grow ρ H ρ1 H1 → RelS K ρ1 S1 H1 → RelE K ρ1 H1 env σ → RDs K ρ1 H1 a x → FOK K cl E ρ1 H1 D (f a S1) → P x H1) : lA K cl E ma σ H P :=
  ⟨ρ, env, S, rs, re, OKo.mono (OKo.fl h) fun x H1 z ⟨ρ1, S1, a, g, rs1, ra, h1⟩ => k x H1 ρ1 S1 a z g rs1 (re.grow g) ra h1⟩
theorem lT_fl {ma : ST} {f : Bool → Store → Fl} {env : Env} (rs : RelS K ρ S H) (re : RelE K ρ H env σ) (h : FOK K cl E ρ H D ((ma env S).fl f)) {P : Bool → Hp → Prop}
    (k : ∀ x H1 ρ1 S1, Siz H1 → Grow ρ H ρ1 H1 → RelS K ρ1 S1 H1 → RelE K ρ1 H1 env σ → FOK K cl E ρ1 H1 D (f x S1) → P x H1) : lT K cl E ma σ H P :=
  ⟨ρ, env, S, rs, re, OKo.mono (OKo.fl h) fun x H1 z ⟨ρ1, S1, a, g, rs1, ra, h1⟩ => by
    cases (show a = x from ra)
    exact k _ H1 ρ1 S1 z g rs1 (re.grow g) h1⟩

theorem ps_bad : PS X st (lS X.K cl E sBad) := ⟨fun _ _ _ _ _ _ ⟨_, _, _, _, _, h⟩ => h.elim⟩
theorem s_nil : PSs X [] (lS X.K cl E sNil) := PSs.via pss_nil fun D σ H z ⟨ρ, env, S, rs, re, h⟩ => fun z' => h ρ H σ Grow.refl rs re z'
theorem s_cons {m : SS} {ms : SS} (h1 : PS X st (lS X.K cl E m)) (h2 : PSs X sts (lS X.K cl E ms)) : PSs X (st :: sts) (lS X.K cl E (sSeq m ms)) := by
  refine PSs.via (pss_cons h1 h2) fun D σ H z ⟨ρ, env, S, rs, re, h⟩ => ⟨ρ, env, S, rs, re, ?_⟩
  unfold sSeq at h
  split at h
  · rename_i e S1 he
    rw [he]
    exact fun ρ1 H1 σ1 g rs1 re1 z1 => ⟨ρ1, e, S1, rs1, re1, (FOK.grow g h).siz⟩
  · rename_i r hr
    cases hm : m env S with
    | nx e S1 => exact absurd hm (hr e S1)
    | _ => rw [hm] at h; exact h.siz
theorem s_asg {tg e : Expr} {m : SE} {g : SG} {pos : Pos} (he : PE X e (lE X.K cl E m)) (hg : PG X tg (lG X.K cl E none g)) (hs : swapsWithSole [tg] e pos.line X.env = pure false) (hw : swappedStores [tg] e X.env = pure none)
    (h1 : (assignEach [tg] X.env).map (·.2) = [assign tg X.env]) : PS X (.Assign [tg] e pos) (lS X.K cl E (sAsg m g)) := by
  refine PS.via (ps_asg he hg hs hw h1) fun D σ H z ⟨ρ, env, S, rs, re, h⟩ => ?_
  refine lE_fl rs re h fun x H1 ρ1 S1 a z1 g1 rs1 re1 ra h1 => ?_
  refine ⟨ρ1, env, S1, a, rs1, re1, ra, OKo.mono (OKo.fl h1) fun σ2 H2 z2 ⟨ρ2, S2, e2, g2, rs2, re2, h2⟩ _ z' => ?_⟩
  exact h2 ρ2 H2 σ2 Grow.refl rs2 re2 z2
theorem s_expr {e : Expr} {m : SE} {pos : Pos} (he : PE X e (lE X.K cl E m)) (hs : swapsWith e none pos.line X.env = pure false) : PS X (.Expr e pos) (lS X.K cl E (sExpr m)) := by
  refine PS.via (ps_expr he hs) fun D σ H z ⟨ρ, env, S, rs, re, h⟩ => ?_
  exact lE_fl rs re h fun x H1 ρ1 S1 a z1 g1 rs1 re1 ra h1 => fun z' => h1 ρ1 H1 σ Grow.refl rs1 re1 z1
theorem s_ret {e : Expr} {m : SE} {pos : Pos} (he : PE X e (lE X.K cl E m)) : PS X (.Return (some e) pos) (lS X.K cl E (sRet m)) := by
  refine PS.via (ps_ret he) fun D σ H z ⟨ρ, env, S, rs, re, h⟩ => ?_
  exact lE_fl rs re h fun x H1 ρ1 S1 a z1 g1 rs1 re1 ra h1 => fun z' => h1 ρ1 H1 x Grow.refl rs1 ra z1
theorem s_retN {pos : Pos} : PS X (.Return none pos) (lS X.K cl E (sRet (mC .non))) :=
  PS.via ps_retN fun D σ H z ⟨ρ, env, S, rs, re, h⟩ => fun z' => h ρ H .non Grow.refl rs RD.non z'
theorem s_if {c : Expr} {a b : List Stmt} {t : ST} {ma mb : SS} {pos : Pos} (hc : PT X c (lT X.K cl E t)) (ha : PSs X a (lS X.K cl E ma)) (hb : PSs X b (lS X.K cl E mb)) : PS X (.If c a b pos) (lS X.K cl E (sIf t ma mb)) := by
  refine PS.via (ps_if hc ha hb) fun D σ H z ⟨ρ, env, S, rs, re, h⟩ => ?_
  refine lT_fl rs re h fun x H1 ρ1 S1 z1 g1 rs1 re1 h1 => ?_
  cases x with
  | true => exact ⟨ρ1, env, S1, rs1, re1, h1.siz⟩
  | false => exact ⟨ρ1, env, S1, rs1, re1, h1.siz⟩
theorem s_pass {pos : Pos} : PS X (.Pass pos) (lS X.K cl E sNil) := PS.via ps_pass fun D σ H z ⟨ρ, env, S, rs, re, h⟩ => fun z' => h ρ H σ Grow.refl rs re z'
theorem s_doc {x j pos pos'} : PS X (.Expr (.Constant (.str x) j pos) pos') (lS X.K cl E sNil) := PS.via ps_doc fun D σ H z ⟨ρ, env, S, rs, re, h⟩ => fun z' => h ρ H σ Grow.refl rs re z'
theorem s_break {pos : Pos} : PS X (.Break pos) (lS X.K cl E fun env S => .bk env S) := PS.via ps_break fun D σ H z ⟨ρ, env, S, rs, re, h⟩ => fun z' => h ρ H σ Grow.refl rs re z'
theorem s_cont {pos : Pos} : PS X (.Continue pos) (lS X.K cl E fun env S => .ct env S) := PS.via ps_continue fun D σ H z ⟨ρ, env, S, rs, re, h⟩ => fun z' => h ρ H σ Grow.refl rs re z'
theorem s_while {c : Expr} {body : List Stmt} {t : ST} {mb : SS} {pos : Pos} {n : Nat} (hp : PassesOwn (model X.prog X.w) X.A X.env X.xe) (hc : PT X c (lT X.K cl E t)) (hb : PSs X body (lS X.K cl E mb)) : PS X (.While c body [] pos) (lS X.K cl E (whileL t mb n)) := by
  refine PS.via (ps_while hp hc hb) fun D σ H z ⟨ρ, env, S, rs, re, h⟩ => ?_
  refine ⟨fun m σ H => ∃ ρ env S, RelS X.K ρ S H ∧ RelE X.K ρ H env σ ∧ Siz H ∧ FOK X.K cl E ρ H D (whileL t mb m env S), ⟨n, ρ, env, S, rs, re, z, h⟩, ?_⟩
  rintro m σ1 H1 ⟨ρ1, env1, S1, rs1, re1, z1, h1⟩
  cases m with
  | zero => exact h1.elim
  | succ m =>
    unfold whileL at h1
    refine ⟨ρ1, env1, S1, rs1, re1, ?_⟩
    cases ht : t env1 S1 with
    | bad => rw [ht] at h1; exact h1.elim
    | ex c S2 => rw [ht] at h1; exact h1
    | ok k S2 =>
      rw [ht] at h1
      intro ρ2 H2 k' g2 rs2 rk z2
      cases (show k = k' from rk)
      have re2 := re1.grow g2
      cases k with
      | false => exact fun z' => h1 ρ2 H2 σ1 g2 rs2 re2 z2
      | true =>
        refine ⟨fun σ H => ∃ ρ env S, RelS X.K ρ S H ∧ RelE X.K ρ H env σ ∧ Siz H ∧ FOK X.K cl E ρ H D (whileL t mb m env S), fun σ' H' q => ⟨m, Nat.lt_succ_self m, q⟩, ρ2, env1, S2, rs2, re2, ?_⟩
        have h1 := FOK.grow g2 h1
        dsimp only at h1
        cases hb : mb env1 S2 with
        | nx e S3 => rw [hb] at h1; exact fun ρ3 H3 σ3 g3 rs3 re3 z3 => ⟨ρ3, e, S3, rs3, re3, z3, FOK.grow g3 h1⟩
        | ct e S3 => rw [hb] at h1; exact fun ρ3 H3 σ3 g3 rs3 re3 z3 => ⟨ρ3, e, S3, rs3, re3, z3, FOK.grow g3 h1⟩
        | bk e S3 => rw [hb] at h1; exact fun ρ3 H3 σ3 g3 rs3 re3 z3 => fun z' => h1 ρ3 H3 σ3 g3 rs3 re3 z3
        | rt d S3 => rw [hb] at h1; exact fun ρ3 H3 v g3 rs3 rv z3 => fun z' => h1 ρ3 H3 v g3 rs3 rv z3
        | ex c S3 => rw [hb] at h1; exact h1
        | bad => rw [hb] at h1; exact h1
theorem s_for {tg iter : Expr} {body : List Stmt} {src : Env → Store → Out Src} {g : SG} {mb : SS} {pos : Pos} (hp : PassesOwn (model X.prog X.w) X.A X.env X.xe) (hc : X.calm = true) (hi : PI X tg iter (lI X.K cl E src)) (hg : PG X tg (lG X.K cl E none g)) (hb : PSs X body (lS X.K cl E mb))
    (hs : ∀ x, foldedSetIterable iter X.env x = pure x) : PS X (.For tg iter body [] pos) (lS X.K cl E (sFor src g mb)) := by
  refine PS.via (ps_for hp hc hi hg hb hs) fun D σ H z ⟨ρ, env, S, rs, re, h⟩ => ?_
  refine ⟨ρ, env, S, rs, re, OKo.mono (OKo.fl h) fun J H1 z1 ⟨ρ1, S1, s, g1, rs1, sv, h1⟩ => ?_⟩
  refine ⟨fun i m σ H => ∃ ρ env S, Grow ρ1 H1 ρ H ∧ RelS X.K ρ S H ∧ RelE X.K ρ H env σ ∧ Siz H ∧ m = s.len - i ∧ i ≤ s.len ∧ FOK X.K cl E ρ H D (forL s.get s.fin (fun d env S => (g d env S).fl fun e S2 => mb e S2) (s.len - i) i env S),
    ⟨s.len, ρ1, env, S1, Grow.refl, rs1, re.grow g1, z1, by simp, Nat.zero_le _, h1⟩, ?_⟩
  rintro i m σ2 H2 ⟨ρ2, env2, S2, g2, rs2, re2, z2, rfl, hi2, h2⟩
  obtain ⟨sv1, sv2⟩ := sv _ _ .refl ρ2 H2 S2 g2 rs2
  by_cases hlt : i < s.len
  · refine .inr ?_
    have hk : s.len - i = (s.len - (i + 1)) + 1 := by omega
    rw [hk] at h2
    unfold forL at h2
    cases hget : s.get i S2 with
    | none => rw [hget] at h2; exact h2.elim
    | some d =>
      rw [hget] at h2
      dsimp only at h2
      obtain ⟨go, yld⟩ := sv1 i d hlt hget
      refine ⟨go, fun σ H => ∃ ρ env S, Grow ρ1 H1 ρ H ∧ RelS X.K ρ S H ∧ RelE X.K ρ H env σ ∧ Siz H ∧ FOK X.K cl E ρ H D (forL s.get s.fin (fun d env S => (g d env S).fl fun e S2 => mb e S2) (s.len - (i + 1)) (i + 1) env S),
        fun σ' H' ⟨ρ3, e3, S3, k1, k2, k3, k4, k5⟩ => ⟨s.len - (i + 1), by omega, ρ3, e3, S3, k1, k2, k3, k4, rfl, hlt, k5⟩, fun x H3 y => ?_⟩
      obtain ⟨gy, rsy, ry⟩ := yld x H3 y
      have g3 := g2.trans gy
      refine ⟨ρ2, env2, S2, d, rsy, re2.grow gy, ry, ?_⟩
      have h2 := FOK.grow gy h2
      cases hgv : g d env2 S2 with
      | bad => rw [hgv] at h2; exact h2.elim
      | ex c S3 => rw [hgv] at h2; exact h2
      | ok e S3 =>
        rw [hgv] at h2
        dsimp only [Out.fl] at h2
        intro ρ4 H4 σ4 g4 rs4 re4 z4 w4
        refine ⟨ρ4, e, S3, rs4, re4, ?_⟩
        have g4' := g3.trans g4
        have h2 := FOK.grow g4 h2
        cases hbv : mb e S3 with
        | nx e5 S5 => rw [hbv] at h2; exact fun ρ5 H5 σ5 g5 rs5 re5 z5 => ⟨ρ5, e5, S5, g4'.trans g5, rs5, re5, z5, FOK.grow g5 h2⟩
        | ct e5 S5 => rw [hbv] at h2; exact fun ρ5 H5 σ5 g5 rs5 re5 z5 => ⟨ρ5, e5, S5, g4'.trans g5, rs5, re5, z5, FOK.grow g5 h2⟩
        | bk e5 S5 => rw [hbv] at h2; exact fun ρ5 H5 σ5 g5 rs5 re5 z5 => fun z' => h2 ρ5 H5 σ5 g5 rs5 re5 z5
        | rt d S5 => rw [hbv] at h2; exact fun ρ5 H5 v g5 rs5 rv z5 => fun z' => h2 ρ5 H5 v g5 rs5 rv z5
        | ex c S5 => rw [hbv] at h2; exact h2
        | bad => rw [hbv] at h2; exact h2
  · have hie : i = s.len := by omega
    subst hie
    refine .inl ?_
    rw [Nat.sub_self] at h2
    unfold forL at h2
    cases hf : s.fin S2 with
    | false => rw [hf] at h2; exact h2.elim
    | true =>
      rw [hf] at h2
      exact ⟨sv2 hf, fun z' => h2 ρ2 H2 σ2 Grow.refl rs2 re2 z2⟩
end
end Mir
end

section
set_option Elab.async false
set_option linter.all false
set_option maxRecDepth 100000
set_option maxHeartbeats 2000000
/-! Mir13t: the defs that call a lambda. -/
namespace Mir
open PySem PySem.Spec PyProof.Rows L2
section
variable {P : Program} {w : World} {K : PySem.W.Frag} {mg : Str → Option Value} {base : Heap} {cl : Nat → Addr} {j k : Nat} {A : Around} {outer : List PySem.Env} {s : Shared} {H : Hp} {f a : Addr} {I : Hp → Prop} {tl : XK → Hp → VK → Prop} {Ng : List Str} {q : Str} {sg : Scope} {cd : Value} {pn : List (Addr × Obj)} {xe : Value → Shared → Prop} {W : WX} {E : XK} {i : Nat} {cp : Str} {p1 p2 p3 : Pos}
abbrev cxL (P : Program) (w : World) (K : PySem.W.Frag) (mg : Str → Option Value) (base : Heap) (Ng : List Str) (q : Str) (sg : Scope) (a : Addr) (cd : Value) (A : Around) (outer : List PySem.Env) (s : Shared) (H : Hp) : Cx := cxOf C8.CX0 P w K mg base Ng q sg a cd A outer s H C8.E0
/-- f(), where the def got it -/
theorem pe_clos (C : ClosOk P w K mg base j outer s H f I tl) (hr : Room (j + 1) (cxL P w K mg base Ng q sg a cd A outer s H).A) (hgd : A.guards = some []) (tk : Takes ((cxL P w K mg base Ng q sg a cd A outer s H).tr pn xe) W)
    (hN : Ng[i]? = some cp) (hv : Vis sg cp) (hd : (cp == ("__debug__" : Str)) = false) (hcd : (cp == ("__classdict__" : Str)) = false) :
    PE ((cxL P w K mg base Ng q sg a cd A outer s H).tr pn xe) (.Call (.Name cp p1) [] [] p2) (fun σZ HZ Q => ∃ E : XK, (∀ cls d H', E cls d H' → W cls d σZ H') ∧ σZ[i]? = some (some (.ref f)) ∧ I HZ ∧ tl E HZ Q) := by
  refine ⟨fun pins sZ σZ HZ Q IZ h => ?_⟩
  obtain ⟨E, hW, hs, hi, ht⟩ := h
  refine wpAny_Call_Name_kw (thn ((pe_var (X := (cxL P w K mg base Ng q sg a cd A outer s H).tr pn xe) (pos := p1) (i := i) hN hv hd hcd).run pins sZ σZ HZ (fun v H1 => v = .ref f ∧ H1 = HZ) IZ ⟨.ref f, hs, rfl, rfl⟩) fun u s1 ⟨v, H1, I1, r1, e1, e2⟩ => ?_)
  subst e1 e2
  cases r1
  have un : Un (frs outer) [] H H1 s.heap s1.heap := I1.base
  refine PySem.W.callWith_F0 (C.there un) ?_
  refine wpAny_call (codeAny_mono (C.run _ _ s1 H1 Q E hr hgd I1.env0 un hi ht) fun r s' hq => ?_)
  cases r with
  | error e => exact tk e s' (XE.of_call I1 (fun cls d H' h => hW cls d H' h) hq)
  | ok fl =>
    cases fl with
    | ret u => exact I1.after hq
    | next => exact False.elim hq
    | brk => exact False.elim hq
    | cont => exact False.elim hq
/-- g(e), of a reading of one's own -/
theorem pe_call1 {X : Cx} {x : Str} {e : Expr} {te : TE} {g : FSem} {kr : Nat} {p pos : Pos} (D : Cal X.prog X.w X.K X.mg X.base cl kr x g) (hr : Room kr X.A) (hgd : X.A.guards = some []) (hg : Gl X x) (hx : (x == ("__debug__" : Str)) = false) (he : PE X e te) (hs : starEach [e] X.env = (false, eval e X.env) :: starEach [] X.env) :
    PE X (.Call (.Name x p) [e] [] pos) (fun σ H Q => te σ H fun v H' => spM X.K cl g [v] H' Q fun _ _ _ => False) := by
  obtain ⟨b, fd, ps, F, hm, hk, hb⟩ := D.ex
  refine ⟨fun pins s σ H Q I h => ?_⟩
  refine wpAny_Call_Name_kw (ld_glob I hg hm ?_ hx)
  have pa : PA X [e] (tCons te tNil) := pa_cons he pa_nil hs
  refine PySem.W.callWith_K (h₀ := X.base) I.ok.mod.kin hk (thn (pa.run pos pins s σ H (fun vs H' => spM X.K cl g vs H' Q fun _ _ _ => False) I h) fun us s1 ⟨vs, H1, I1, r, sp⟩ => ⟨I1.kIn, ?_⟩) hs (by rfl)
  have hl : us.length = ps.length := r.length.symm.trans (F.many _ _ _ _ sp)
  have b := hb s1 us I1.kIn (by simpa using hl)
  simp only [List.append_nil] at b
  refine wpAny_call (codeAny_mono (F.does X.A X.stack s1 H1 ⟨us, []⟩ us vs Q _ hr hgd I1.env0 b r sp) fun res s2 hq => ?_)
  cases res with
  | ok fl => cases fl with
    | ret u => exact I1.after hq
    | next => exact (show False from hq).elim
    | brk => exact (show False from hq).elim
    | cont => exact (show False from hq).elim
  | error ev =>
    obtain ⟨_, _, _, _, _, _, _, _, _, _, _, _, z⟩ := (show L2.CX X.prog X.w X.stack H1 s1 (fun _ _ _ => False) ev s2 from hq)
    exact z.elim

end

/-! ### the text's shapes -/
def asName : Expr → Option Str
  | .Name x _ => some x
  | _ => none
theorem asName_ok {e : Expr} {x : Str} (h : asName e = some x) : ∃ p, e = .Name x p := by
  cases e <;> first | (cases h; exact ⟨_, rfl⟩) | cases h
def asCall0 : Expr → Option Expr
  | .Call g [] [] _ => some g
  | _ => none
theorem asCall0_ok {e g : Expr} (h : asCall0 e = some g) : ∃ p, e = .Call g [] [] p := by
  unfold asCall0 at h
  split at h
  · cases h; exact ⟨_, rfl⟩
  · cases h
def asCall1 : Expr → Option (Expr × Expr)
  | .Call g [a] [] _ => some (g, a)
  | _ => none
theorem asCall1_ok {e : Expr} {g : Expr × Expr} (h : asCall1 e = some g) : ∃ p, e = .Call g.1 [g.2] [] p := by
  unfold asCall1 at h
  split at h
  · cases h; exact ⟨_, rfl⟩
  · cases h
def asCall2 : Expr → Option (Expr × Expr × Expr)
  | .Call g [a, b] [] _ => some (g, a, b)
  | _ => none
theorem asCall2_ok {e : Expr} {g : Expr × Expr × Expr} (h : asCall2 e = some g) : ∃ p, e = .Call g.1 [g.2.1, g.2.2] [] p := by
  unfold asCall2 at h
  split at h
  · cases h; exact ⟨_, rfl⟩
  · cases h
def asInt : Expr → Option Int
  | .Constant (.int i) _ _ => some i
  | _ => none
theorem asInt_ok {e : Expr} {i : Int} (h : asInt e = some i) : ∃ j p, e = .Constant (.int i) j p := by
  unfold asInt at h
  split at h
  · cases h; exact ⟨_, _, rfl⟩
  · cases h
def asBool : Expr → Option Bool
  | .Constant (.bool i) _ _ => some i
  | _ => none
theorem asBool_ok {e : Expr} {i : Bool} (h : asBool e = some i) : ∃ j p, e = .Constant (.bool i) j p := by
  unfold asBool at h
  split at h
  · cases h; exact ⟨_, _, rfl⟩
  · cases h
def asStr : Expr → Option Str
  | .Constant (.str i) _ _ => some i
  | _ => none
theorem asStr_ok {e : Expr} {i : Str} (h : asStr e = some i) : ∃ j p, e = .Constant (.str i) j p := by
  unfold asStr at h
  split at h
  · cases h; exact ⟨_, _, rfl⟩
  · cases h
def asTup2 : Expr → Option (Expr × Expr)
  | .Tuple [a, b] _ _ => some (a, b)
  | _ => none
theorem asTup2_ok {e : Expr} {g : Expr × Expr} (h : asTup2 e = some g) : ∃ k p, e = .Tuple [g.1, g.2] k p := by
  unfold asTup2 at h
  split at h
  · cases h; exact ⟨_, _, rfl⟩
  · cases h
def asIfE : Expr → Option (Expr × Expr × Expr)
  | .IfExp a b c _ => some (a, b, c)
  | _ => none
theorem asIfE_ok {e : Expr} {g : Expr × Expr × Expr} (h : asIfE e = some g) : ∃ p, e = .IfExp g.1 g.2.1 g.2.2 p := by
  unfold asIfE at h
  split at h
  · cases h; exact ⟨_, rfl⟩
  · cases h
def asRet1 : List Stmt → Option Expr
  | [.Return (some e) _] => some e
  | _ => none
theorem asRet1_ok {b : List Stmt} {e : Expr} (h : asRet1 b = some e) : ∃ p, b = [.Return (some e) p] := by
  unfold asRet1 at h
  split at h
  · cases h; exact ⟨_, rfl⟩
  · cases h
def asTryAs : Stmt → Option (List Stmt × Expr × Str × List Stmt)
  | .Try b [.ExceptHandler (some x) (some n) c _] [] [] _ => some (b, x, n, c)
  | _ => none
theorem asTryAs_ok {st : Stmt} {g : List Stmt × Expr × Str × List Stmt} (h : asTryAs st = some g) : ∃ p p', st = .Try g.1 [.ExceptHandler (some g.2.1) (some g.2.2.1) g.2.2.2 p] [] [] p' := by
  unfold asTryAs at h
  split at h
  · cases h; exact ⟨_, _, rfl⟩
  · cases h
def as1 {α : Type} : List α → Option α
  | [a] => some a
  | _ => none
theorem as1_ok {α : Type} {l : List α} {a : α} (h : as1 l = some a) : l = [a] := by
  unfold as1 at h
  split at h
  · cases h; rfl
  · cases h

/-! ### try: return (0, rd(f())) / except N as e: return (1, s1 if isinstance(e, O) else s2) -/
structure ToldT where
  rd : Str
  cp : Str
  ne : Str
  en : Str
  oor : Str
  s1 : Str
  s2 : Str
def toldM (body : List Stmt) : Option ToldT := do
  let (b, x, n, c) ← asTryAs (← as1 body)
  let (z, ca) ← asTup2 (← asRet1 b)
  let 0 ← asInt z | none
  let (rd, ca2) ← asCall1 ca
  let ne ← asName x
  let (o, ie) ← asTup2 (← asRet1 c)
  let 1 ← asInt o | none
  let (t, e1, e2) ← asIfE ie
  let (i, a1, a2) ← asCall2 t
  let i ← asName i
  let a1 ← asName a1
  if i = "isinstance" ∧ a1 = n then
    some ⟨← asName rd, ← asName (← asCall0 ca2), ne, n, ← asName a2, ← asStr e1, ← asStr e2⟩
  else none
theorem told_shape {body : List Stmt} {t : ToldT} (h : toldM body = some t) : ∃ i0 i1 j1 j2 k0 k1 q0 q1 q2 q3 q4 q5 q6 q7 q8 q9 r0 r1 r2 r3 r4 r5 r6 r7 r8 r9,
    body = [.Try [.Return (some (.Tuple [.Constant (.int 0) i0 q0, .Call (.Name t.rd q1) [.Call (.Name t.cp q2) [] [] q3] [] q4] k0 q5)) q6]
      [.ExceptHandler (some (.Name t.ne q7)) (some t.en) [.Return (some (.Tuple [.Constant (.int 1) i1 q8, .IfExp (.Call (.Name "isinstance" q9) [.Name t.en r0, .Name t.oor r1] [] r2) (.Constant (.str t.s1) j1 r3) (.Constant (.str t.s2) j2 r4) r5] k1 r6)) r7] r8] [] [] r9] := by
  unfold toldM at h
  simp only [Option.bind_eq_bind, Option.bind_eq_some_iff] at h
  obtain ⟨st, h1, ⟨b, x, n, c⟩, h2, rb, h3, ⟨z, ca⟩, h4, zi, h5, h⟩ := h
  have e1 := as1_ok h1
  obtain ⟨_, _, e2⟩ := asTryAs_ok h2
  obtain ⟨_, e3⟩ := asRet1_ok h3
  obtain ⟨_, _, e4⟩ := asTup2_ok h4
  obtain ⟨_, _, e5⟩ := asInt_ok h5
  dsimp only at *
  split at h
  · simp only [Option.bind_eq_bind, Option.bind_eq_some_iff] at h
    obtain ⟨⟨rd, ca2⟩, h6, ne, h7, rc, h8, ⟨o, ie⟩, h9, oi, h10, h⟩ := h
    obtain ⟨_, e6⟩ := asCall1_ok h6
    obtain ⟨_, e7⟩ := asName_ok h7
    obtain ⟨_, e8⟩ := asRet1_ok h8
    obtain ⟨_, _, e9⟩ := asTup2_ok h9
    obtain ⟨_, _, e10⟩ := asInt_ok h10
    dsimp only at *
    split at h
    · simp only [Option.bind_eq_bind, Option.bind_eq_some_iff] at h
      obtain ⟨⟨tt, x1, x2⟩, h11, ⟨i, a1, a2⟩, h12, i', h13, a1', h14, h⟩ := h
      obtain ⟨_, e11⟩ := asIfE_ok h11
      obtain ⟨_, e12⟩ := asCall2_ok h12
      obtain ⟨_, e13⟩ := asName_ok h13
      obtain ⟨_, e14⟩ := asName_ok h14
      dsimp only at *
      split at h
      · rename_i hc
        obtain ⟨rfl, rfl⟩ := hc
        simp only [Option.bind_eq_bind, Option.bind_eq_some_iff] at h
        obtain ⟨rd', h15, cx, h16, cp, h17, oo, h18, w1, h19, w2, h20, h⟩ := h
        obtain ⟨_, e15⟩ := asName_ok h15
        obtain ⟨_, e16⟩ := asCall0_ok h16
        obtain ⟨_, e17⟩ := asName_ok h17
        obtain ⟨_, e18⟩ := asName_ok h18
        obtain ⟨_, _, e19⟩ := asStr_ok h19
        obtain ⟨_, _, e20⟩ := asStr_ok h20
        cases h
        subst e17 e16 e15 e18 e19 e20 e14 e13 e12 e11 e10 e9 e8 e7 e6 e5 e4 e3 e2 e1
        exact ⟨_, _, _, _, _, _, _, _, _, _, _, _, _, _, _, _, _, _, _, _, _, _, _, _, _, _, rfl⟩
      · cases h
    · cases h
  · cases h
def toldSc (t : ToldT) (Ng : List Str) (sg : Scope) (i : Nat) : Bool :=
  decide (sg.names.lookup t.rd = some .globalImplicit) && (decide (sg.names.lookup t.ne = some .globalImplicit) && (decide (sg.names.lookup t.oor = some .globalImplicit) && (decide (sg.names.lookup ("isinstance" : Str) = some .globalImplicit) &&
  (decide (sg.names.lookup t.cp = some .local) && (decide (sg.names.lookup t.en = some .local) && (decide (Ng[0]? = some t.cp) && (decide (Ng[i]? = some t.en) && (decide (i ≠ 0) &&
  ([t.rd, t.ne, t.oor, t.cp, t.en].all fun x => !(x == ("__debug__" : Str)) && !(x == ("__classdict__" : Str)))))))))))
structure ToldOk (K : PySem.W.Frag) (mg : Str → Option Value) (cl : Nat → Addr) (t : ToldT) (word : Nat → Option Str) : Prop where
  ex : ∃ NE OO, mg t.ne = some (.ref NE) ∧ mg t.oor = some (.ref OO) ∧ mg "isinstance" = none ∧
    ∀ c x, word c = some x → ExcC K (cl c) ∧ PySem.W.exmOne K (.ref (cl c)) (.ref NE) = some true ∧ ∃ b : Bool, PySem.W.kitOne K (.ref (cl c)) (.ref OO) = some b ∧ x = if b then t.s1 else t.s2
theorem told_cal {P : Program} {w : World} {K : PySem.W.Frag} {mg : Str → Option Value} {base : Heap} {cl : Nat → Addr} {j k : Nat} {x : Str} {params : Arguments} {body : List Stmt} {sg : Scope} {a : Addr} {fd : FuncData} {Ng : List Str} {t : ToldT} {i : Nat} {rdf : FSem} {word : Nat → Option Str}
    (F : FunD K x x params body sg [] [] a fd) (hm : mg x = some (.ref a)) (hb : Binds K fd [t.cp] []) (Sg : FnScope Ng [t.cp] sg) (hsh : toldM body = some t) (hsc : toldSc t Ng sg i = true) (R : Cal P w K mg base cl k t.rd rdf) (O : ToldOk K mg cl t word) (hj : j + 1 ≤ k) :
    LamCal P w K mg base cl j (k + 1) x 0 (.told rdf word) := by
  obtain ⟨oc, od, dV, kV, doc, pm, an, cdv, ct, osl, rfl, lk, hcd, _, _⟩ := F.ex
  refine ⟨a, _, [t.cp], hm, F.kp, hb, rfl, fun A outer s H args pre us f I tl Q hr hgd e0 hbt hv hp C hI h => ?_⟩
  obtain rfl : pre = [] := List.length_eq_zero_iff.mp hp
  obtain ⟨NE, OO, g1, g2, g3, hO⟩ := O.ex
  unfold toldSc at hsc
  simp only [Bool.and_eq_true, decide_eq_true_eq, List.all_eq_true, List.mem_cons, List.not_mem_nil, or_false, forall_eq_or_imp, forall_eq, Bool.not_eq_true'] at hsc
  obtain ⟨c1, c2, c3, c4, c5, c6, c7, c8, c9, ⟨b1, b1'⟩, ⟨b2, b2'⟩, ⟨b3, b3'⟩, ⟨b4, b4'⟩, ⟨b5, b5'⟩⟩ := hsc
  obtain ⟨i0, i1, j1, j2, k0, k1, q0, q1, q2, q3, q4, q5, q6, q7, q8, q9, r0, r1, r2, r3, r4, r5, r6, r7, r8, r9, rfl⟩ := told_shape hsh
  refine LamX.run_ofS lk hcd Sg hr e0 hbt hv rfl fun hr' => ?_
  have hN : Ng.Nodup := Sg.nd
  refine ⟨_, PSs.via (t' := fun D σ H => _) (pss_one (ps_try_as (X := cxL P w K mg base Ng x sg a cdv A outer s H) (i := i) (c := .ref NE)
      (tb := fun W D σ H => ∃ E : XK, (∀ cls d H', E cls d H' → W cls d σ H') ∧ σ[0]? = some (some (.ref f)) ∧ I H ∧ tl E H fun v H' => spM K cl rdf [v] H' (fun v2 H2 => [V.int 0, v2].length ≤ sizeLine ∧ ∀ p, H2 p = none → D.rt (.ref p) (upd H2 p (.tup [.int 0, v2]))) fun _ _ _ => False)
      (ts := fun e cls d D σ H => ∃ c x, cls = .ref (cl c) ∧ d = none ∧ word c = some x ∧ (i < σ.length → σ[i]? = some (some (.ref e))) ∧ ∀ p, H p = none → D.rt (.ref p) (upd H p (.tup [.int 1, .str x])))
      rfl rfl hN c8 c6 ⟨c2, b2, .inl g1⟩ LamX.takes0 (fun W pn xe tk _ => ?_) (fun e oe cls d pn hz hf => ?_))) (fun D σ H z q => q), ?_⟩
  · refine ⟨fun pins s' σ H' D J h' => ?_⟩
    obtain ⟨E, hW, h1, h2, h3⟩ := h'
    have pc := pe_clos (P := P) (w := w) (K := K) (mg := mg) (base := base) (Ng := Ng) (q := x) (sg := sg) (a := a) (cd := cdv) (A := A) (outer := outer) (s := s) (H := H) (i := 0) (cp := t.cp) (p1 := q2) (p2 := q3) C (hr'.mono hj) hgd tk c7 (.inl c5) b4 b4'
    have pr := pe_call1 (p := q1) (pos := q4) (R : Cal ((cxL P w K mg base Ng x sg a cdv A outer s H).tr pn xe).prog _ _ _ _ cl k t.rd rdf) hr' hgd (show Gl ((cxL P w K mg base Ng x sg a cdv A outer s H).tr pn xe) t.rd from c1) b1 pc (by rfl)
    refine (pss_one (ps_ret (pos := q6) (pe_tup (x1 := k0) (pos := q5) (pa_cons (pe_int (j := i0) (pos := q0)) (pa_cons pr pa_nil (by rfl)) (by rfl))))).run pins s' σ H' D J ?_
    exact ⟨E, hW, h1, h2, h3⟩
  · refine ⟨fun pins s' σ H' D J h' => ?_⟩
    obtain ⟨c, w1, rfl, rfl, hw, hσ, h'⟩ := h'
    obtain ⟨xc, _, b, kb, rfl⟩ := hO c _ hw
    have ci := call_isE (a := e) (X := cxL P w K mg base Ng x sg a cdv A outer s H) (pn := pn) xc hz hf
    have pv := pe_var (X := (cxL P w K mg base Ng x sg a cdv A outer s H).suite e ((e, oe) :: pn)) (pos := r0) (i := i) c8 (.inl c6) b5 b5'
    have po := pe_glob (X := (cxL P w K mg base Ng x sg a cdv A outer s H).suite e ((e, oe) :: pn)) (pos := r1) (v := .ref OO) (u := .ref OO) (show Gl _ t.oor from c3) g2 rfl b3
    have pi := pe_callB (p := q9) (pos := r2) ci (show Gl _ "isinstance" from c4) g3 (by rfl) (pa_cons pv (pa_cons po pa_nil (by rfl)) (by rfl))
    refine (pss_one (ps_ret (pos := r7) (pe_tup (x1 := k1) (pos := r6) (pa_cons (pe_int (j := i1) (pos := q8)) (pa_cons (pe_ifExp (pos := r5) (pt_val pi) (pe_str (j := j1) (pos := r3)) (pe_str (j := j2) (pos := r4))) pa_nil (by rfl)) (by rfl))))).run pins s' σ H' D J ?_
    refine ⟨.ref e, hσ (by rw [J.len]; exact (List.getElem?_eq_some_iff.mp c8).1), .ref OO, .ref OO, b, rfl, fun u r => (show u = Value.ref OO from r), kb, b, rfl, ?_⟩
    cases b with
    | true => exact ⟨by rw [sizeLine_eq]; simp, h'⟩
    | false => exact ⟨by rw [sizeLine_eq]; simp, h'⟩
  · refine ⟨_, fun cls d H' z => ?_, rfl, hI, h⟩
    obtain ⟨rfl, c, x1, rfl, hw, hq⟩ := z
    refine ⟨true, (hO c x1 hw).2.1, fun _ e ne => ?_, fun z => by cases z⟩
    exact ⟨c, x1, rfl, rfl, hw, fun hl => List.getElem?_set_self (by simpa using hl), fun p np z => hq p np z⟩
end Mir
end

section
set_option Elab.async false
set_option linter.all false
set_option maxRecDepth 100000
set_option maxHeartbeats 2000000
/-! Mir13u: several clauses with names; the defs that tell the class of what was raised. -/
namespace Mir
open PySem PySem.Spec PyProof.Rows L2
/-- the clauses' wishes, where one of them takes it -/
def wAsL (K : PySem.W.Frag) (D : Ends) : List (Value × Nat × (Addr → Value → Option Addr → TS)) → WX
  | [] => fun _ _ _ _ => False
  | (c, i, ts) :: r => fun cls d σ H => ∃ b, PySem.W.exmOne K cls c = some b ∧
    (b = true → ∀ a, H a = none → ts a cls d { nx := fun τ G => D.nx (τ.set i none) G, rt := D.rt, bk := fun τ G => D.bk (τ.set i none) G, ct := fun τ G => D.ct (τ.set i none) G } (σ.set i (some (.ref a))) H) ∧
    (b = false → wAsL K D r cls d σ H)
inductive HdsAs (X : Cx) : List ExceptHandler → List (Value × Nat × (Addr → Value → Option Addr → TS)) → Prop
  | nil : HdsAs X [] []
  | cons {x n : Str} {c : Value} {i : Nat} {ts : Addr → Value → Option Addr → TS} {b0 : Stmt} {bs : List Stmt} {p p' : Pos} {hds : List ExceptHandler} {l : List (Value × Nat × (Addr → Value → Option Addr → TS))} (hc : Names X x c) (hi : X.N[i]? = some n) (hl : X.env.kindOf n = some .local)
      (hb : ∀ (a : Addr) (oe : Obj) (cls : Value) (d : Option Addr) (pn : List (Addr × Obj)), Zc cls d oe → (∃ vs, oe.data = .fields vs) → PSs (X.suite a ((a, oe) :: pn)) (b0 :: bs) (ts a cls d)) (r : HdsAs X hds l) :
      HdsAs X (.ExceptHandler (some (.Name x p)) (some n) (b0 :: bs) p' :: hds) ((c, i, ts) :: l)
theorem ps_tryL {X : Cx} {body : List Stmt} {hd0 : ExceptHandler} {hds : List ExceptHandler} {l : List (Value × Nat × (Addr → Value → Option Addr → TS))} {pos : Pos} {tb : WX → TS} (hs : X.stack = X.env :: X.outer) (hf : X.env.frame = some X.env.locals) (hN : X.N.Nodup)
    (hb : ∀ (W : WX) (pn : List (Addr × Obj)) (xe : Value → Shared → Prop), Takes (X.tr pn xe) W → PassesOwn (model X.prog X.w) X.A X.env xe → PSs (X.tr pn xe) body (tb W))
    (hh : HdsAs X (hd0 :: hds) l) : PS X (.Try body (hd0 :: hds) [] [] pos) (fun D σ H => tb (wAsL X.K D l) D σ H) := by
  refine ⟨fun pins s σ H D I want => ?_⟩
  have ok := I.ok
  have frA : X.A.frames = some (X.env :: X.outer) := by rw [ok.frames, hs]
  refine wpAny_Try_except ?_
  refine wpAny_mono ((hb (wAsL X.K D l) (X.pn ++ pins) (fun e u1 => wpAny (model X.prog X.w) X.A (noteFrame e X.env) (fun _ u2 => wpAny (model X.prog X.w) X.A (setFlight e none) (fun _ u3 =>
    wpAny (model X.prog X.w) X.A (handleBy e X.env (hd0 :: hds)) (SP X pins D) X.xe u3) X.xe u2) X.xe u1) (fun u t xx => ?_) PassesOwn.looking).run [] s σ H D (I.toTry _) want) (fun fl t got => ?_) (fun e t he => he)
  · obtain ⟨a, B, t0, pins0, τ, G, cls, d, rfl, J0, nb, up, sky, na, os, ag, want⟩ := xx
    have J : Inv X pins τ G t0 := J0.ofTry ok
    rw [hs] at sky
    show wpAny (model X.prog X.w) X.A (noteFrame (.ref a) X.env) _ _ _
    refine Sky.land Zc.steady frA hf sky fun g3 f3 w3 => ?_
    have J3 : Inv X pins τ G { t with heap := g3 } := J.landed nb f3.1 (up.trans w3) os ag
    obtain ⟨o3, v3, at3, z3, dt3⟩ := f3.there
    have nfr : a ∉ frs (X.env :: X.outer) := fun hm => by
      obtain ⟨_, o', e', no⟩ := f3.2.2.1.mem hm
      rw [at3] at e'
      cases e'
      exact no _ dt3
    have nL : a ≠ X.env.locals := fun z => nfr (List.mem_filterMap.mpr ⟨X.env, List.mem_cons_self, by rw [hf, z]⟩)
    have nF : a ∉ X.fs := fun hm => by
      obtain ⟨e, he, q⟩ := List.mem_filterMap.mp hm
      exact nfr (List.mem_filterMap.mpr ⟨e, List.mem_cons_of_mem _ he, q⟩)
    have S3 := J3.suite at3 dt3 na nL nF
    have go : ∀ {hds' : List ExceptHandler} {l' : List (Value × Nat × (Addr → Value → Option Addr → TS))}, HdsAs X hds' l' → wAsL X.K D l' cls d τ G → wpAny (model X.prog X.w) X.A (handleBy (.ref a) X.env hds') (SP X pins D) X.xe { t with heap := g3 } := by
      intro hds' l' hk
      induction hk with
      | nil => exact fun z => z.elim
      | @cons x n c i ts b0 bs p p' hds2 l2 hc hi hl hsu r ih =>
        intro want
        obtain ⟨b, hb1, yes, no⟩ := want
        refine wpAny_handleBy_cons (codeAny_handlers_test ?_) (by intro q; cases q)
        have LT : PySem.W.Looks (model X.prog X.w) g3 (typeOf (.ref a)) cls := fun _ _ _ _ k q => wpAny_typeOf_ref (k _ _ at3) (by rw [z3.1]; exact q)
        have LM := PySem.W.exm_one (M := model X.prog X.w) J3.kIn LT hb1
        have test : ∀ {Q E : Value → Shared → Prop}, Q c { t with heap := g3 } → wpAny (model X.prog X.w) (X.A.mark (some (.ref a))) (eval (.Name x p) X.env) Q E { t with heap := g3 } := fun {Q E} q => by
          obtain ⟨hg, hdbg, z | ⟨z, hv, hnn⟩⟩ := hc
          · exact ld_glob (X := X.suite a ((a, o3) :: (X.pn ++ pins))) S3 hg z q hdbg
          · exact ld_blt (X := X.suite a ((a, o3) :: (X.pn ++ pins))) S3 hg z hv q hnn hdbg
        refine test (LM.here ?_)
        cases b with
        | true =>
          refine codeAny_handlers_suite_as ?_
          refine HandSPX.lands_againZ f3 fun g4 f4 w4 => ?_
          have J4 : Inv X pins τ G { t with heap := g4 } := J.landed nb f4.1 ((up.trans w3).trans w4) os ag
          obtain ⟨o4, v4, at4, z4, dt4⟩ := f4.there
          refine store_ok (X := X.suite a ((a, o4) :: (X.pn ++ pins))) (v := .ref a) (J4.suite at4 dt4 na nL nF) hN hi (.inl hl) rfl (fun t5 S5 => ?_) (.inr hl)
          refine wpAny_mono ((hsu a o4 cls d (X.pn ++ pins) z4 ⟨_, dt4⟩).run [] t5 _ G _ S5 (yes rfl a na)) (fun fl t6 got => ?_) (fun _ _ z => False.elim z)
          have fin : ∀ {τ6 : L2.St} {G6 : Hp} {Q : Shared → Prop}, Inv (X.suite a ((a, o4) :: (X.pn ++ pins))) [] τ6 G6 t6 → (∀ t7, Inv X pins (τ6.set i none) G6 t7 → Q t7) →
              wpAny (model X.prog X.w) X.A (do bindName X.env n .none; unbindBehindTheSuite X.env n p') (fun _ t7 => Q t7) X.xe t6 := fun {_ _ _} S6 hq => gone_ok (S6.unsuite ok) hN hi hl hq
          cases fl with
          | next => obtain ⟨_, _, S6, q⟩ := got; exact fin S6 fun _ J7 => ⟨_, _, J7, q⟩
          | brk => obtain ⟨_, _, S6, q⟩ := got; exact fin S6 fun _ J7 => ⟨_, _, J7, q⟩
          | cont => obtain ⟨_, _, S6, q⟩ := got; exact fin S6 fun _ J7 => ⟨_, _, J7, q⟩
          | ret u => obtain ⟨_, _, _, S6, ru, q⟩ := got; exact fin S6 fun _ J7 => ⟨_, _, _, J7, ru, q⟩
        | false =>
          show wpAny _ X.A (handleBy (.ref a) X.env hds2) _ _ _
          exact ih (no rfl)
    exact go hh want
  · cases fl with
    | next => obtain ⟨_, _, J', q⟩ := got; exact wpAny_execs_nil ⟨_, _, J'.ofTry ok, q⟩
    | brk => obtain ⟨_, _, J', q⟩ := got; exact ⟨_, _, J'.ofTry ok, q⟩
    | cont => obtain ⟨_, _, J', q⟩ := got; exact ⟨_, _, J'.ofTry ok, q⟩
    | ret u => obtain ⟨_, _, _, J', ru, q⟩ := got; exact ⟨_, _, _, J'.ofTry ok, ru, q⟩
end Mir
end

section
set_option Elab.async false
set_option linter.all false
set_option maxRecDepth 100000
set_option maxHeartbeats 2000000
/-! Mir13v: the defs that tell which class was raised. -/
namespace Mir
open PySem PySem.Spec PyProof.Rows L2
def asTry2As : Stmt → Option (List Stmt × (Expr × Str × List Stmt) × (Expr × Str × List Stmt))
  | .Try b [.ExceptHandler (some x) (some n) c _, .ExceptHandler (some y) (some m) d _] [] [] _ => some (b, (x, n, c), (y, m, d))
  | _ => none
theorem asTry2As_ok {st : Stmt} {g : List Stmt × (Expr × Str × List Stmt) × (Expr × Str × List Stmt)} (h : asTry2As st = some g) :
    ∃ p p' p'', st = .Try g.1 [.ExceptHandler (some g.2.1.1) (some g.2.1.2.1) g.2.1.2.2 p, .ExceptHandler (some g.2.2.1) (some g.2.2.2.1) g.2.2.2.2 p'] [] [] p'' := by
  unfold asTry2As at h
  split at h
  · cases h; exact ⟨_, _, _, rfl⟩
  · cases h
def asTry2 : Stmt → Option (List Stmt × (Expr × List Stmt) × (Expr × List Stmt))
  | .Try b [.ExceptHandler (some x) none c _, .ExceptHandler (some y) none d _] [] [] _ => some (b, (x, c), (y, d))
  | _ => none
theorem asTry2_ok {st : Stmt} {g : List Stmt × (Expr × List Stmt) × (Expr × List Stmt)} (h : asTry2 st = some g) :
    ∃ p p' p'', st = .Try g.1 [.ExceptHandler (some g.2.1.1) none g.2.1.2 p, .ExceptHandler (some g.2.2.1) none g.2.2.2 p'] [] [] p'' := by
  unfold asTry2 at h
  split at h
  · cases h; exact ⟨_, _, _, rfl⟩
  · cases h
def as2 {α : Type} : List α → Option (α × α)
  | [a, b] => some (a, b)
  | _ => none
theorem as2_ok {α : Type} {l : List α} {a : α × α} (h : as2 l = some a) : l = [a.1, a.2] := by
  unfold as2 at h
  split at h
  · cases h; rfl
  · cases h
def asExpr1 : List Stmt → Option Expr
  | [.Expr e _] => some e
  | _ => none
theorem asExpr1_ok {b : List Stmt} {e : Expr} (h : asExpr1 b = some e) : ∃ p, b = [.Expr e p] := by
  unfold asExpr1 at h
  split at h
  · cases h; exact ⟨_, rfl⟩
  · cases h
def asAnd3 : Expr → Option (Expr × Expr × Expr)
  | .BoolOp .And [a, b, c] _ => some (a, b, c)
  | _ => none
theorem asAnd3_ok {e : Expr} {g : Expr × Expr × Expr} (h : asAnd3 e = some g) : ∃ p, e = .BoolOp .And [g.1, g.2.1, g.2.2] p := by
  unfold asAnd3 at h
  split at h
  · cases h; exact ⟨_, rfl⟩
  · cases h
def asEq : Expr → Option (Expr × Expr)
  | .Compare a [.Eq] [b] _ => some (a, b)
  | _ => none
theorem asEq_ok {e : Expr} {g : Expr × Expr} (h : asEq e = some g) : ∃ p, e = .Compare g.1 [.Eq] [g.2] p := by
  unfold asEq at h
  split at h
  · cases h; exact ⟨_, rfl⟩
  · cases h

/-! ### try: f() / except A: return i / except B: return j; return 0 -/
structure RaisedT where
  cp : Str
  x : Str
  y : Str
  i : Int
  j : Int
def raisedM (body : List Stmt) : Option RaisedT := do
  let (tr, rt) ← as2 body
  let (b, (x, c), (y, d)) ← asTry2 tr
  let 0 ← asInt (← asRet1 [rt]) | none
  some ⟨← asName (← asCall0 (← asExpr1 b)), ← asName x, ← asName y, ← asInt (← asRet1 c), ← asInt (← asRet1 d)⟩
theorem raised_shape {body : List Stmt} {t : RaisedT} (h : raisedM body = some t) : ∃ i0 i1 i2 q0 q1 q2 q3 q4 q5 q6 q7 q8 q9 r0 r1 r2 r3,
    body = [.Try [.Expr (.Call (.Name t.cp q0) [] [] q1) q2] [.ExceptHandler (some (.Name t.x q3)) none [.Return (some (.Constant (.int t.i) i0 q4)) q5] q6, .ExceptHandler (some (.Name t.y q7)) none [.Return (some (.Constant (.int t.j) i1 q8)) q9] r0] [] [] r1,
      .Return (some (.Constant (.int 0) i2 r2)) r3] := by
  unfold raisedM at h
  simp only [Option.bind_eq_bind, Option.bind_eq_some_iff] at h
  obtain ⟨⟨tr, rt⟩, h1, ⟨b, ⟨x, c⟩, y, d⟩, h2, z, h3, zi, h4, h⟩ := h
  have e1 := as2_ok h1
  obtain ⟨_, _, _, e2⟩ := asTry2_ok h2
  obtain ⟨_, e3⟩ := asRet1_ok h3
  obtain ⟨_, _, e4⟩ := asInt_ok h4
  dsimp only at *
  split at h
  · simp only [Option.bind_eq_bind, Option.bind_eq_some_iff] at h
    obtain ⟨eb, h5, ec, h6, cp, h7, xn, h8, yn, h9, r1, h10, i1, h11, r2, h12, i2, h13, h⟩ := h
    obtain ⟨_, e5⟩ := asExpr1_ok h5
    obtain ⟨_, e6⟩ := asCall0_ok h6
    obtain ⟨_, e7⟩ := asName_ok h7
    obtain ⟨_, e8⟩ := asName_ok h8
    obtain ⟨_, e9⟩ := asName_ok h9
    obtain ⟨_, e10⟩ := asRet1_ok h10
    obtain ⟨_, _, e11⟩ := asInt_ok h11
    obtain ⟨_, e12⟩ := asRet1_ok h12
    obtain ⟨_, _, e13⟩ := asInt_ok h13
    cases h
    cases e3
    subst e4 e11 e13 e10 e12 e7 e6 e5 e8 e9 e2 e1
    exact ⟨_, _, _, _, _, _, _, _, _, _, _, _, _, _, _, _, _, rfl⟩
  · cases h
def namesOk (sg : Scope) (gs ls : List Str) : Bool :=
  gs.all (fun x => decide (sg.names.lookup x = some .globalImplicit) && (!(x == ("__debug__" : Str)) && !(x == ("__classdict__" : Str)))) && ls.all fun x => decide (sg.names.lookup x = some .local) && (!(x == ("__debug__" : Str)) && !(x == ("__classdict__" : Str)))
theorem names_g {sg : Scope} {gs ls : List Str} (h : namesOk sg gs ls = true) {x : Str} (hx : x ∈ gs) : sg.names.lookup x = some .globalImplicit ∧ (x == ("__debug__" : Str)) = false ∧ (x == ("__classdict__" : Str)) = false := by
  unfold namesOk at h
  simp only [Bool.and_eq_true, List.all_eq_true, decide_eq_true_eq, Bool.not_eq_true'] at h
  exact h.1 x hx
theorem names_l {sg : Scope} {gs ls : List Str} (h : namesOk sg gs ls = true) {x : Str} (hx : x ∈ ls) : sg.names.lookup x = some .local ∧ (x == ("__debug__" : Str)) = false ∧ (x == ("__classdict__" : Str)) = false := by
  unfold namesOk at h
  simp only [Bool.and_eq_true, List.all_eq_true, decide_eq_true_eq, Bool.not_eq_true'] at h
  exact h.2 x hx
structure RaisedOk (K : PySem.W.Frag) (mg : Str → Option Value) (cl : Nat → Addr) (t : RaisedT) (word : Nat → Option Int) : Prop where
  ex : ∃ A B, mg t.x = some (.ref A) ∧ mg t.y = some (.ref B) ∧
    ∀ c i, word c = some i → ∃ b : Bool, PySem.W.exmOne K (.ref (cl c)) (.ref A) = some b ∧ (b = true → i = t.i) ∧ (b = false → PySem.W.exmOne K (.ref (cl c)) (.ref B) = some true ∧ i = t.j)
theorem raised_cal {P : Program} {w : World} {K : PySem.W.Frag} {mg : Str → Option Value} {base : Heap} {cl : Nat → Addr} {j k : Nat} {x : Str} {params : Arguments} {body : List Stmt} {sg : Scope} {a : Addr} {fd : FuncData} {Ng : List Str} {t : RaisedT} {word : Nat → Option Int}
    (F : FunD K x x params body sg [] [] a fd) (hm : mg x = some (.ref a)) (hb : Binds K fd [t.cp] []) (Sg : FnScope Ng [t.cp] sg) (hsh : raisedM body = some t) (hsc : namesOk sg [t.x, t.y] [t.cp] = true) (h0 : Ng[0]? = some t.cp) (O : RaisedOk K mg cl t word) (hj : j + 1 ≤ k) :
    LamCal P w K mg base cl j (k + 1) x 0 (.raised word) := by
  obtain ⟨oc, od, dV, kV, doc, pm, an, cdv, ct, osl, rfl, lk, hcd, _, _⟩ := F.ex
  refine ⟨a, _, [t.cp], hm, F.kp, hb, rfl, fun A outer s H args pre us f I tl Q hr hgd e0 hbt hv hp C hI h => ?_⟩
  obtain rfl : pre = [] := List.length_eq_zero_iff.mp hp
  obtain ⟨A1, B1, g1, g2, hO⟩ := O.ex
  obtain ⟨c1, b1, _⟩ := names_g hsc (x := t.x) (by simp)
  obtain ⟨c2, b2, _⟩ := names_g hsc (x := t.y) (by simp)
  obtain ⟨c3, b3, b3'⟩ := names_l hsc (x := t.cp) (by simp)
  obtain ⟨i0, i1, i2, q0, q1, q2, q3, q4, q5, q6, q7, q8, q9, r0, r1, r2, r3, rfl⟩ := raised_shape hsh
  refine LamX.run_ofS lk hcd Sg hr e0 hbt hv rfl fun hr' => ?_
  refine ⟨_, PSs.via (t' := fun D σ H => _) (pss_cons (ps_try_many (X := cxL P w K mg base Ng x sg a cdv A outer s H)
      (tb := fun W D σ H => ∃ E : XK, (∀ cls d H', E cls d H' → W cls d σ H') ∧ σ[0]? = some (some (.ref f)) ∧ I H ∧ tl E H fun v H' => D.nx σ H')
      (l := [(.ref A1, fun e cls d D σ H => D.rt (.int t.i) H), (.ref B1, fun e cls d D σ H => D.rt (.int t.j) H)])
      rfl rfl LamX.takes0 (fun W pn xe tk _ => ?_) (.cons ⟨c1, b1, .inl g1⟩ (fun e oe cls d pn hz hf => pss_one (ps_ret (pe_int (j := i0) (pos := q4)))) (.cons ⟨c2, b2, .inl g2⟩ (fun e oe cls d pn hz hf => pss_one (ps_ret (pe_int (j := i1) (pos := q8)))) .nil)))
      (pss_one (ps_ret (pos := r3) (pe_int (j := i2) (pos := r2))))) (fun D σ H z q => q), ?_⟩
  · refine ⟨fun pins s' σ H' D J h' => ?_⟩
    obtain ⟨E, hW, h1, h2, h3⟩ := h'
    have pc := pe_clos (P := P) (w := w) (K := K) (mg := mg) (base := base) (Ng := Ng) (q := x) (sg := sg) (a := a) (cd := cdv) (A := A) (outer := outer) (s := s) (H := H) (i := 0) (cp := t.cp) (p1 := q0) (p2 := q1) C (hr'.mono hj) hgd tk h0 (.inl c3) b3 b3'
    exact (pss_one (ps_expr (pos := q2) pc)).run pins s' σ H' D J ⟨E, hW, h1, h2, h3⟩
  · refine ⟨_, fun cls d H' z => ?_, rfl, hI, h⟩
    obtain ⟨rfl, c, i, rfl, hw, hq⟩ := z
    obtain ⟨b, e1, e2, e3⟩ := hO c i hw
    refine ⟨b, e1, fun z a ha => ?_, fun z => ?_⟩
    · rw [← e2 z]; exact hq
    · obtain ⟨y1, y2⟩ := e3 z
      exact ⟨true, y1, fun _ a ha => by rw [← y2]; exact hq, fun z => by cases z⟩

/-! ### try: f() / except A as e: return k == i and isinstance(e, N) and isinstance(e, V) / except B as e: .. j ..; return False -/
structure RaisesT where
  kd : Str
  cp : Str
  x : Str
  y : Str
  e : Str
  n : Str
  v : Str
  i : Int
  j : Int
def andM (e : Expr) : Option (Str × Int × Str × Str × Str) := do
  let (a, b, c) ← asAnd3 e
  let (k, i) ← asEq a
  let (f1, a1, a2) ← asCall2 b
  let (f2, b1, b2) ← asCall2 c
  if (← asName f1) = "isinstance" ∧ (← asName f2) = "isinstance" ∧ (← asName a1) = (← asName b1) then some (← asName k, ← asInt i, ← asName a1, ← asName a2, ← asName b2) else none
theorem and_shape {e : Expr} {t : Str × Int × Str × Str × Str} (h : andM e = some t) : ∃ i0 q0 q1 q2 q3 q4 q5 q6 q7 q8 q9 r0 r1,
    e = .BoolOp .And [.Compare (.Name t.1 q0) [.Eq] [.Constant (.int t.2.1) i0 q1] q2, .Call (.Name "isinstance" q3) [.Name t.2.2.1 q4, .Name t.2.2.2.1 q5] [] q6, .Call (.Name "isinstance" q7) [.Name t.2.2.1 q8, .Name t.2.2.2.2 q9] [] r0] r1 := by
  unfold andM at h
  simp only [Option.bind_eq_bind, Option.bind_eq_some_iff] at h
  obtain ⟨⟨a, b, c⟩, h1, ⟨k, i⟩, h2, ⟨f1, a1, a2⟩, h3, ⟨f2, b1, b2⟩, h4, n1, h5, n2, h6, n3, h7, n4, h8, h⟩ := h
  obtain ⟨_, e1⟩ := asAnd3_ok h1
  obtain ⟨_, e2⟩ := asEq_ok h2
  obtain ⟨_, e3⟩ := asCall2_ok h3
  obtain ⟨_, e4⟩ := asCall2_ok h4
  obtain ⟨_, e5⟩ := asName_ok h5
  obtain ⟨_, e6⟩ := asName_ok h6
  obtain ⟨_, e7⟩ := asName_ok h7
  obtain ⟨_, e8⟩ := asName_ok h8
  dsimp only at *
  split at h
  · rename_i hc
    obtain ⟨rfl, rfl, rfl⟩ := hc
    simp only [Option.bind_eq_bind, Option.bind_eq_some_iff] at h
    obtain ⟨k', h9, i', h10, y1, h11, y2, h12, y3, h13, h⟩ := h
    obtain ⟨_, e9⟩ := asName_ok h9
    obtain ⟨_, _, e10⟩ := asInt_ok h10
    obtain ⟨_, e11⟩ := asName_ok h11
    obtain ⟨_, e12⟩ := asName_ok h12
    obtain ⟨_, e13⟩ := asName_ok h13
    cases h
    subst e7
    cases e11
    subst e9 e10 e12 e13 e8 e6 e5 e4 e3 e2 e1
    exact ⟨_, _, _, _, _, _, _, _, _, _, _, _, _, rfl⟩
  · cases h
def raisesM (body : List Stmt) : Option RaisesT := do
  let (tr, rt) ← as2 body
  let (b, (x, n1, c), (y, n2, d)) ← asTry2As tr
  let bz ← asBool (← asRet1 [rt])
  let (k1, i, e1, u1, v1) ← andM (← asRet1 c)
  let (k2, j, e2, u2, v2) ← andM (← asRet1 d)
  if bz = false ∧ n1 = n2 ∧ k1 = k2 ∧ e1 = n1 ∧ e2 = n1 ∧ u1 = u2 ∧ v1 = v2 then
    some ⟨k1, ← asName (← asCall0 (← asExpr1 b)), ← asName x, ← asName y, n1, u1, v1, i, j⟩
  else none
theorem raises_shape {body : List Stmt} {t : RaisesT} (h : raisesM body = some t) : ∃ E1 E2 i2 q0 q1 q2 q3 q5 q6 q7 q9 r0 r1 r2 r3, andM E1 = some (t.kd, t.i, t.e, t.n, t.v) ∧ andM E2 = some (t.kd, t.j, t.e, t.n, t.v) ∧
    body = [.Try [.Expr (.Call (.Name t.cp q0) [] [] q1) q2] [.ExceptHandler (some (.Name t.x q3)) (some t.e) [.Return (some E1) q5] q6, .ExceptHandler (some (.Name t.y q7)) (some t.e) [.Return (some E2) q9] r0] [] [] r1,
      .Return (some (.Constant (.bool false) i2 r2)) r3] := by
  unfold raisesM at h
  simp only [Option.bind_eq_bind, Option.bind_eq_some_iff] at h
  obtain ⟨⟨tr, rt⟩, h1, ⟨b, ⟨x, n1, c⟩, y, n2, d⟩, h2, z, h3, bz, h4, E1, h5, ⟨k1, i, n3, u1, v1⟩, h6, E2, h7, ⟨k2, j, n4, u2, v2⟩, h8, h⟩ := h
  have e1 := as2_ok h1
  obtain ⟨_, _, _, e2⟩ := asTry2As_ok h2
  obtain ⟨_, e3⟩ := asRet1_ok h3
  obtain ⟨_, _, e4⟩ := asBool_ok h4
  obtain ⟨_, e5⟩ := asRet1_ok h5
  obtain ⟨_, e7⟩ := asRet1_ok h7
  dsimp only at *
  split at h
  · rename_i hc
    obtain ⟨rfl, rfl, rfl, rfl, rfl, rfl, rfl⟩ := hc
    simp only [Option.bind_eq_bind, Option.bind_eq_some_iff] at h
    obtain ⟨eb, h9, ec, h10, cp, h11, xn, h12, yn, h13, h⟩ := h
    obtain ⟨_, e9⟩ := asExpr1_ok h9
    obtain ⟨_, e10⟩ := asCall0_ok h10
    obtain ⟨_, e11⟩ := asName_ok h11
    obtain ⟨_, e12⟩ := asName_ok h12
    obtain ⟨_, e13⟩ := asName_ok h13
    cases h
    cases e3
    subst e4 e5 e7 e11 e10 e9 e12 e13 e2 e1
    exact ⟨_, _, _, _, _, _, _, _, _, _, _, _, _, _, _, h6, h8, rfl⟩
  · cases h
structure RaisesOk (K : PySem.W.Frag) (mg : Str → Option Value) (cl : Nat → Addr) (t : RaisesT) (word : Nat → Option Int) : Prop where
  ex : ∃ A B N V, mg t.x = some (.ref A) ∧ mg t.y = some (.ref B) ∧ mg "isinstance" = none ∧ mg t.n = some (.ref N) ∧ t.v = "ValueError" ∧ mg t.v = none ∧ V = Value.type "ValueError" ∧
    ∀ c i, word c = some i → ExcC K (cl c) ∧ PySem.W.kitOne K (.ref (cl c)) (.ref N) = some true ∧ PySem.W.kitOne K (.ref (cl c)) V = some true ∧
      ∃ b : Bool, PySem.W.exmOne K (.ref (cl c)) (.ref A) = some b ∧ (b = true → i = t.i) ∧ (b = false → PySem.W.exmOne K (.ref (cl c)) (.ref B) = some true ∧ i = t.j)
/-- what a clause tells -/
theorem raises_suite {P : Program} {w : World} {K : PySem.W.Frag} {mg : Str → Option Value} {base : Heap} {x : Str} {sg : Scope} {a : Addr} {Ng : List Str} {cdv : Value} {A : Around} {outer : List PySem.Env} {s : Shared} {H : Hp} {t : RaisesT} {E1 : Expr} {ii : Nat} {i : Int} {p5 : Pos} {e : Addr} {oe : Obj} {cls : Value} {d : Option Addr} {pn : List (Addr × Obj)} {N : Addr}
    (he : andM E1 = some (t.kd, i, t.e, t.n, t.v)) (hz : Zc cls d oe) (hf : ∃ vs, oe.data = .fields vs) (hsc : namesOk sg ["isinstance", t.x, t.y, t.n, t.v] [t.kd, t.cp, t.e] = true) (h0 : Ng[0]? = some t.kd) (hi : Ng[ii]? = some t.e)
    (g3 : mg "isinstance" = none) (g4 : mg t.n = some (.ref N)) (g5 : t.v = "ValueError") (g6 : mg t.v = none) :
    PSs ((cxL P w K mg base Ng x sg a cdv A outer s H).suite e ((e, oe) :: pn)) [.Return (some E1) p5]
      (fun D σ H' => ∃ D0 k, cls = .ref D0 ∧ d = none ∧ ExcC K D0 ∧ PySem.W.kitOne K (.ref D0) (.ref N) = some true ∧ PySem.W.kitOne K (.ref D0) (.type "ValueError") = some true ∧ σ[0]? = some (some (.int k)) ∧ (ii < σ.length → σ[ii]? = some (some (.ref e))) ∧ D.rt (.bl (decide (k = i))) H') := by
  refine ⟨fun pins s' σ H' D J h' => ?_⟩
  obtain ⟨D0, k, rfl, rfl, xc, k1, k2, s0, se, q⟩ := h'
  obtain ⟨c1, b1, _⟩ := names_g hsc (x := "isinstance") (by simp)
  obtain ⟨c2, b2, _⟩ := names_g hsc (x := t.n) (by simp)
  obtain ⟨c3, b3, _⟩ := names_g hsc (x := t.v) (by simp)
  obtain ⟨c4, b4, b4'⟩ := names_l hsc (x := t.kd) (by simp)
  obtain ⟨c5, b5, b5'⟩ := names_l hsc (x := t.e) (by simp)
  obtain ⟨i0, q0, q1, q2, q3, q4, q5, q6, q7, q8, q9, r0, r1, rfl⟩ := and_shape he
  have ci := call_isE (a := e) (X := cxL P w K mg base Ng x sg a cdv A outer s H) (pn := pn) xc hz hf
  have pk := pe_var (X := (cxL P w K mg base Ng x sg a cdv A outer s H).suite e ((e, oe) :: pn)) (pos := q0) (i := 0) h0 (.inl c4) b4 b4'
  have pv := pe_var (X := (cxL P w K mg base Ng x sg a cdv A outer s H).suite e ((e, oe) :: pn)) (pos := q4) (i := ii) hi (.inl c5) b5 b5'
  have pv2 := pe_var (X := (cxL P w K mg base Ng x sg a cdv A outer s H).suite e ((e, oe) :: pn)) (pos := q8) (i := ii) hi (.inl c5) b5 b5'
  have pn' := pe_glob (X := (cxL P w K mg base Ng x sg a cdv A outer s H).suite e ((e, oe) :: pn)) (pos := q5) (v := .ref N) (u := .ref N) (show Gl _ t.n from c2) g4 rfl b2
  have py := pe_bltn (X := (cxL P w K mg base Ng x sg a cdv A outer s H).suite e ((e, oe) :: pn)) (pos := q9) (x := t.v) (v := .ty "ValueError") (u := .type "ValueError") (show Gl _ t.v from c3) g6 (by rw [g5]; rfl) rfl (by rw [g5]; decide) b3
  have i1 := pe_callB (p := q3) (pos := q6) ci (show Gl _ "isinstance" from c1) g3 (by rfl) (pa_cons pv (pa_cons pn' pa_nil (by rfl)) (by rfl))
  have i2 := pe_callB (p := q7) (pos := r0) ci (show Gl _ "isinstance" from c1) g3 (by rfl) (pa_cons pv2 (pa_cons py pa_nil (by rfl)) (by rfl))
  have ce := pe_cmp (pos := q2) (pc_eqI pk (pe_int (i := i) (j := i0) (pos := q1)))
  refine (pss_one (ps_ret (pos := p5) (pe_and (pos := r1) ce (pe_and (pos := r1) i1 (pe_one (pos := r1) i2))))).run pins s' σ H' D J ?_
  have sv := se (by rw [J.len]; exact (List.getElem?_eq_some_iff.mp hi).1)
  refine ⟨.int k, s0, k, i, rfl, rfl, ?_⟩
  refine ⟨_, rfl, ?_⟩
  by_cases hk : k = i
  · rw [if_pos (by simpa using hk)]
    refine ⟨.ref e, sv, .ref N, .ref N, true, rfl, fun u r => (show u = Value.ref N from r), k1, true, rfl, ?_⟩
    refine ⟨.ref e, sv, .ty "ValueError", .type "ValueError", true, rfl, fun u r => (show u = Value.type "ValueError" from r), k2, ?_⟩
    rw [decide_eq_true hk] at q
    exact q
  · rw [if_neg (by simpa using hk)]
    rw [decide_eq_false hk] at q
    exact q
theorem raises_cal {P : Program} {w : World} {K : PySem.W.Frag} {mg : Str → Option Value} {base : Heap} {cl : Nat → Addr} {j k : Nat} {x : Str} {params : Arguments} {body : List Stmt} {sg : Scope} {a : Addr} {fd : FuncData} {Ng : List Str} {t : RaisesT} {ii : Nat} {word : Nat → Option Int}
    (F : FunD K x x params body sg [] [] a fd) (hm : mg x = some (.ref a)) (hb : Binds K fd [t.kd, t.cp] []) (Sg : FnScope Ng [t.kd, t.cp] sg) (hsh : raisesM body = some t) (hsc : namesOk sg ["isinstance", t.x, t.y, t.n, t.v] [t.kd, t.cp, t.e] = true) (h0 : Ng[0]? = some t.kd) (h1 : Ng[1]? = some t.cp) (hi : Ng[ii]? = some t.e) (hi2 : 2 ≤ ii)
    (O : RaisesOk K mg cl t word) (hj : j + 1 ≤ k) : LamCal P w K mg base cl j (k + 1) x 1 (.raises word) := by
  obtain ⟨oc, od, dV, kV, doc, pm, an, cdv, ct, osl, rfl, lk, hcd, _, _⟩ := F.ex
  refine ⟨a, _, [t.kd, t.cp], hm, F.kp, hb, rfl, fun A outer s H args pre us f I tl Q hr hgd e0 hbt hv hp C hI h => ?_⟩
  match pre, hp, hv, h with
  | [vk], _, hv, h =>
  obtain ⟨A1, B1, N, V, g1, g2, g3, g4, g5, g6, rfl, hO⟩ := O.ex
  obtain ⟨c1, b1, _⟩ := names_g hsc (x := t.x) (by simp)
  obtain ⟨c2, b2, _⟩ := names_g hsc (x := t.y) (by simp)
  obtain ⟨c3, b3, b3'⟩ := names_l hsc (x := t.cp) (by simp)
  obtain ⟨c4, b4, b4'⟩ := names_l hsc (x := t.e) (by simp)
  obtain ⟨E1, E2, i2, q0, q1, q2, q3, q5, q6, q7, q9, r0, r1, r2, r3, m1, m2, rfl⟩ := raises_shape hsh
  refine LamX.run_ofS lk hcd Sg hr e0 hbt hv rfl fun hr' => ?_
  have hN : Ng.Nodup := Sg.nd
  refine ⟨_, PSs.via (t' := fun D σ H => _) (pss_cons (ps_tryL (X := cxL P w K mg base Ng x sg a cdv A outer s H)
      (tb := fun W D σ H => ∃ E : XK, (∀ cls d H', E cls d H' → W cls d σ H') ∧ σ[1]? = some (some (.ref f)) ∧ I H ∧ tl E H fun v H' => D.nx σ H')
      (l := [(.ref A1, ii, _), (.ref B1, ii, _)])
      rfl rfl hN (fun W pn xe tk _ => ?_) (.cons ⟨c1, b1, .inl g1⟩ hi c4 (fun e oe cls d pn hz hf => raises_suite m1 hz hf hsc h0 hi g3 g4 g5 g6) (.cons ⟨c2, b2, .inl g2⟩ hi c4 (fun e oe cls d pn hz hf => raises_suite m2 hz hf hsc h0 hi g3 g4 g5 g6) .nil)))
      (pss_one (ps_ret (pos := r3) (pe_bl (b := false) (j := i2) (pos := r2))))) (fun D σ H z q => q), ?_⟩
  · refine ⟨fun pins s' σ H' D J h' => ?_⟩
    obtain ⟨E, hW, h1', h2, h3⟩ := h'
    have pc := pe_clos (P := P) (w := w) (K := K) (mg := mg) (base := base) (Ng := Ng) (q := x) (sg := sg) (a := a) (cd := cdv) (A := A) (outer := outer) (s := s) (H := H) (i := 1) (cp := t.cp) (p1 := q0) (p2 := q1) C (hr'.mono hj) hgd tk h1 (.inl c3) b3 b3'
    exact (pss_one (ps_expr (pos := q2) pc)).run pins s' σ H' D J ⟨E, hW, h1', h2, h3⟩
  · refine ⟨_, fun cls d H' z => ?_, rfl, hI, h⟩
    obtain ⟨rfl, c, i, k, rfl, hw, hpre, hq⟩ := z
    cases hpre
    obtain ⟨xc, y1, y2, b, z1, z2, z3⟩ := hO c i hw
    have len : ii < (L2.start Ng [V.int k, V.ref f]).length := by
      have := (List.getElem?_eq_some_iff.mp hi).1
      unfold L2.start
      simp
      omega
    have at0 : ∀ u, ((L2.start Ng [V.int k, V.ref f]).set ii u)[0]? = some (some (.int k)) := fun u => by
      rw [List.getElem?_set_ne (by omega)]
      rfl
    have ati : ∀ u, ii < ((L2.start Ng [V.int k, V.ref f]).set ii u).length → ((L2.start Ng [V.int k, V.ref f]).set ii u)[ii]? = some u := fun u _ => List.getElem?_set_self len
    refine ⟨b, z1, fun z e he => ⟨cl c, k, rfl, rfl, xc, y1, y2, at0 _, ati _, ?_⟩, fun z => ?_⟩
    · rw [← z2 z]; exact hq
    · obtain ⟨z4, z5⟩ := z3 z
      exact ⟨true, z4, fun _ e he => ⟨cl c, k, rfl, rfl, xc, y1, y2, at0 _, ati _, by rw [← z5]; exact hq⟩, fun z => by cases z⟩
end Mir
end

section
set_option Elab.async false
set_option linter.all false
set_option maxRecDepth 100000
set_option maxHeartbeats 4000000
/-! Mir11: statements, second part; all of a body. -/
namespace Mir
open PySem PySem.Spec L2
section
variable {X : Cx} {Γ : Gx} {cl : Nat → Addr} {E : XK} {N : List Str} {sc : Scope} {fb : Str → Bool} {k : Nat}

/-! ### a, b = c, d -/
def locSlot (N : List Str) (sc : Scope) (line : Nat) : Expr → Option (Str × Nat)
  | .Name x p => if decide (sc.names.lookup x = some .local) && (p.line == line) then (slotN N x).map fun i => (x, i) else none
  | _ => none
theorem locSlot_ok {line : Nat} {e : Expr} {x : Str} {i : Nat} (h : locSlot N sc line e = some (x, i)) : (∃ p, e = .Name x p ∧ p.line = line) ∧ sc.names.lookup x = some .local ∧ N[i]? = some x := by
  unfold locSlot at h
  split at h
  · rename_i y p
    split at h
    · rename_i hc
      rw [Bool.and_eq_true, decide_eq_true_eq] at hc
      cases hs : slotN N y with
      | none => rw [hs] at h; cases h
      | some j =>
        rw [hs] at h
        cases h
        exact ⟨⟨p, rfl, by simpa using hc.2⟩, hc.1, slot_ix hs⟩
    · cases h
  · cases h
theorem sw_plain {t e : Expr} {env : PySem.Env} (h : isTuple t = false ∨ isTuple e = false) (hl : ∀ ts p, t ≠ .List ts p) : swappedStores [t] e env = pure none := by
  unfold swappedStores
  cases t with
  | Tuple ts k p =>
    cases e with
    | Tuple es k2 p2 => rcases h with h | h <;> cases h
    | _ => rfl
  | List ts p => exact absurd rfl (hl ts p)
  | _ => rfl
def isListE : Expr → Bool
  | .List _ _ => true
  | _ => false
/-- not exchanged: another number of targets than two or three; one of them no name; all constants -/
def isName : Expr → Bool
  | .Name _ _ => true
  | _ => false
/-- a local name on a line -/
def parName (sc : Scope) (line : Nat) : Expr → Bool
  | .Name x p => decide (sc.names.lookup x = some .local) && (p.line == line)
  | _ => false
def headLine (ts : List Expr) : Nat := (ts.head?.map (·.pos.line)).getD 0
theorem names_few {f : Expr → Option Str} {c : Expr → Bool} (hf : ∀ e, c e = false → f e = none) : ∀ ts : List Expr, ts.all c = false → (ts.filterMap f).length < ts.length
  | [], h => by cases h
  | t :: ts, h => by
    have le : (ts.filterMap f).length ≤ ts.length := List.length_filterMap_le _ _
    rw [List.filterMap_cons]
    rw [List.all_cons, Bool.and_eq_false_iff] at h
    rcases h with h | h
    · rw [hf t h]
      simp only [List.length_cons]
      exact Nat.lt_succ_of_le le
    · have ih := names_few hf ts h
      split
      · simp only [List.length_cons]; omega
      · simp only [List.length_cons]; omega
theorem bne_lt {a b : Nat} (h : a < b) {c : Bool} : ((a != b) || c) = true := by
  rw [Bool.or_eq_true]
  exact .inl (bne_iff_ne.mpr (Nat.ne_of_lt h))
theorem sw_many {ts es : List Expr} {k k2 p p2} {env : PySem.Env} (h : (ts.length == 2 || ts.length == 3) = false ∨ ts.all (parName env.scope (headLine ts)) = false ∨ (es.all (foldedForSure 8) = true)) : swappedStores [.Tuple ts k p] (.Tuple es k2 p2) env = pure none := by
  unfold swappedStores
  dsimp only [pure_bind, bind_pure_comp]
  by_cases h1 : (!(ts.length == 2 || ts.length == 3) || es.length != ts.length || env.blockKind != .function) = true
  · rw [if_pos h1]
  · rw [if_neg h1]
    have h1' : (ts.length == 2 || ts.length == 3) = true := by
      cases q : (ts.length == 2 || ts.length == 3) with
      | true => rfl
      | false => rw [q] at h1; exact absurd rfl h1
    split
    · rfl
    · rcases h with h | h | h
      · rw [h1'] at h; cases h
      · refine if_pos (bne_lt (names_few (fun e he => ?_) ts h))
        cases e with
        | Name x p =>
          have he : (decide (env.scope.names.lookup x = some .local) && (p.line == headLine ts)) = false := he
          have hk : (env.kindOf x == some .local) = decide (env.scope.names.lookup x = some .local) := by
            rw [Bool.eq_iff_iff, decide_eq_true_eq, beq_iff_eq]
            exact Iff.rfl
          show (if (env.kindOf x == some .local && (p.line == headLine ts)) = true then some x else none) = none
          rw [hk, he, if_neg Bool.false_ne_true]
        | _ => rfl
      · split
        · rfl
        · first
            | rfl
            | (rw [if_pos h])

theorem kind_fn {env : PySem.Env} (h : env.scope.kind = .function) : env.blockKind = .function := by unfold Env.blockKind; rw [h]; rfl
theorem sw_two {x y : Str} {a b : Expr} {k k2 p2} {p px py : Pos} {env : PySem.Env} (hk : env.scope.kind = .function) (hx : env.scope.names.lookup x = some .local) (hy : env.scope.names.lookup y = some .local) (hl : py.line = px.line) (hne : x ≠ y)
    (hs : [a, b].any isStar = false) (hf : [a, b].all (foldedForSure 8) = false) (hc : [a, b].all (constantsAlone 8) = false) : swappedStores [.Tuple [.Name x px, .Name y py] k p] (.Tuple [a, b] k2 p2) env = pure (some [x, y]) := by
  have hb := kind_fn hk
  have k1 : env.kindOf x = some .local := hx
  have k3 : env.kindOf y = some .local := hy
  unfold swappedStores
  dsimp only [pure_bind, bind_pure_comp]
  rw [if_neg (by simp [hb]), if_neg (by
    rw [Bool.not_eq_true]
    refine Eq.trans (congrArg (fun f => List.any [a, b] f) (funext fun e => ?_)) hs
    cases e <;> rfl)]
  have hn : ∀ f : Expr → Option Str, f (.Name x px) = some x → f (.Name y py) = some y → [Expr.Name x px, Expr.Name y py].filterMap f = [x, y] := fun f h1 h2 => by simp [List.filterMap_cons, h1, h2]
  have hd : ([x, y] : List Str).eraseDups = [x, y] := by
    simp [List.eraseDups_cons, hne, Ne.symm hne]
  rw [hn]
  · rw [hd, if_neg (by simp), if_neg (by rw [hf]; simp), if_neg (by rw [hc]; simp)]
  · simp [k1, Expr.pos]
  · simp [k3, Expr.pos, hl]
theorem sw_three {x y z : Str} {a b c : Expr} {k k2 p2} {p px py pz : Pos} {env : PySem.Env} (hk : env.scope.kind = .function) (hx : env.scope.names.lookup x = some .local) (hy : env.scope.names.lookup y = some .local) (hz : env.scope.names.lookup z = some .local) (hl : py.line = px.line) (hl2 : pz.line = px.line) (hne : x ≠ y) (hne2 : x ≠ z) (hne3 : y ≠ z)
    (hs : [a, b, c].any isStar = false) (hf : [a, b, c].all (foldedForSure 8) = false) (hc : [a, b, c].all (constantsAlone 8) = false) : swappedStores [.Tuple [.Name x px, .Name y py, .Name z pz] k p] (.Tuple [a, b, c] k2 p2) env = pure (some [x, y, z]) := by
  have hb := kind_fn hk
  have k1 : env.kindOf x = some .local := hx
  have k3 : env.kindOf y = some .local := hy
  have k4 : env.kindOf z = some .local := hz
  unfold swappedStores
  dsimp only [pure_bind, bind_pure_comp]
  rw [if_neg (by simp [hb]), if_neg (by
    rw [Bool.not_eq_true]
    refine Eq.trans (congrArg (fun f => List.any [a, b, c] f) (funext fun e => ?_)) hs
    cases e <;> rfl)]
  have hn : ∀ f : Expr → Option Str, f (.Name x px) = some x → f (.Name y py) = some y → f (.Name z pz) = some z → [Expr.Name x px, Expr.Name y py, Expr.Name z pz].filterMap f = [x, y, z] := fun f h1 h2 h3 => by simp [List.filterMap_cons, h1, h2, h3]
  have hd : ([x, y, z] : List Str).eraseDups = [x, y, z] := by
    simp [List.eraseDups_cons, hne, hne2, hne3, Ne.symm hne, Ne.symm hne2, Ne.symm hne3]
  rw [hn]
  · rw [hd, if_neg (by simp), if_neg (by rw [hf]; simp), if_neg (by rw [hc]; simp)]
  · simp [k1, Expr.pos]
  · simp [k3, Expr.pos, hl]
  · simp [k4, Expr.pos, hl2]
theorem s_par2 {i j : Nat} {x y : Str} {a b : Expr} {as : SA} {px py pt pos : Pos} {kt k2 pt2} (hc : X.calm = true) (hN : X.N.Nodup) (hi : X.N[i]? = some x) (hj : X.N[j]? = some y) (hij : i ≠ j)
    (hx : X.env.scope.names.lookup x = some .local) (hy : X.env.scope.names.lookup y = some .local) (ha : PA X [a, b] (lA X.K cl E as)) (hw : swappedStores [.Tuple [.Name x px, .Name y py] kt pt] (.Tuple [a, b] k2 pt2) X.env = pure (some [x, y])) :
    PS X (.Assign [.Tuple [.Name x px, .Name y py] kt pt] (.Tuple [a, b] k2 pt2) pos) (lS X.K cl E (sPar [i, j] as)) := by
  refine PS.via (ps_par hc hN hi hj hij hx hy ha hw) fun D σ H z ⟨ρ, env, S, rs, re, h⟩ => ?_
  refine lA_fl rs re h fun vs H1 ρ1 S1 ds z1 g1 rs1 re1 rd h1 => ?_
  split at h1
  · rename_i h2
    cases h2
    obtain ⟨v, u, rfl, rv, ru⟩ := rd.two
    exact ⟨v, u, rfl, fun _ => h1 ρ1 H1 _ Grow.refl rs1 ((re1.set rv).set ru) z1⟩
  · rename_i h2; cases h2
  · exact h1.elim
theorem RDs.three {K : PySem.W.Frag} {ρ : Rho} {H : Hp} {d e f : D} {vs : List V} (h : RDs K ρ H [d, e, f] vs) : ∃ v u w, vs = [v, u, w] ∧ RD K ρ H d v ∧ RD K ρ H e u ∧ RD K ρ H f w := by
  unfold RDs at h
  obtain ⟨v, r, rfl, h1, h2⟩ := h
  obtain ⟨u, w, rfl, h3, h4⟩ := h2.two
  exact ⟨v, u, w, rfl, h1, h3, h4⟩
theorem s_par3 {i j l : Nat} {x y w : Str} {a b c : Expr} {as : SA} {px py pz pt pos : Pos} {kt k2 pt2} (hc : X.calm = true) (hN : X.N.Nodup) (hi : X.N[i]? = some x) (hj : X.N[j]? = some y) (hl : X.N[l]? = some w) (hij : i ≠ j) (hil : i ≠ l) (hjl : j ≠ l)
    (hx : X.env.scope.names.lookup x = some .local) (hy : X.env.scope.names.lookup y = some .local) (hz : X.env.scope.names.lookup w = some .local) (ha : PA X [a, b, c] (lA X.K cl E as)) (hw : swappedStores [.Tuple [.Name x px, .Name y py, .Name w pz] kt pt] (.Tuple [a, b, c] k2 pt2) X.env = pure (some [x, y, w])) :
    PS X (.Assign [.Tuple [.Name x px, .Name y py, .Name w pz] kt pt] (.Tuple [a, b, c] k2 pt2) pos) (lS X.K cl E (sPar [i, j, l] as)) := by
  refine PS.via (ps_par3 hc hN hi hj hl hij hil hjl hx hy hz ha hw) fun D σ H z ⟨ρ, env, S, rs, re, h⟩ => ?_
  refine lA_fl rs re h fun vs H1 ρ1 S1 ds z1 g1 rs1 re1 rd h1 => ?_
  split at h1
  · rename_i h2; cases h2
  · rename_i h2
    cases h2
    obtain ⟨v, u, w, rfl, rv, ru, rw'⟩ := rd.three
    exact ⟨v, u, w, rfl, fun _ => h1 ρ1 H1 _ Grow.refl rs1 (((re1.set rv).set ru).set rw') z1⟩
  · exact h1.elim

/-! ### x = [.. for ..] -/
theorem s_setLc {i : Nat} {y : Str} {py : Pos} {elt tg iter : Expr} {ifs : List Expr} {scope : Scope} {own : List (Str × Nat)} {pos spos : Pos} {mt : Bool} {src : Mir.Env → Store → Out Src} {g : SG} {t : ST} {e : SE} (hc : X.calm = true) (hN : X.N.Nodup) (hy : X.N[i]? = some y) (hyl : X.env.scope.names.lookup y = some .local)
    (hsw : swapsWith (.ListComp elt [⟨tg, iter, ifs, 0⟩] scope pos) (some (.Name y py)) spos.line X.env = pure true) (hi : PI X tg iter (lI X.K cl E src)) (ok : BlkOk X.N X.env.scope scope own)
    (hg : ∀ (s : Shared) (H : Hp) (C : Addr) (cs : List (Str × Addr)) (fp : List Addr), PG (X.blk s H scope (compEnvC scope cs C X.env) fp) tg (lG X.K cl E0 (some (own.map (·.2))) g))
    (ht : ∀ (s : Shared) (H : Hp) (C : Addr) (cs : List (Str × Addr)) (fp : List Addr), PTs (X.blk s H scope (compEnvC scope cs C X.env) fp) ifs (lT X.K cl E0 t))
    (he : ∀ (s : Shared) (H : Hp) (C : Addr) (cs : List (Str × Addr)) (fp : List Addr), PE (X.blk s H scope (compEnvC scope cs C X.env) fp) elt (lE X.K cl E0 e)) (hs : ∀ x, foldedSetIterable iter X.env x = pure x) :
    PS X (.Assign [.Name y py] (.ListComp elt [⟨tg, iter, ifs, 0⟩] scope pos) spos) (lS X.K cl E (sAsg (mLC (own.map (·.2)) mt src g t e) (gSet i))) := by
  refine PS.via (ps_setLc hc hN hy hyl hsw hi ok hg ht he hs) fun D σ H z ⟨ρ, env, S, rs, re, h⟩ => ?_
  refine l_lc (mt := mt) σ H (fun v H' => D.nx (σ.set i (some v)) H') ?_
  refine lE_fl rs re h fun x H1 ρ1 S1 a z1 g1 rs1 re1 ra h1 => ?_
  exact h1 ρ1 H1 _ Grow.refl rs1 (re1.set ra) z1

/-! ### op= -/
def augV : Operator → Option V2
  | .Add => some vIadd
  | .Sub => some vSub
  | .Mult => some vImul
  | .BitXor => some vXor
  | _ => none
theorem aug_ok {op : Operator} {f : V2} (h : augV op = some f) : OpR X (inplaceOp op) (w2 X.K cl E f) := by
  cases op <;> first | (cases h; first | exact or_iadd | exact or_isub | exact or_imul | exact or_ixor) | cases h
theorem s_aug {i : Nat} {x : Str} {e : Expr} {m : SE} {op : Operator} {f : V2} {pos' pos : Pos} (hN : X.N.Nodup) (hi : X.N[i]? = some x) (hx : Loc X.env.scope x) (he : PE X e (lE X.K cl E m)) (ho : OpR X (inplaceOp op) (w2 X.K cl E f)) (hf : X.fn x = true ∨ X.env.scope.names.lookup x = some .local) :
    PS X (.AugAssign (.Name x pos') op e pos) (lS X.K cl E (sAug i f m)) := by
  refine PS.via (ps_aug hN hi hx he (ti := w2 X.K cl E f) ho hf) fun D σ H z ⟨ρ, env, S, rs, re, h⟩ => ?_
  unfold sAug at h
  split at h
  · rename_i d hd
    obtain ⟨v, hv, rv⟩ := re.2 i d hd
    refine ⟨v, hv, lE_fl rs re h fun y H1 ρ1 S1 b z1 g1 rs1 re1 rb h1 => ?_⟩
    refine ⟨ρ1, S1, d, b, rs1, rv.grow g1, rb, OKo.mono (OKo.fl h1) fun z H2 z2 ⟨ρ2, S2, c, g2, rs2, rc, h2⟩ _ => ?_⟩
    exact h2 ρ2 H2 _ Grow.refl rs2 ((re1.grow g2).set rc) z2
  · exact h.elim
def vGet : V2 := fun c i S => match c with
  | .ref n => vIx (.ref n) i S
  | _ => .bad
theorem pg_list : PGet X (rIxL X.K) := by
  intro pins s σ H x y v u Q I rx ry h
  obtain ⟨p, xs, i, z, rfl, rfl, hq, he, q⟩ := h
  cases rx
  obtain ⟨t, rfl⟩ := ry
  obtain ⟨its, r, pl, hz⟩ := I.list hq
  obtain ⟨j, h1, h2, h3, h4, h5⟩ := atI_get he
  obtain ⟨w, ew, rw'⟩ := r.get h2
  have hl := r.length
  have hn := line63
  by_cases h0 : 0 ≤ i
  · have hj : i.toNat = j := by
      rw [seqIndex_of h0 h5] at h1
      exact Option.some.inj h1
    exact wpAny_getItem_list pl.isList h0 (by omega) (by rw [hj]; simpa using ew) ⟨z, H, I, rw', q⟩
  · have hj : (i + (its.toArray.size : Int)).toNat = j := by
      rw [seqIndex_neg (by omega) h4] at h1
      rw [List.size_toArray, ← hl]
      exact Option.some.inj h1
    exact wpAny_getItem_list_neg pl.isList (by omega) (by rw [List.size_toArray] <;> omega) (by omega) (by rw [hj]; simpa using ew) ⟨z, H, I, rw', q⟩
theorem pg_dict (hu : X.A.units + 1 < cLine) : PGet X rIxDict := by
  intro pins s σ H x y v u Q I rx ry h
  obtain ⟨a, z, rfl, g, q⟩ := h
  cases (show v = Value.ref a from rx)
  exact d_getItem hu I g ry fun w' s' I' r' => ⟨z, H, I', r', q⟩
theorem pg_siz {r r' : R2} (h : PGet X r) (i : ∀ x y H Q, Siz H → r' x y H Q → r x y H (fun v H' => Siz H' → Q v H')) : PGet X r' :=
  OpR.siz (f := getItem) (r := r) (r' := r') h i
theorem pg_ix (hu : X.A.units + 1 < cLine) : PGet X (w2 X.K cl E vGet) := by
  show OpR X getItem (w2 X.K cl E vGet)
  refine OpR.cases fun x y H Q z q => ?_
  obtain ⟨ρ, S, a, b, rs, ra, rb, q⟩ := q
  unfold vGet at q
  split at q
  · unfold vIx at q
    dsimp only at q
    split at q
    · rename_i xs hS
      split at q
      · split at q
        · rename_i hd
          obtain ⟨p, vs, rfl, hs, qs⟩ := list_at rs (d := .ref _) (xs := xs) (by simp only [listOf, hS]) ra
          cases rb.ofInt
          obtain ⟨w, hw, rw'⟩ := atI_rds qs hd
          exact ⟨_, pg_list, p, vs, _, w, rfl, rfl, SqL.of hs, hw, ok_val rs q rw'⟩
        · exact q.elim
      · exact q.elim
    · rename_i t kvs hS
      split at q
      · rename_i hk
        unfold RD at ra
        obtain ⟨p, rfl, hn⟩ := ra
        have g := dget_at rs hn hS hk rb
        split at q
        · rename_i d hd
          rw [hd] at g
          obtain ⟨w, g1, rw'⟩ := g
          exact ⟨_, pg_dict hu, p, w, rfl, g1, ok_val rs q rw'⟩
        · exact q.elim
      · exact q.elim
    · exact q.elim
  · exact q.elim
def sAugG (o k : SE) (f : V2) (m : SE) : SS := fun env S => (o env S).fl fun c S1 => (k env S1).fl fun i S2 => (vGet c i S2).fl fun x S3 => (m env S3).fl fun y S4 => (f x y S4).fl fun z S5 => (vSet c i z S5).fl fun _ S6 => .nx env S6
theorem s_augS {o i e : Expr} {mo mi m : SE} {f : V2} {op : Operator} {tpos pos : Pos} (hu : X.A.units + 1 < cLine) (ho : PE X o (lE X.K cl E mo)) (hi : PE X i (lE X.K cl E mi)) (he : PE X e (lE X.K cl E m)) (hp : OpR X (inplaceOp op) (w2 X.K cl E f))
    (ha : ∀ ov iv new, augStore i ov iv new = (do holding [new, ov, iv] (setItem ov iv new); release [new, ov, iv] []; pure .next)) : PS X (.AugAssign (.Subscript o i tpos) op e pos) (lS X.K cl E (sAugG mo mi f m)) := by
  refine PS.via (ps_augS ho hi (tget := w2 X.K cl E vGet) (pg_ix hu) he (tip := w2 X.K cl E f) hp (sr_set (cl := cl) (E := E) hu) ha) fun D σ H z ⟨ρ, env, S, rs, re, h⟩ => ?_
  refine lE_fl rs re h fun c H1 ρ1 S1 dc z1 g1 rs1 re1 rc h1 => ?_
  refine lE_fl rs1 re1 h1 fun k H2 ρ2 S2 dk z2 g2 rs2 re2 rk h2 => ?_
  refine ⟨ρ2, S2, dc, dk, rs2, rc.grow g2, rk, OKo.mono (OKo.fl h2) fun x H3 z3 ⟨ρ3, S3, dx, g3, rs3, rx, h3⟩ => ?_⟩
  have re3 := re2.grow g3
  refine lE_fl rs3 re3 h3 fun y H4 ρ4 S4 dy z4 g4 rs4 re4 ry h4 => ?_
  refine ⟨ρ4, S4, dx, dy, rs4, rx.grow g4, ry, OKo.mono (OKo.fl h4) fun w H5 z5 ⟨ρ5, S5, dz, g5, rs5, rz, h5⟩ => ?_⟩
  have re5 := re4.grow g5
  have gg := ((g2.trans g3).trans g4).trans g5
  refine ⟨ρ5, S5, dc, dk, dz, rs5, rc.grow gg, rk.grow ((g3.trans g4).trans g5), rz, OKo.mono (OKo.fl h5) fun _ H6 z6 ⟨ρ6, S6, _, g6, rs6, _, h6⟩ => ?_⟩
  exact fun _ => h6 ρ6 H6 _ Grow.refl rs6 (re5.grow g6) z6

/-! ### raise -/
structure ExcK (X : Cx) (Γ : Gx) (cl : Nat → Addr) : Prop where
  ex : ∀ x c, Γ.exc.lookup x = some c → PySem.W.excIn X.K (cl c) He.veBase "ValueError.__new__" = true ∧ X.mg x = some (.ref (cl c)) ∧ PySem.W.keepIn X.K (.ref (cl c)) = true ∧ PySem.W.subIn X.K (.ref (cl c)) (.type "BaseException") = some true ∧ PySem.W.typeIn X.K (.ref (cl c)) = some (.type "type")
theorem s_raise {x m : Str} {j c : Nat} {p p2 pos pos2 : Pos} (hc : X.calm = true) (tk : Takes X (fun c d _ H => E c d H)) (ek : ExcK X Γ cl) (hx : Γ.exc.lookup x = some c) (hg : Gl X x) (hdb : (x == ("__debug__" : Str)) = false) :
    PS X (.Raise (some (.Call (.Name x p) [.Constant (.str m) j p2] [] pos)) none pos2) (lS X.K cl E (sRaise c)) := by
  obtain ⟨e1, e2, e3, e4, e5⟩ := ek.ex x c hx
  refine PS.via (ps_raise hc tk (pmk_own PySem.F.excBase_ValueError e1 e2 e3 (raises_own e4 e5) hg hdb)) fun D σ H z ⟨ρ, env, S, rs, re, h⟩ => ?_
  exact h ρ H Grow.refl rs

/-! ### the whole -/
def isComp : Expr → Bool
  | .ListComp _ _ _ _ => true
  | .SetComp _ _ _ _ => true
  | .DictComp _ _ _ _ _ => true
  | _ => false
theorem swaps_plain {t e : Expr} {l : Nat} {env : PySem.Env} (h : isComp e = false ∨ isName t = false) : swapsWithSole [t] e l env = pure false := by
  unfold swapsWithSole swapsWith
  cases e with
  | ListComp _ _ _ _ => rcases h with h | h; cases h; cases t <;> first | rfl | cases h
  | SetComp _ _ _ _ => rcases h with h | h; cases h; cases t <;> first | rfl | cases h
  | DictComp _ _ _ _ _ => rcases h with h | h; cases h; cases t <;> first | rfl | cases h
  | _ => rfl
theorem swaps_none {e : Expr} {l : Nat} {env : PySem.Env} (h : isComp e = false) : swapsWith e none l env = pure false := by
  unfold swapsWith
  cases e <;> first | rfl | cases h
def lcSame (py : Pos) (y : Str) (pos : Pos) (scope : Scope) : Bool := (py.line == pos.line) && !(scope.names.any fun (n, k) => n == y && (k == .local || k == .cell))
theorem sw_false {elt : Expr} {gs : List Comprehension} {scope : Scope} {pos py : Pos} {y : Str} {l : Nat} {env : PySem.Env} (ha : lcSame py y pos scope = false) : swapsWith (.ListComp elt gs scope pos) (some (.Name y py)) l env = pure false := by
  unfold lcSame at ha
  unfold swapsWith
  show pure (env.blockKind == .function && env.kindOf y == some .local && py.line == pos.line && !(scope.names.any fun (n, k) => n == y && (k == .local || k == .cell))) = pure false
  rw [Bool.and_assoc (b := (py.line == pos.line)), ha, Bool.and_false]
theorem sw_cell {elt : Expr} {gs : List Comprehension} {scope : Scope} {pos py : Pos} {y : Str} {l : Nat} {env : PySem.Env} (h : env.scope.names.lookup y = some .cell) : swapsWith (.ListComp elt gs scope pos) (some (.Name y py)) l env = pure false := by
  have k : env.kindOf y = some .cell := h
  unfold swapsWith
  show pure (env.blockKind == .function && env.kindOf y == some .local && py.line == pos.line && !(scope.names.any fun (n, k) => n == y && (k == .local || k == .cell))) = pure false
  have e : (env.kindOf y == some NameKind.local) = false := by rw [k]; rfl
  rw [e, Bool.and_false, Bool.false_and, Bool.false_and]
section
variable (Γ : Gx) (N : List Str) (sc : Scope)
def dPar (n : Nat) (ts es : List Expr) : SS :=
  if (!es.any isStar) && ((!es.all (constantsAlone 8)) && decide (sc.kind = .function)) then (match ts, es with
    | [t1, t2], [a, b] => match locSlot N sc t1.pos.line t1, locSlot N sc t1.pos.line t2 with
      | some (_, i), some (_, j) => if i ≠ j then sPar [i, j] (dArgs (dE Γ N n sc) [a, b]) else sBad
      | _, _ => sBad
    | [t1, t2, t3], [a, b, c] => match locSlot N sc t1.pos.line t1, locSlot N sc t1.pos.line t2, locSlot N sc t1.pos.line t3 with
      | some (_, i), some (_, j), some (_, l) => if i ≠ j ∧ i ≠ l ∧ j ≠ l then sPar [i, j, l] (dArgs (dE Γ N n sc) [a, b, c]) else sBad
      | _, _, _ => sBad
    | _, _ => sBad)
  else sBad
def plainPar (ts es : List Expr) : Bool := !(ts.length == 2 || ts.length == 3) || (!ts.all (parName sc (headLine ts)) || es.all (foldedForSure 8))
def dAsg (n : Nat) (t e : Expr) : SS := match t, e with
  | .Tuple ts _ _, .Tuple es _ _ => if plainPar sc ts es then sAsg (dE Γ N n sc e) (dTgt N sc (fun _ => true) none (dE Γ N n sc) n t) else dPar Γ N sc n ts es
  | .Name y _, .ListComp elt gs scope pos => match gs with
    | [c] => match slotN N y with
      | some i => if decide (sc.kind = .function) && (decide (sc.names.lookup y = some .local) || decide (sc.names.lookup y = some .cell)) then sAsg (dLC N (Γ.mt pos) sc (dE Γ N n sc) (dE Γ N n) (dT Γ N n) elt c scope) (gSet i) else sBad
      | none => sBad
    | _ => sBad
  | t, e => if isListE t || (isStar t || (isName t && isComp e)) then sBad else sAsg (dE Γ N n sc e) (dTgt N sc (fun _ => true) none (dE Γ N n sc) n t)
mutual
def dS : Nat → Stmt → SS
  | 0, _ => sBad
  | n + 1, s => match s with
    | .Assign [t] e _ => dAsg Γ N sc n t e
    | .AugAssign t op e _ => match augV op with
      | some f => (match t with
        | .Name x _ => match slotN N x with
          | some i => if decide (sc.names.lookup x = some .local) || decide (sc.names.lookup x = some .cell) then sAug i f (dE Γ N n sc e) else sBad
          | none => sBad
        | .Subscript o i _ => if isSlice i then sBad else sAugG (dE Γ N n sc o) (dE Γ N n sc i) f (dE Γ N n sc e)
        | _ => sBad)
      | none => sBad
    | .Return v _ => match v with
      | some e => sRet (dE Γ N n sc e)
      | none => sRet (mC .non)
    | .Expr e _ => match e with
      | .Constant (.str _) _ _ => sNil
      | e => if isComp e then sBad else sExpr (dE Γ N n sc e)
    | .If c a b _ => sIf (dT Γ N n sc c) (dB n a) (dB n b)
    | .While c body orelse _ => match orelse with
      | [] => whileL (dT Γ N n sc c) (dB n body) Γ.wf
      | _ => sBad
    | .For t iter body orelse _ => match orelse with
      | [] => if isSet iter then sBad else sFor (dIter sc (dE Γ N n sc) t iter) (dTgt N sc (fun _ => true) none (dE Γ N n sc) n t) (dB n body)
      | _ => sBad
    | .Pass _ => sNil
    | .Break _ => fun env S => .bk env S
    | .Continue _ => fun env S => .ct env S
    | .Raise (some (.Call (.Name x _) [.Constant (.str _) _ _] [] _)) none _ => if globB sc x then (match Γ.exc.lookup x with
      | some c => sRaise c
      | none => sBad) else sBad
    | _ => sBad
def dB : Nat → List Stmt → SS
  | 0, _ => sBad
  | _ + 1, [] => sNil
  | n + 1, s :: ss => sSeq (dS n s) (dB n ss)
end
end
end
end Mir
end

section
set_option Elab.async false
set_option linter.all false
set_option maxRecDepth 100000
set_option maxHeartbeats 4000000
/-! Mir12: bodies are what they do. -/
namespace Mir
open PySem PySem.Spec L2
section
variable {X : Cx} {Γ : Gx} {cl : Nat → Addr} {E : XK} {N : List Str} {sc : Scope} {k : Nat}
theorem bnot_f {b : Bool} (h : (!b) = true) : b = false := by simpa using h
theorem dPar_ok (C : Cond X Γ cl E N sc (fun _ => true) k) {n : Nat} {ts es : List Expr} {kt k2 : Nat} {pt pt2 pos : Pos} (hp : plainPar sc ts es = false) : PS X (.Assign [.Tuple ts kt pt] (.Tuple es k2 pt2) pos) (lS X.K cl E (dPar Γ N sc n ts es)) := by
  have fE := (dE_ok (Γ := Γ) (cl := cl) (N := N) (k := k) n).1 X E sc _ C
  have hN : X.N.Nodup := by rw [C.eN]; exact C.nd
  unfold plainPar at hp
  rw [Bool.or_eq_false_iff, Bool.or_eq_false_iff] at hp
  obtain ⟨_, _, hf⟩ := hp
  unfold dPar
  split
  · rename_i hc
    rw [Bool.and_eq_true, Bool.and_eq_true, decide_eq_true_eq] at hc
    obtain ⟨hs, hk, hfn⟩ := hc
    have hs := bnot_f hs
    have hk := bnot_f hk
    have hfn : X.env.scope.kind = .function := by rw [C.eS]; exact hfn
    split
    · split
      · rename_i t1 t2 a b _ _ x i y j h1 h2
        split
        · rename_i hij
          obtain ⟨⟨px, rfl, lx⟩, hx, hi⟩ := locSlot_ok h1
          obtain ⟨⟨py, rfl, ly⟩, hy, hj⟩ := locSlot_ok h2
          rw [← C.eN] at hi hj
          rw [← C.eS] at hx hy
          have ne : x ≠ y := fun e => hij (nodup_ix hN hi (e ▸ hj))
          have ly : py.line = px.line := ly
          exact s_par2 C.calm hN hi hj hij hx hy (dArgs_ok fE _) (sw_two hfn hx hy ly ne hs hf hk)
        · exact ps_bad
      · exact ps_bad
    · split
      · rename_i t1 t2 t3 a b c _ _ x i y j z l h1 h2 h3
        split
        · rename_i hij
          obtain ⟨hij, hil, hjl⟩ := hij
          obtain ⟨⟨px, rfl, lx⟩, hx, hi⟩ := locSlot_ok h1
          obtain ⟨⟨py, rfl, ly⟩, hy, hj⟩ := locSlot_ok h2
          obtain ⟨⟨pz, rfl, lz⟩, hz, hl⟩ := locSlot_ok h3
          rw [← C.eN] at hi hj hl
          rw [← C.eS] at hx hy hz
          have ne : x ≠ y := fun e => hij (nodup_ix hN hi (e ▸ hj))
          have ne2 : x ≠ z := fun e => hil (nodup_ix hN hi (e ▸ hl))
          have ne3 : y ≠ z := fun e => hjl (nodup_ix hN hj (e ▸ hl))
          have ly : py.line = px.line := ly
          have lz : pz.line = px.line := lz
          exact s_par3 C.calm hN hi hj hl hij hil hjl hx hy hz (dArgs_ok fE _) (sw_three hfn hx hy hz ly lz ne ne2 ne3 hs hf hk)
        · exact ps_bad
      · exact ps_bad
    · exact ps_bad
  · exact ps_bad
theorem assign_one1 {t : Expr} {env : PySem.Env} (h : isStar t = false) : (assignEach [t] env).map (·.2) = [assign t env] := by
  rw [assign_one h]; rfl
theorem dAsg_ok (C : Cond X Γ cl E N sc (fun _ => true) k) {n : Nat} {t e : Expr} {pos : Pos} : PS X (.Assign [t] e pos) (lS X.K cl E (dAsg Γ N sc n t e)) := by
  have fE := (dE_ok (Γ := Γ) (cl := cl) (N := N) (k := k) n).1 X E sc _ C
  have hN : X.N.Nodup := by rw [C.eN]; exact C.nd
  have gT := fun t => dTgt_ok C (ow := none) fE n t
  unfold dAsg
  split
  · split
    · rename_i hp
      refine s_asg (fE _) (gT _) (swaps_plain (.inr rfl)) (sw_many ?_) (assign_one1 rfl)
      unfold plainPar at hp
      rw [Bool.or_eq_true, Bool.or_eq_true, Bool.not_eq_true', Bool.not_eq_true'] at hp
      rw [C.eS]
      exact hp
    · rename_i hp
      exact dPar_ok C (by simpa using hp)
  · split
    · rename_i y py elt scope pos2 gs c
      split
      · rename_i i hi
        split
        · rename_i hc
          rw [Bool.and_eq_true, Bool.or_eq_true, decide_eq_true_eq, decide_eq_true_eq, decide_eq_true_eq] at hc
          have hfn : X.env.scope.kind = .function := by rw [C.eS]; exact hc.1
          rcases hc.2 with hy | hy
          rotate_left
          · have hy : X.env.scope.names.lookup y = some .cell := by rw [C.eS]; exact hy
            have D := dE_ok (Γ := Γ) (cl := cl) (N := N) (k := k) n
            exact s_asg (dLC_ok C D.1 D.2) (g_name hN (by rw [C.eN]; exact slot_ix hi) (.inr hy) (.inl (C.hfb _ rfl)) fun _ e => by cases e) (sw_cell (l := pos.line) hy) (sw_plain (.inl rfl) fun _ _ e => by cases e) (assign_one1 rfl)
          have hy : X.env.scope.names.lookup y = some .local := by rw [C.eS]; exact hy
          have hix : X.N[i]? = some y := by rw [C.eN]; exact slot_ix hi
          have D := dE_ok (Γ := Γ) (cl := cl) (N := N) (k := k) n
          cases hsame : lcSame py y pos2 scope with
          | false =>
            exact s_asg (dLC_ok C D.1 D.2) (g_name hN hix (.inl hy) (.inr hy) fun _ e => by cases e) (sw_false (l := pos.line) hsame) (sw_plain (.inl rfl) fun _ _ e => by cases e) (assign_one1 rfl)
          | true =>
            unfold lcSame at hsame
            rw [Bool.and_eq_true] at hsame
            obtain ⟨tg, iter, ifs, asy⟩ := c
            unfold dLC
            split
            · rename_i h
              rw [Bool.and_eq_true, Bool.and_eq_true, decide_eq_true_eq] at h
              obtain ⟨h1, h2, h3⟩ := h
              cases h2
              have h3 : isSet iter = false := by simpa using h3
              have ok : BlkOk X.N X.env.scope scope (ownOf N scope) := by rw [C.eN, C.eS]; exact blkOk_by h1
              have tgt := fun (s : Shared) (H : Hp) (A : Addr) (cs : List (Str × Addr)) (fp : List Addr) => dTgt_ok (C.blk (s := s) (H := H) (scope := scope) (cs := cs) (A := A) (fp := fp)) (ow := some ((ownOf N scope).map (·.2))) (fs := fun _ => mBad) (fun e => pe_bad) 3 tg
              have elm := fun (s : Shared) (H : Hp) (A : Addr) (cs : List (Str × Addr)) (fp : List Addr) => D.1 _ _ _ _ (C.blk (s := s) (H := H) (scope := scope) (cs := cs) (A := A) (fp := fp)) elt
              refine s_setLc C.calm hN hix hy (sw_true hfn hy hsame.1 (by simpa using hsame.2)) (dIter_ok C fE iter) ok tgt (fun s H A cs fp => ?_) elm (folded_ok h3)
              show PTs _ ifs (lT _ _ _ (dIfs _ ifs))
              unfold dIfs
              split
              · refine ⟨fun pins s σ H Q I q => pts_nil.run pins s σ H Q I ?_⟩
                obtain ⟨ρ, env, S, rs, re, q⟩ := q
                exact q ρ H true Grow.refl rs rfl (siz_of I.hok)
              · exact pts_one (D.2 _ _ _ _ C.blk _)
              · exact ⟨fun _ _ _ _ _ _ ⟨_, _, _, _, _, h⟩ => h.elim⟩
            · exact ⟨fun _ _ _ _ _ _ ⟨_, _, _, _, _, h⟩ => h.elim⟩
        · exact ps_bad
      · exact ps_bad
    · exact ps_bad
  · rename_i h1 h2
    split
    · exact ps_bad
    · rename_i hc
      rw [Bool.or_eq_true, Bool.or_eq_true, not_or, not_or, Bool.and_eq_true, not_and] at hc
      obtain ⟨c1, c0, c2⟩ := hc
      · refine s_asg (fE _) (gT _) (swaps_plain ?_) (sw_plain ?_ ?_) (assign_one1 (by simpa using c0))
        · cases q : isName t with
          | false => exact .inr rfl
          | true => exact .inl (by simpa using c2 q)
        · cases q : isTuple t with
          | false => exact .inl rfl
          | true =>
            refine .inr ?_
            cases t with
            | Tuple ts kt pt =>
              cases e with
              | Tuple es ke pe => exact (h1 ts kt pt es ke pe rfl rfl).elim
              | _ => rfl
            | _ => cases q
        · rintro ts p rfl
          exact c1 rfl

/-! ### the whole -/
theorem dS_ok (C : Cond X Γ cl E N sc (fun _ => true) k) (ek : ExcK X Γ cl) (hp : PassesOwn (model X.prog X.w) X.A X.env X.xe) : ∀ n, (∀ s, PS X s (lS X.K cl E (dS Γ N sc n s))) ∧ (∀ ss, PSs X ss (lS X.K cl E (dB Γ N sc n ss)))
  | 0 => ⟨fun s => by unfold dS; exact ps_bad, fun ss => by unfold dB; exact ⟨fun _ _ _ _ _ _ ⟨_, _, _, _, _, h⟩ => h.elim⟩⟩
  | n + 1 => by
    obtain ⟨hS, hB⟩ := dS_ok C ek hp n
    have fE := (dE_ok (Γ := Γ) (cl := cl) (N := N) (k := k) n).1 X E sc _ C
    have fT := (dE_ok (Γ := Γ) (cl := cl) (N := N) (k := k) n).2 X E sc _ C
    have hN : X.N.Nodup := by rw [C.eN]; exact C.nd
    have u := C.u
    have gT := fun t => dTgt_ok C (ow := none) fE n t
    refine ⟨fun s => ?_, fun ss => ?_⟩
    · unfold dS
      split
      · exact dAsg_ok C
      · split
        · rename_i h
          split
          · split
            · rename_i x _ _ i hi
              split
              · rename_i hc
                rw [Bool.or_eq_true, decide_eq_true_eq, decide_eq_true_eq, ← C.eS] at hc
                exact s_aug hN (by rw [C.eN]; exact slot_ix hi) hc (fE _) (aug_ok h) (.inl (C.hfb _ rfl))
              · exact ps_bad
            · exact ps_bad
          · split
            · exact ps_bad
            · rename_i o i _ hs
              refine s_augS (by omega) (fE _) (fE _) (fE _) (aug_ok h) fun a b c => ?_
              cases i <;> first | rfl | exact absurd rfl hs
          · exact ps_bad
        · exact ps_bad
      · split
        · exact s_ret (fE _)
        · exact s_retN
      · split
        · exact s_doc
        · split
          · exact ps_bad
          · rename_i h
            exact s_expr (fE _) (swaps_none (by simpa using h))
      · exact s_if (fT _) (hB _) (hB _)
      · split
        · exact s_while hp (fT _) (hB _)
        · exact ps_bad
      · split
        · split
          · exact ps_bad
          · rename_i h
            exact s_for hp C.calm (dIter_ok C fE _) (gT _) (hB _) (folded_ok (by simpa using h))
        · exact ps_bad
      · exact s_pass
      · exact s_break
      · exact s_cont
      · split
        · rename_i hg
          obtain ⟨g1, g2⟩ := glob_of C hg
          split
          · rename_i hx
            exact s_raise C.calm C.tk ek hx g1 g2
          · exact ps_bad
        · exact ps_bad
      · exact ps_bad
    · unfold dB
      split
      · rename_i e; cases e
      · exact s_nil
      · rename_i e; cases e; exact s_cons (hS _) (hB _)
end
end Mir
end

section
set_option Elab.async false
set_option linter.all false
set_option maxRecDepth 100000
set_option maxHeartbeats 4000000
/-! Mir13: defs are what they do. -/
namespace Mir
open PySem PySem.Spec L2

/-! ### no reference from n on; equality -/
mutual
def D.lt (n : Nat) : D → Bool
  | .tup xs => lts n xs
  | .lst xs => lts n xs
  | .ref m => Nat.blt m n
  | _ => true
def lts (n : Nat) : List D → Bool
  | [] => true
  | x :: xs => x.lt n && lts n xs
end
mutual
def D.same : D → D → Bool
  | .non, .non => true
  | .bl a, .bl b => a == b
  | .int a, .int b => a == b
  | .str a, .str b => decide (a = b)
  | .tup xs, .tup ys => sames xs ys
  | .lst xs, .lst ys => sames xs ys
  | .ref a, .ref b => a == b
  | .scr a, .scr b => a == b
  | _, _ => false
def sames : List D → List D → Bool
  | [], [] => true
  | x :: xs, y :: ys => x.same y && sames xs ys
  | _, _ => false
end
mutual
theorem D.same_ok : ∀ {a b : D}, a.same b = true → a = b
  | .non, b, h => by cases b <;> first | rfl | cases h
  | .bl _, b, h => by cases b <;> first | (simp [D.same] at h; rw [h]) | cases h
  | .int _, b, h => by cases b <;> first | (simp [D.same] at h; rw [h]) | cases h
  | .str _, b, h => by cases b <;> first | (simp [D.same] at h; rw [h]) | cases h
  | .tup xs, b, h => by
    cases b with
    | tup ys => unfold D.same at h; rw [sames_ok h]
    | _ => simp [D.same] at h
  | .lst xs, b, h => by
    cases b with
    | lst ys => unfold D.same at h; rw [sames_ok h]
    | _ => simp [D.same] at h
  | .ref _, b, h => by cases b <;> first | (simp [D.same] at h; rw [h]) | cases h
  | .scr _, b, h => by cases b <;> first | (simp [D.same] at h; rw [h]) | cases h
theorem sames_ok : ∀ {a b : List D}, sames a b = true → a = b
  | [], b, h => by cases b <;> first | rfl | cases h
  | x :: xs, b, h => by
    cases b with
    | nil => cases h
    | cons y ys =>
      unfold sames at h
      rw [Bool.and_eq_true] at h
      rw [D.same_ok h.1, sames_ok h.2]
end
mutual
theorem D.same_refl : ∀ a : D, a.same a = true
  | .non => by simp [D.same]
  | .bl _ => by simp [D.same]
  | .int _ => by simp [D.same]
  | .str _ => by simp [D.same]
  | .tup xs => by unfold D.same; exact sames_refl xs
  | .lst xs => by unfold D.same; exact sames_refl xs
  | .ref _ => by simp [D.same]
  | .scr _ => by simp [D.same]
theorem sames_refl : ∀ a : List D, sames a a = true
  | [] => by simp [sames]
  | x :: xs => by unfold sames; rw [D.same_refl x, sames_refl xs]; rfl
end
def kvLt (n : Nat) : List (D × D) → Bool
  | [] => true
  | p :: r => p.1.lt n && (p.2.lt n && kvLt n r)
def kvSame : List (D × D) → List (D × D) → Bool
  | [], [] => true
  | p :: r, q :: r' => p.1.same q.1 && (p.2.same q.2 && kvSame r r')
  | _, _ => false
def Ob.lt (n : Nat) : Ob → Bool
  | .lst xs => lts n xs
  | .dic _ kvs => kvLt n kvs
def Ob.same : Ob → Ob → Bool
  | .lst xs, .lst ys => sames xs ys
  | .dic t kvs, .dic t' kvs' => (t == t') && kvSame kvs kvs'
  | _, _ => false
theorem kvSame_ok : ∀ {a b : List (D × D)}, kvSame a b = true → a = b
  | [], b, h => by cases b <;> first | rfl | cases h
  | (x, y) :: xs, b, h => by
    cases b with
    | nil => cases h
    | cons q ys =>
      obtain ⟨u, v⟩ := q
      unfold kvSame at h
      rw [Bool.and_eq_true, Bool.and_eq_true] at h
      have h1 := D.same_ok h.1
      have h2 := D.same_ok h.2.1
      dsimp only at h1 h2
      rw [h1, h2, kvSame_ok h.2.2]
theorem kvSame_refl : ∀ a : List (D × D), kvSame a a = true
  | [] => rfl
  | x :: xs => by unfold kvSame; rw [D.same_refl, D.same_refl, kvSame_refl xs]; rfl
theorem Ob.same_ok {a b : Ob} (h : a.same b = true) : a = b := by
  cases a <;> cases b <;> first | cases h | skip
  · exact congrArg Ob.lst (sames_ok h)
  · unfold Ob.same at h
    rw [Bool.and_eq_true] at h
    have h1 := h.1
    simp at h1
    rw [h1, kvSame_ok h.2]
theorem Ob.same_refl : ∀ a : Ob, a.same a = true
  | .lst xs => sames_refl xs
  | .dic t kvs => by show ((t == t) && kvSame kvs kvs) = true; rw [kvSame_refl]; simp
/-- the old objects are as they were, or refer to old ones alone -/
def backOk (n : Nat) : Store → Store → Bool
  | [], _ => true
  | _ :: _, [] => false
  | o :: S, o' :: S' => (o'.lt n || o.same o') && backOk n S S'
theorem backOk_app {n : Nat} : ∀ (S T : Store), backOk n S (S ++ T) = true
  | [], _ => rfl
  | o :: S, T => by
    show ((o.lt n || o.same o) && backOk n S (S ++ T)) = true
    rw [Ob.same_refl, backOk_app S T, Bool.or_true]; rfl
theorem backOk_get {n : Nat} : ∀ {S S' : Store} {i : Nat} {o' : Ob}, backOk n S S' = true → i < S.length → S'[i]? = some o' → (∃ o, S[i]? = some o ∧ o = o') ∨ o'.lt n = true
  | [], _, _, _, _, h, _ => by simp at h
  | _ :: _, [], _, _, h, _, _ => by cases h
  | o :: S, p :: S', i, o', h, hi, e => by
    unfold backOk at h
    rw [Bool.and_eq_true, Bool.or_eq_true] at h
    cases i with
    | zero =>
      simp at e
      subst e
      rcases h.1 with h | h
      · exact .inr h
      · exact .inl ⟨o, rfl, Ob.same_ok h⟩
    | succ i => exact backOk_get (i := i) h.2 (by simpa using hi) (by simpa using e)
theorem backOk_len {n : Nat} : ∀ {S S' : Store}, backOk n S S' = true → S.length ≤ S'.length
  | [], _, _ => Nat.zero_le _
  | _ :: _, [], h => by cases h
  | o :: S, p :: S', h => by
    unfold backOk at h
    rw [Bool.and_eq_true] at h
    simp only [List.length_cons]
    exact Nat.succ_le_succ (backOk_len h.2)
/-- what is told to the caller -/
def outD (n : Nat) (S' : Store) (d : D) : Option D := match d with
  | .ref m => if Nat.blt m n then some (.ref m) else (match S'[m]? with
    | some (.lst xs) => if lts n xs then some (.lst xs) else none
    | _ => none)
  | d => if d.lt n then some d else none
def finish (keep : Bool) (S : Store) : Fl → Out D
  | .rt d S' => if keep then .ok d S' else if backOk S.length S S' then (match outD S.length S' d with
    | some d' => .ok d' (S'.take S.length)
    | none => .bad) else .bad
  | .nx _ S' => if keep then .ok .non S' else if backOk S.length S S' then .ok .non (S'.take S.length) else .bad
  | .ex c S' => if keep then .ex c S' else if backOk S.length S S' then .ex c (S'.take S.length) else .bad
  | _ => .bad
section
variable {K : PySem.W.Frag} {ρ ρ' : Rho} {H H' : Hp}
mutual
theorem RD.lt : ∀ {d : D} {v : V}, RD K ρ H d v → d.lt ρ.l.length = true
  | .non, _, _ => by simp [D.lt]
  | .bl _, _, _ => by simp [D.lt]
  | .int _, _, _ => by simp [D.lt]
  | .str _, _, _ => by simp [D.lt]
  | .tup ds, v, h => by
    unfold RD at h
    obtain ⟨a, vs, e, h1, h2⟩ := h
    unfold D.lt
    exact RDs.lt h2
  | .lst ds, v, h => by
    unfold RD at h
    obtain ⟨a, vs, e, h1, h2⟩ := h
    unfold D.lt
    exact RDs.lt h2
  | .ref n, v, h => by
    unfold RD at h
    obtain ⟨a, e, h1⟩ := h
    unfold D.lt
    have := (List.getElem?_eq_some_iff.mp h1).1
    simpa [Nat.blt_eq] using this
  | .scr ns, v, _ => by simp [D.lt]
theorem RDs.lt : ∀ {ds : List D} {vs : List V}, RDs K ρ H ds vs → lts ρ.l.length ds = true
  | [], _, _ => by simp [lts]
  | d :: ds, vs, h => by
    unfold RDs at h
    obtain ⟨v, r, e, h1, h2⟩ := h
    unfold lts
    rw [RD.lt h1, RDs.lt h2]; rfl
end
/-- the places from n on are let go -/
def Rho.cut (ρ : Rho) (n : Nat) : Rho := ⟨ρ.l.take n, ρ.h, ρ.t⟩
theorem cut_notin {n : Nat} {a : Addr} (h : a ∉ ρ.all) : a ∉ (ρ.cut n).all := by
  intro z
  rcases List.mem_append.mp z with z | z
  · exact h (List.mem_append_left _ (List.mem_of_mem_take z))
  · exact h (List.mem_append_right _ z)
mutual
theorem RD.cut {n : Nat} : ∀ {d : D} {v : V}, RD K ρ H d v → d.lt n = true → RD K (ρ.cut n) H d v
  | .non, _, h, _ => h
  | .bl _, _, h, _ => h
  | .int _, _, h, _ => h
  | .str _, _, h, _ => h
  | .tup ds, v, h, l => by
    unfold RD at h ⊢
    unfold D.lt at l
    obtain ⟨a, vs, e, h1, h2⟩ := h
    exact ⟨a, vs, e, ⟨h1.1, cut_notin h1.2⟩, RDs.cut h2 l⟩
  | .lst ds, v, h, l => by
    unfold RD at h ⊢
    unfold D.lt at l
    obtain ⟨a, vs, e, h1, h2⟩ := h
    exact ⟨a, vs, e, ⟨h1.1, cut_notin h1.2⟩, RDs.cut h2 l⟩
  | .ref m, v, h, l => by
    unfold RD at h ⊢
    unfold D.lt at l
    obtain ⟨a, e, h1⟩ := h
    refine ⟨a, e, ?_⟩
    have l : m < n := by simpa [Nat.blt_eq] using l
    show (ρ.l.take n)[m]? = _
    rw [List.getElem?_take, if_pos l]
    exact h1
  | .scr ns, v, h, _ => by
    unfold RD at h ⊢
    obtain ⟨a, e, h1⟩ := h
    exact ⟨a, e, h1.imp (fun ⟨o, h1, h2⟩ => ⟨o, h1, cut_notin h2⟩) id⟩
theorem RDs.cut {n : Nat} : ∀ {ds : List D} {vs : List V}, RDs K ρ H ds vs → lts n ds = true → RDs K (ρ.cut n) H ds vs
  | [], _, h, _ => h
  | d :: ds, vs, h, l => by
    unfold RDs at h ⊢
    unfold lts at l
    rw [Bool.and_eq_true] at l
    obtain ⟨v, r, e, h1, h2⟩ := h
    exact ⟨v, r, e, RD.cut h1 l.1, RDs.cut h2 l.2⟩
end
theorem RKV.lt {κ : Type} {kf : D → Option κ} (hk : ∀ d k, kf d = some k → ∀ n, d.lt n = true) {kvs : List (D × D)} {es : List (κ × V)} (h : RKV K ρ H kf kvs es) : kvLt ρ.l.length kvs = true := by
  induction h with
  | nil => rfl
  | cons a t ih =>
    unfold kvLt
    rw [hk _ _ a.1, a.2.lt, ih]; rfl
theorem RKV.cut {κ : Type} {kf : D → Option κ} {n : Nat} {kvs : List (D × D)} {es : List (κ × V)} (h : RKV K ρ H kf kvs es) : kvLt n kvs = true → RKV K (ρ.cut n) H kf kvs es := by
  induction h with
  | nil => exact fun _ => .nil
  | cons a t ih =>
    intro l
    unfold kvLt at l
    rw [Bool.and_eq_true, Bool.and_eq_true] at l
    exact .cons ⟨a.1, a.2.cut l.2.1⟩ (ih l.2.2)
theorem keyD_lt (d : D) (k : Key) (h : keyD d = some k) (n : Nat) : d.lt n = true := by
  cases d <;> first | (simp [D.lt]; done) | (cases h; done)
theorem keysD_lt : ∀ {ds : List D} {ks : List Key}, ds.mapM keyD = some ks → ∀ n, lts n ds = true
  | [], _, _, _ => by simp [lts]
  | d :: ds, ks, h, n => by
    rw [List.mapM_cons] at h
    cases h1 : keyD d with
    | none => rw [h1] at h; cases h
    | some k =>
      rw [h1] at h
      cases h2 : ds.mapM keyD with
      | none => simp [h2] at h
      | some r =>
        unfold lts
        rw [keyD_lt d k h1, keysD_lt h2]; rfl
theorem keyT_lt (d : D) (k : List Key) (h : keyT d = some k) (n : Nat) : d.lt n = true := by
  cases d with
  | tup xs => unfold D.lt; exact keysD_lt h n
  | _ => cases h
theorem ROb.lt {o : Ob} {h : HO} (r : ROb K ρ H o h) : o.lt ρ.l.length = true := by
  cases o with
  | lst ds => obtain ⟨vs, e, r⟩ := r; exact RDs.lt r
  | dic t kvs =>
    cases t with
    | false => obtain ⟨es, e, r⟩ := r; exact RKV.lt keyD_lt r
    | true => obtain ⟨es, e, r⟩ := r; exact RKV.lt keyT_lt r
theorem ROb.cut {n : Nat} {o : Ob} {h : HO} (r : ROb K ρ H o h) (l : o.lt n = true) : ROb K (ρ.cut n) H o h := by
  cases o with
  | lst ds => obtain ⟨vs, e, r⟩ := r; exact ⟨vs, e, RDs.cut r l⟩
  | dic t kvs =>
    cases t with
    | false => obtain ⟨es, e, r⟩ := r; exact ⟨es, e, RKV.cut r l⟩
    | true => obtain ⟨es, e, r⟩ := r; exact ⟨es, e, RKV.cut r l⟩
theorem Grow.cut (g : Grow ρ H ρ' H') : Grow ρ H (ρ'.cut ρ.l.length) H' := by
  obtain ⟨t, e, _⟩ := g.pre
  refine ⟨⟨[], ?_, by simp⟩, g.hid, g.tb, g.fr, g.dom⟩
  show ρ'.l.take ρ.l.length = ρ.l ++ []
  rw [e, List.take_left, List.append_nil]
theorem RelS.cut {S S' : Store} (rs : RelS K ρ S H) (g : Grow ρ H ρ' H') (rs' : RelS K ρ' S' H') (b : backOk S.length S S' = true) : RelS K (ρ'.cut ρ.l.length) (S'.take S.length) H' := by
  have hl := rs.len
  have hl' := rs'.len
  have hb := backOk_len b
  refine ⟨?_, ?_, rs'.tab, rs'.told, fun a ha => ?_, fun n a o h1 h2 => ?_⟩
  · show (ρ'.l.take ρ.l.length).length = (S'.take S.length).length
    rw [List.length_take, List.length_take, hl, hl']
  · exact List.Nodup.sublist (List.take_sublist _ _) rs'.nd
  · obtain ⟨n, o, e⟩ := rs'.hid a ha
    exact ⟨fun z => n (List.mem_of_mem_take z), o, e⟩
  · have h1 : (ρ'.l.take ρ.l.length)[n]? = some a := h1
    rw [List.getElem?_take] at h1 h2
    split at h1
    · rename_i hn
      rw [if_pos (by rw [← hl]; exact hn)] at h2
      obtain ⟨u, e, q⟩ := rs'.ob n a o h1 h2
      refine ⟨u, e, q.cut ?_⟩
      rw [hl]
      rcases backOk_get b (by rw [← hl]; exact hn) h2 with ⟨o', e', rfl⟩ | l
      · obtain ⟨u', _, q'⟩ := rs.ob n ρ.l[n] o' (List.getElem?_eq_getElem hn) e'
        rw [← hl]
        exact q'.lt
      · exact l
    · cases h1
theorem finish_ok {cl : Nat → Addr} {E : XK} {Q : VK} {keep : Bool} {S : Store} {f : Fl} (rs : RelS K ρ S H) (h : OKo K cl E ρ H (RD K) Q (finish keep S f)) : FOK K cl E ρ H { nx := fun _ H' => Q .non H', rt := Q } f := by
  have hl := rs.len
  cases f with
  | bad => exact h
  | bk _ _ => exact (show False from h).elim
  | ct _ _ => exact (show False from h).elim
  | ex c S' =>
    intro ρ' H' g rs'
    unfold finish at h
    dsimp only at h
    split at h
    · exact h ρ' H' g rs'
    · split at h
      · rename_i b
        exact h _ H' g.cut (rs.cut g rs' b)
      · exact h.elim
  | nx e S' =>
    intro ρ' H' σ' g rs' re z
    unfold finish at h
    dsimp only at h
    split at h
    · exact h ρ' H' _ g rs' RD.non z
    · split at h
      · rename_i b
        exact h _ H' _ g.cut (rs.cut g rs' b) RD.non z
      · exact h.elim
  | rt d S' =>
    intro ρ' H' v g rs' rd z
    unfold finish at h
    dsimp only at h
    split at h
    · exact h ρ' H' _ g rs' rd z
    · split at h
      · rename_i b
        split at h
        · rename_i d' hd
          refine h _ H' _ g.cut (rs.cut g rs' b) ?_ z
          unfold outD at hd
          split at hd
          · rename_i m
            split at hd
            · rename_i hm
              cases hd
              refine rd.cut ?_
              unfold D.lt
              rw [hl]; exact hm
            · rename_i hm
              split at hd
              · rename_i xs hS
                split at hd
                · rename_i hx
                  cases hd
                  rw [← hl] at hx
                  unfold RD at rd ⊢
                  obtain ⟨a, rfl, ha⟩ := rd
                  obtain ⟨u, e, vs, rfl, q⟩ := rs'.ob m a _ ha hS
                  refine ⟨a, vs, rfl, ⟨e, fun y => ?_⟩, RDs.cut q hx⟩
                  rcases List.mem_append.mp y with y | y
                  · have y : a ∈ ρ'.l.take ρ.l.length := y
                    obtain ⟨j, hj, ej⟩ := List.getElem_of_mem y
                    rw [List.getElem_take] at ej
                    have hj1 : j < ρ.l.length := by rw [List.length_take] at hj; omega
                    have hj2 : j < ρ'.l.length := by rw [List.length_take] at hj; omega
                    have e1 : ρ'.l[j]? = some a := by rw [List.getElem?_eq_getElem hj2, ej]
                    have hjm : j = m := (List.getElem?_inj hj2 rs'.nd).mp (e1.trans ha.symm)
                    apply hm
                    rw [← hl, ← hjm]
                    simpa [Nat.blt_eq] using hj1
                  · exact (rs'.hid a y).1 (List.mem_of_getElem? ha)
                · cases hd
              · cases hd
          · split at hd
            · rename_i hx
              cases hd
              rw [← hl] at hx
              exact rd.cut hx
            · cases hd
        · exact h.elim
      · exact h.elim
end

/-! ### defs -/
structure DefT where
  name : Str
  ps : List Str
  N : List Str
  keep : Bool
  scope : Scope
  params : Arguments
  body : List Stmt
  fuel : Nat
def dF (Γ : Gx) (d : DefT) : FSem := fun args S =>
  if args.length = d.ps.length then finish d.keep S (dB Γ d.N d.scope d.fuel d.body (args.map some ++ List.replicate (d.N.length - args.length) none) S) else .bad
/-- a def of a body -/
def fF (np nN : Nat) (keep : Bool) (b : SS) : FSem := fun args S => if args.length = np then finish keep S (b (args.map some ++ List.replicate (nN - args.length) none) S) else .bad
theorem start_rel {K : PySem.W.Frag} {ρ : Rho} {H : Hp} : ∀ {ds : List D} {vs : List V}, RDs K ρ H ds vs → ∀ n : Nat, RelE K ρ H (ds.map some ++ List.replicate n none) (vs.map some ++ List.replicate n none) := by
  intro ds vs h n
  have hl := h.length
  refine ⟨by simp [hl], fun i d e => ?_⟩
  by_cases hi : i < ds.length
  · rw [List.getElem?_append_left (by simpa using hi)] at e
    rw [List.getElem?_append_left (by simpa [← hl] using hi)]
    rw [List.getElem?_map] at e ⊢
    cases q : ds[i]? with
    | none => rw [q] at e; cases e
    | some x =>
      rw [q] at e
      cases e
      obtain ⟨v, e1, r⟩ := h.get q
      exact ⟨v, by rw [e1]; rfl, r⟩
  · rw [List.getElem?_append_right (by simpa using hi), List.getElem?_replicate] at e
    split at e <;> cases e
/-- what the text's top promises -/
structure Top (P : Program) (w : World) (K : PySem.W.Frag) (mg : Str → Option Value) (base : Heap) (cl : Nat → Addr) (Γ : Gx) : Prop where
  nums : ∀ x i, Γ.nums.lookup x = some i → ∃ t, mg x = some (.int i t)
  free : ∀ x ∈ bltNames, mg x = none
  ex : ∀ x c, Γ.exc.lookup x = some c → PySem.W.excIn K (cl c) He.veBase "ValueError.__new__" = true ∧ mg x = some (.ref (cl c)) ∧ PySem.W.keepIn K (.ref (cl c)) = true ∧ PySem.W.subIn K (.ref (cl c)) (.type "BaseException") = some true ∧ PySem.W.typeIn K (.ref (cl c)) = some (.type "type")
/-- what a def's lambdas lean on -/
structure LamD (P : Program) (w : World) (K : PySem.W.Frag) (mg : Str → Option Value) (base : Heap) (cl : Nat → Addr) (Γ : Gx) (N : List Str) (k : Nat) (x : Str) (np : Nat) (kd : LK) (fd : FuncData) (qual : Str) : Prop where
  here : ∃ c T, fd.code = .ref c ∧ LamX.TabB base mg c T ∧ (T, qual ++ ".<locals>." ++ "<lambda>") ∈ tabsK K ∧ ∀ p ∈ tabsK K, p.1 = T → p.2 = qual ++ ".<locals>." ++ "<lambda>"
  ex : ∃ j, LamCal P w K mg base cl j k x np kd ∧ (∀ y f, Γ.fns.lookup y = some f → Cal P w K mg base cl j y f) ∧
    ∀ (X' : Cx) (E' : XK) (sc' : Scope), Cond0 X' Γ cl E' N sc' (fun _ => false) j → ∀ e, PE X' e (lE X'.K cl E' (Γ.lb sc' e))
theorem fn_ok {P : Program} {w : World} {K : PySem.W.Frag} {mg : Str → Option Value} {base : Heap} {cl : Nat → Addr} {Γ : Gx} {k : Nat} {d : DefT} {qual : Str} {f : Addr} {fd : FuncData} (T : Top P w K mg base cl Γ) (hf : ∀ x f, Γ.fns.lookup x = some f → Cal P w K mg base cl k x f)
    (F : FunD K d.name qual d.params d.body d.scope [] [] f fd) (S : FnScope d.N d.ps d.scope) (hL : ∀ x np kd, Γ.lam.lookup x = some (np, kd) → LamD P w K mg base cl Γ d.N k x np kd fd qual)
    (hK : Γ.key = true → ∃ c T, fd.code = .ref c ∧ LamX.TabB base mg c T ∧ (T, qual ++ ".<locals>." ++ "<lambda>") ∈ tabsK K ∧ ∀ p ∈ tabsK K, p.1 = T → p.2 = qual ++ ".<locals>." ++ "<lambda>") : FnG P w K mg base (k + 1) f fd d.ps (spM K cl (dF Γ d)) := by
  obtain ⟨oc, od, dV, kV, doc, pm, an, cdv, ct, osl, rfl, lk, hcd, _, _⟩ := F.ex
  have many : ∀ vs H Q E, spM K cl (dF Γ d) vs H Q E → vs.length = d.ps.length := fun vs H Q E h => by
    obtain ⟨ρ, St, ds, rs, rd, h⟩ := h
    unfold dF at h
    split at h
    · rename_i hl
      rw [← hl, rd.length]
    · exact h.elim
  refine ⟨many, fun A outer s H args us vs Q E hr hgd e0 hbt hv h => ?_⟩
  refine LamX.run_ofS lk hcd S hr e0 hbt hv (many _ _ _ _ h) fun hr' => ⟨_, (dS_ok (k := k) (N := d.N) (sc := d.scope) (E := E) (cl := cl) (Γ := Γ) ⟨⟨rfl, S.nd, rfl, rfl, hr', hgd, takes_of rfl rfl rfl rfl, hf, T.nums, T.free, fun _ _ => rfl⟩, fun x np kd h => ⟨⟨(hL x np kd h).here⟩, (hL x np kd h).ex⟩, fun h => ⟨hK h⟩⟩ ⟨T.ex⟩ (passes_of rfl) d.fuel).2 d.body, ?_⟩
  obtain ⟨ρ, St, ds, rs, rd, h⟩ := h
  unfold dF at h
  split at h
  · rename_i hl
    have hl2 := rd.length
    refine ⟨ρ, _, St, rs, ?_, finish_ok rs h⟩
    unfold L2.start
    rw [← hl2]
    exact start_rel rd _
  · exact h.elim
/-- a def of which nothing is told -/
theorem fn_bad {P : Program} {w : World} {K : PySem.W.Frag} {mg : Str → Option Value} {base : Heap} {cl : Nat → Addr} {k : Nat} {f : Addr} {fd : FuncData} {ps : List Str} : FnG P w K mg base k f fd ps (spM K cl fun _ _ => .bad) :=
  ⟨fun _ _ _ _ h => by obtain ⟨_, _, _, _, _, h⟩ := h; exact h.elim, fun _ _ _ _ _ _ _ _ _ _ _ _ _ _ h => by obtain ⟨_, _, _, _, _, h⟩ := h; exact h.elim⟩
end Mir
end

section
set_option Elab.async false
set_option linter.all false
set_option maxRecDepth 100000
set_option maxHeartbeats 4000000
/-! Mir14: the end of a law: the script handed to the law's def. -/
namespace Mir
open PySem PySem.Spec PyProof.Rows L2
/-- what is tracked at the law's call: the tables, the script where it is no object of the written part -/
def hp0 (T : List Addr) (scr : Option (Addr × HO)) : Hp := fun b => if b ∈ T then some (.tbl #[]) else match scr with
  | some (a, o) => if b = a then some o else none
  | none => none
theorem hp0_tab {T : List Addr} {scr : Option (Addr × HO)} {b : Addr} (h : b ∈ T) : hp0 T scr b = some (.tbl #[]) := if_pos h
theorem hp0_scr {T : List Addr} {a : Addr} {o : HO} (h : a ∉ T) : hp0 T (some (a, o)) a = some o := by
  unfold hp0
  rw [if_neg h]
  exact if_pos rfl
theorem hp0_some {T : List Addr} {scr : Option (Addr × HO)} {b : Addr} {u : HO} (h : hp0 T scr b = some u) : (b ∈ T ∧ u = .tbl #[]) ∨ (b ∉ T ∧ scr = some (b, u)) := by
  unfold hp0 at h
  by_cases hb : b ∈ T
  · rw [if_pos hb] at h
    cases h
    exact .inl ⟨hb, rfl⟩
  · rw [if_neg hb] at h
    cases scr with
    | none => cases h
    | some p =>
      obtain ⟨a, o⟩ := p
      dsimp only at h
      by_cases e : b = a
      · rw [if_pos e] at h
        cases h
        subst e
        exact .inr ⟨hb, rfl⟩
      · rw [if_neg e] at h
        cases h
section
variable {P : Program} {w : World} {K : PySem.W.Frag} {mg mb : Str → Option Value} {k : Nat} {fa a : Addr} {cs : List (Addr × Addr)} {fd : FuncData} {x : Str} {sp : Sp} {s : Shared} {vs : List Value} {ns : List Int}
/-- what the end leans on -/
structure AtLaw (w : World) (K : PySem.W.Frag) (mg mb : Str → Option Value) (cs : List (Addr × Addr)) (s : Shared) (a : Addr) (vs : List Value) (ns : List Int) : Prop where
  kin : K.In s.heap
  gl : s.heap.Ns mainGlobals mg
  bl : s.heap.Ns builtinsNs mb
  bb : ∀ x : Str, x ≠ "__name__" → mb x = bootBuiltins x
  lim : s.heap.NoLimit
  gen : s.gens = #[]
  tab : ∀ p ∈ cs, s.heap.get? p.2 = some { cls := .none, data := .fields #[] }
  tabK : ∀ p ∈ cs, K.lookup p.2 = none
  code : ∀ p ∈ cs, PySem.W.CodeHd s.heap p.1 p.2
  bm : ∃ (m : Addr) (o : Obj), mg "__builtins__" = some (.ref m) ∧ m ≠ builtinsNs ∧ s.heap.get? m = some o ∧ o.cls = .type "module" ∧ o.dict = some builtinsNs ∧ o.data = .plain
  scr : s.heap.get? a = some { cls := .type "list", data := .seq vs.toArray }
  nums : IntsAre vs ns
  few : ns.length ≤ sizeLine
theorem AtLaw.notab (L : AtLaw w K mg mb cs s a vs ns) : a ∉ cs.map (·.2) := by
  intro z
  obtain ⟨p, hp, e⟩ := List.mem_map.mp z
  have q := L.tab p hp
  rw [e, L.scr] at q
  cases q
/-- which of the two: tracked or written -/
def AtLaw.which (K : PySem.W.Frag) (a : Addr) (vs : List Value) (ns : List Int) : Option (Addr × HO) := match K.lookup a with
  | some _ => none
  | none => some (a, .frz { cls := .type "list", data := .seq vs.toArray } (.lst (ns.map V.int)))
theorem AtLaw.core (L : AtLaw w K mg mb cs s a vs ns) (hr : Room k callerA)
    (F : ∀ base : Heap, K.In base → base.Ns mainGlobals mg → (∀ p ∈ cs, LamX.TabB base mg p.1 p.2) → FnG P w K mg base k fa fd [x] sp) (bind : ∀ (s : Shared) (u : Value), BindsTo s fd ⟨[u], []⟩ [(x, u)])
    (hsp : ∀ H : Hp, (∀ p ∈ cs, H p.2 = some (.tbl #[])) → (∀ b ps, H b = some (.tbl ps) → b ∈ cs.map (·.2)) → ((∃ o, H a = some (.frz o (.lst (ns.map V.int)))) ∨ InK K a (ns.map V.int)) → sp [.ref a] H (fun v _ => v = .bl true) fun _ _ _ => False) :
    codeAny (model P w) callerA (.call (.ref fa) ⟨[.ref a], []⟩) (fun r s' => r = .ok (.ret (.bool true)) ∧ OldK s.heap s'.heap ∧ s'.os = s.os ∧ AllBare s'.gens) s := by
  have rel := vals_ints L.nums
  have lenV := L.nums.length
  have aT := L.notab
  generalize hH : hp0 (cs.map (·.2)) (AtLaw.which K a vs ns) = H
  have tabs : ∀ p ∈ cs, H p.2 = some (.tbl #[]) := fun p hp => by
    rw [← hH]
    exact hp0_tab (List.mem_map.mpr ⟨p, hp, rfl⟩)
  have told : ∀ b u, H b = some u → (b ∈ cs.map (·.2) ∧ u = .tbl #[]) ∨ (b = a ∧ u = .frz { cls := .type "list", data := .seq vs.toArray } (.lst (ns.map V.int)) ∧ K.lookup a = none) := fun b u e => by
    rw [← hH] at e
    rcases hp0_some e with z | ⟨_, z⟩
    · exact .inl z
    · unfold AtLaw.which at z
      split at z
      · cases z
      · rename_i hk
        cases z
        exact .inr ⟨rfl, rfl, hk⟩
  have isT : ∀ b, b ∈ cs.map (·.2) → s.heap.get? b = some { cls := .none, data := .fields #[] } ∧ K.lookup b = none := fun b hb => by
    obtain ⟨p, hp, rfl⟩ := List.mem_map.mp hb
    exact ⟨L.tab p hp, L.tabK p hp⟩
  have scr : (∃ o, H a = some (.frz o (.lst (ns.map V.int)))) ∨ InK K a (ns.map V.int) := by
    cases hk : K.lookup a with
    | none =>
      refine .inl ⟨{ cls := .type "list", data := .seq vs.toArray }, ?_⟩
      rw [← hH]
      have e : AtLaw.which K a vs ns = some (a, .frz { cls := .type "list", data := .seq vs.toArray } (.lst (ns.map V.int))) := by
        unfold AtLaw.which
        rw [hk]
      rw [e]
      exact hp0_scr aT
    | some o =>
      have e := L.kin a o hk
      rw [L.scr] at e
      cases e
      exact .inr ⟨_, vs.toArray, _, hk, rfl, rfl, rfl, by rw [List.size_toArray, lenV]; exact L.few, by simpa using rel⟩
  have hok : HOk P w H s.heap := fun b u e => by
    rcases told b u e with ⟨h1, rfl⟩ | ⟨rfl, rfl, _⟩
    · exact (isT b h1).1
    · exact ⟨L.scr, by rw [List.length_map]; exact L.few, vs, _, rel, L.scr⟩
  -- what stays in sight
  have seen : ∀ b o, s.heap.get? b = some o → (∀ vs n, o.data ≠ .seq vs n) → o.data ≠ .fields #[] → (hidT s.heap H).get? b = some o := fun b o e h1 h2 => by
    refine hidT_get e ?_
    cases q : H b with
    | none => rfl
    | some u =>
      rcases told b u q with ⟨z, _⟩ | ⟨z, _⟩
      · rw [(isT b z).1] at e; cases e; exact absurd rfl h2
      · rw [z, L.scr] at e; cases e; exact absurd rfl (h1 _ _)
  have kin : K.In (hidT s.heap H) := fun b o e => by
    refine hidT_get (L.kin b o e) ?_
    cases q : H b with
    | none => rfl
    | some u =>
      rcases told b u q with ⟨z, _⟩ | ⟨z, _, hk⟩
      · rw [(isT b z).2] at e; cases e
      · rw [z, hk] at e; cases e
  have nsS : ∀ {b : Addr} {m : Str → Option Value}, s.heap.Ns b m → (hidT s.heap H).Ns b m := fun {b m} ⟨o, es, ep, e, d, r⟩ =>
    ⟨o, es, ep, seen b o e (fun _ _ z => by rw [d] at z; cases z) (fun z => by rw [d] at z; cases z), d, r⟩
  have mod : L2.Mod K mg (hidT s.heap H) := by
    obtain ⟨mc, l1, l2⟩ := L.lim
    exact ⟨kin, nsS L.gl, ⟨mb, nsS L.bl, L.bb⟩, ⟨mc, nsS l1, l2⟩⟩
  have tb : ∀ p ∈ cs, LamX.TabB (hidT s.heap H) mg p.1 p.2 := fun p hp => by
    refine ⟨?_, ?_, fun z => ?_⟩
    · obtain ⟨o, us, file, tf, flags, tg, inF, text, tt, e1, r1, r2, r3, r⟩ := L.code p hp
      refine ⟨o, us, file, tf, flags, tg, inF, text, tt, seen _ o e1 (fun _ _ z => by rw [r2] at z; cases z) (fun z => ?_), r1, r2, r3, r⟩
      rw [r2] at z
      cases z
      simp at r3
    · obtain ⟨m, o, b1, b2, b3, b4, b5, b6⟩ := L.bm
      have g1 : m ≠ mainGlobals := fun q => by
        obtain ⟨o', es, ep, e, hd, _⟩ := L.gl
        rw [q, e] at b3
        cases b3
        rw [hd] at b6
        cases b6
      have g2 : m ≠ p.2 := fun q => by
        rw [q, L.tab p hp] at b3
        cases b3
        cases b6
      exact ⟨m, o, b1, b2, g1, g2, seen m o b3 (fun _ _ z => by rw [b6] at z; cases z) (fun z => by rw [b6] at z; cases z), b4, b5, b6⟩
    · obtain ⟨o, es, ep, e, hd, _⟩ := L.gl
      rw [z, L.tab p hp] at e
      cases e
      cases hd
  have e0 : Env0 P w K mg (hidT s.heap H) callerA [] s H := ⟨rfl, mod, fun b o e => of_hidT e, Nat.le_of_eq (hidT_size _ _), trivial, fun b hb => absurd (show b ∈ ([] : List Addr) from hb) (by simp), hok, .of_eq L.gen⟩
  refine codeAny_mono ((F _ kin (nsS L.gl) tb).does callerA [] s H ⟨[.ref a], []⟩ [.ref a] [.ref a] _ _ hr rfl e0 (bind s (.ref a)) (.cons rfl .nil) (hsp H tabs (fun b ps e => (told b _ e).elim (fun z => z.1) fun z => by cases z.2.1) scr)) fun r s2 h => ?_
  cases r with
  | error e =>
    obtain ⟨_, _, _, _, _, _, _, _, _, _, _, _, z⟩ := (show L2.CX P w [] H s (fun _ _ _ => False) e s2 from h)
    exact z.elim
  | ok fl =>
    cases fl with
    | next => exact False.elim h
    | brk => exact False.elim h
    | cont => exact False.elim h
    | ret u =>
      obtain ⟨v, H2, os, bare, un, ok2, ru, q⟩ := h
      cases (show v = .bl true from q)
      cases (show u = Value.bool true from ru)
      have kept : ∀ b o, b ∉ cs.map (·.2) → s.heap.get? b = some o → s2.heap.get? b = some o := fun b o nb e => by
        cases z : H b with
        | none => exact un.keep b o e z (fun y => absurd (show b ∈ ([] : List Addr) from y) (by simp)) (by simp)
        | some u =>
          rcases told b u z with ⟨y, _⟩ | ⟨rfl, rfl, _⟩
          · exact absurd y nb
          · have e2 := (ok2 b _ (un.frzs b _ _ z)).1
            rw [L.scr] at e
            cases e
            exact e2
      have grown : ∀ p ∈ cs, ∃ more : Array Value, s2.heap.get? p.2 = some { cls := .none, data := .fields more } := fun p hp => by
        obtain ⟨more, z⟩ := un.tbls p.2 #[] (tabs p hp)
        exact ⟨_, ok2 p.2 _ z⟩
      refine ⟨rfl, ⟨fun b o e => ?_, fun b o e => ?_⟩, os, bare⟩
      · by_cases hb : b ∈ cs.map (·.2)
        · obtain ⟨p, hp, rfl⟩ := List.mem_map.mp hb
          obtain ⟨more, hm⟩ := grown p hp
          rw [L.tab p hp] at e
          cases e
          exact .inr (.inl ⟨((L.code p hp).tab (L.tab p hp)).isCodeTable, rfl, #[], more, rfl, by rw [Array.empty_append]; exact hm⟩)
        · exact .inl (kept b o hb e)
      · by_cases hb : b ∈ cs.map (·.2)
        · obtain ⟨p, hp, rfl⟩ := List.mem_map.mp hb
          obtain ⟨more, hm⟩ := grown p hp
          exact ⟨_, hm⟩
        · exact ⟨o, kept b o hb e⟩
end
end Mir
namespace Mir
open PySem PySem.Spec PyProof.Rows L2
/-- what a law's text gives at the heap h behind its top -/
structure LawText (P : Program) (w : World) (mg : Str → Option Value) (fa : Addr) (h : Heap) (k n : Nat) (x : Str) : Prop where
  ex : ∃ (K : PySem.W.Frag) (fd : FuncData) (cs : List (Addr × Addr)) (cl : Nat → Addr) (f : FSem), K.In h ∧ (∀ p ∈ cs, h.get? p.2 = some { cls := .none, data := .fields #[] }) ∧ (∀ p ∈ cs, K.lookup p.2 = none) ∧ (∀ p ∈ cs, PySem.W.CodeHd h p.1 p.2) ∧
    (∀ p ∈ tabsK K, ∃ c, (c, p.1) ∈ cs) ∧ (∀ (s : Shared) (u : Value), BindsTo s fd ⟨[u], []⟩ [(x, u)]) ∧
    (∀ ns : List Int, ns.length ≤ n → (∀ z ∈ ns, Builtin.Int.intBits z ≤ 1048576) → ∃ S, f [.scr ns] [] = .ok (.bl true) S) ∧
    ∀ base : Heap, K.In base → base.Ns mainGlobals mg → (∀ p ∈ cs, LamX.TabB base mg p.1 p.2) → FnG P w K mg base k fa fd [x] (spM K cl f)
theorem walk_law {l : PySem.W.OpenLaw} {n k : Nat} {q : Program} {loose : List Str} {XP : (Str → Option Value) → Heap → Prop} {YP : World → Heap → Prop} {d : DefRec} {x : Str} (most : l.most = some n) (small : n ≤ sizeLine) (plain : d.params.defaults = []) (room : Room k callerA)
    (F : ∀ (w : World) (mg : Str → Option Value) (fa : Addr) (h : Heap), YP w h → h.Ns mainGlobals mg → mg d.name = some (.ref fa) → LawText l.prog w mg fa h k n x) : PySem.W.WalkO q loose XP YP l.row.toRowW d [] (fun f vs => PySem.call f vs) := by
  refine Att.attach_callB most plain fun w s₀ s mg mb fa o pm cd doc a vs ns G Y ho hd hcd hmg hobj hints hlen hbits hg => ?_
  obtain ⟨K, fd, cs, cl, f, kin, tab, tabK, code, hT, bind, hsem, hF⟩ := (F w mg fa _ Y G.T.g hmg).ex
  have L : AtLaw w K mg mb cs s a vs ns := ⟨kin, G.T.g, G.T.b, G.T.builtins, G.T.nolimit, hg, tab, tabK, code, G.T.bmain, hobj, hints, Nat.le_trans hlen small⟩
  refine L.core room hF bind fun H tabs only scr => ?_
  obtain ⟨S, e⟩ := hsem ns hlen hbits
  refine ⟨⟨[], [], tabsK K⟩, [], [.scr ns], ⟨rfl, List.nodup_nil, fun p hp => ?_, rfl, fun a ha => absurd (show a ∈ ([] : List Addr) from ha) (by simp), fun n a o h1 _ => ?_⟩, RDs.cons ?_ RDs.nil, ?_⟩
  · obtain ⟨c, hc⟩ := hT p hp
    exact LamX.TabS.nil (tabs _ hc)
  · have h1 : ([] : List Addr)[n]? = some a := h1
    simp at h1
  · unfold RD
    exact ⟨a, rfl, scr.imp (fun ⟨o, z⟩ => ⟨o, z, by simp [Rho.all]⟩) id⟩
  · rw [e]
    exact fun ρ' H' v g rs r z => r.ofBl
end Mir
end

section
set_option Elab.async false
set_option linter.all false
set_option maxRecDepth 100000
set_option maxHeartbeats 4000000
/-! Mir15: the defs of a text by the head's facts. -/
namespace Mir
open PySem PySem.Spec PyProof.Rows L2
/-- some of a list -/
def pick {α : Type} (l : List α) (is : List Nat) : List α := is.filterMap fun i => l[i]?
theorem pick_sub {α : Type} {l : List α} {is : List Nat} {x : α} (h : x ∈ pick l is) : x ∈ l := by
  unfold pick at h
  obtain ⟨i, _, e⟩ := List.mem_filterMap.mp h
  exact List.mem_of_getElem? e
theorem fact_in {fa : List He.Fa} {fn : List He.DefD} {K : PySem.W.Frag} (c : He.SaysD fa fn K) {f : He.Fa} (h : f ∈ fa) : f.ok K = true := by
  obtain ⟨i, hi⟩ := List.getElem?_of_mem h
  exact c.fact i hi
theorem mem_look {α : Type} {l : List (Str × α)} {x : Str} {a : α} (h : l.lookup x = some a) : (x, a) ∈ l := PySem.mem_of_lookup h
/-- the text's names -/
structure Names where
  nums : List (Str × Int)
  excs : List Str
  fns : List Str
def Names.fa (t : Names) : List He.Fa := t.fns.map He.Fa.glo ++ (bltNames.map He.Fa.free ++ (t.nums.map (fun p => He.Fa.int p.1 p.2) ++ (t.excs.map He.Fa.glo ++ t.excs.map He.Fa.exc)))
def Names.cl (t : Names) (K : PySem.W.Frag) : Nat → Addr := fun c => match t.excs[c]? with
  | some x => He.ga K x
  | none => 0
def Names.exl (t : Names) : List (Str × Nat) := t.excs.zipIdx
theorem top_ok {P : Program} {w : World} {K : PySem.W.Frag} {mg : Str → Option Value} {base h : Heap} {t : Names} {fn : List He.DefD} {fns : List (Str × FSem)} {ni ei : List Nat} {mt dt : Pos → Bool} {wf : Nat} {lam : List (Str × Nat × LK)} {lb : Scope → Expr → SE} {key : Bool} (KX : K.In h) (G : h.Ns mainGlobals mg) (c : He.SaysD t.fa fn K) :
    Top P w K mg base (t.cl K) { fns := fns, nums := pick t.nums ni, exc := pick t.exl ei, mt := mt, dt := dt, wf := wf, lam := lam, lb := lb, key := key } := by
  refine ⟨fun x i hx => ?_, fun x hx => ?_, fun x n hx => ?_⟩
  · have m := pick_sub (mem_look hx)
    exact He.int_ok KX G (fact_in c (f := .int x i) (List.mem_append_right _ (List.mem_append_right _ (List.mem_append_left _ (List.mem_map.mpr ⟨(x, i), m, rfl⟩)))))
  · exact He.free_ok KX G (fact_in c (f := .free x) (List.mem_append_right _ (List.mem_append_left _ (List.mem_map.mpr ⟨x, hx, rfl⟩))))
  · have m := pick_sub (mem_look hx)
    have e : t.excs[n]? = some x := by
      have z := List.mem_zipIdx_iff_getElem?.mp m
      simpa using z
    have mx : x ∈ t.excs := List.mem_of_getElem? e
    have g := He.glo_ok KX G (fact_in c (f := .glo x) (List.mem_append_right _ (List.mem_append_right _ (List.mem_append_right _ (List.mem_append_left _ (List.mem_map.mpr ⟨x, mx, rfl⟩))))))
    have q := He.exc_ok (fact_in c (f := .exc x) (List.mem_append_right _ (List.mem_append_right _ (List.mem_append_right _ (List.mem_append_right _ (List.mem_map.mpr ⟨x, mx, rfl⟩))))))
    have ec : t.cl K n = He.ga K x := by
      unfold Names.cl
      rw [e]
    rw [ec]
    exact ⟨q.1, g, q.2.1, q.2.2.1, q.2.2.2⟩
/-- the callees -/
def CalL (P : Program) (w : World) (K : PySem.W.Frag) (mg : Str → Option Value) (base : Heap) (cl : Nat → Addr) (k : Nat) : List (Str × FSem) → Prop
  | [] => True
  | p :: r => Cal P w K mg base cl k p.1 p.2 ∧ CalL P w K mg base cl k r
theorem CalL.nil {P : Program} {w : World} {K : PySem.W.Frag} {mg : Str → Option Value} {base : Heap} {cl : Nat → Addr} {k : Nat} : CalL P w K mg base cl k [] := trivial
theorem CalL.cons {P : Program} {w : World} {K : PySem.W.Frag} {mg : Str → Option Value} {base : Heap} {cl : Nat → Addr} {k : Nat} {x : Str} {f : FSem} {r : List (Str × FSem)} (h : Cal P w K mg base cl k x f) (t : CalL P w K mg base cl k r) : CalL P w K mg base cl k ((x, f) :: r) := ⟨h, t⟩
theorem CalL.get {P : Program} {w : World} {K : PySem.W.Frag} {mg : Str → Option Value} {base : Heap} {cl : Nat → Addr} {k : Nat} : ∀ {l : List (Str × FSem)}, CalL P w K mg base cl k l → ∀ x f, l.lookup x = some f → Cal P w K mg base cl k x f
  | [], _, x, f, h => by cases h
  | (y, g) :: r, c, x, f, h => by
    unfold List.lookup at h
    split at h
    · rename_i e
      cases h
      have e : x = y := eq_of_beq e
      rw [e]
      exact c.1
    · exact CalL.get c.2 x f h
theorem dF_is {Γ : Gx} {d : DefT} {b : SS} (h : dB Γ d.N d.scope d.fuel d.body = b) : dF Γ d = fF d.ps.length d.N.length d.keep b := by
  subst h
  rfl
/-- a def as the head tells it -/
def DefT.datum (x : Str) (d : DefT) : He.DefD := ⟨(x, none), d.name, d.name, d.params, d.body, d.scope, [], []⟩
structure Said (K : PySem.W.Frag) (mg : Str → Option Value) (x : Str) (d : DefT) : Prop where
  ex : ∃ fd, FunD K d.name d.name d.params d.body d.scope [] [] (He.ga K x) fd ∧ Binds K fd d.ps [] ∧ ∀ (s : Shared) (us : List Value), us.length = d.ps.length → BindsTo s fd ⟨us, []⟩ (d.ps.zip us)
  gl : mg x = some (.ref (He.ga K x))
theorem said_ok {K : PySem.W.Frag} {mg : Str → Option Value} {h : Heap} {t : Names} {fn : List He.DefD} {x : Str} {d : DefT} (KX : K.In h) (G : h.Ns mainGlobals mg) (c : He.SaysD t.fa fn K) (i j : Nat) (hi : fn[i]? = some (d.datum x)) (hj : t.fns[j]? = some x)
    (hb : ∀ (kV doc pm : Value) (an : Option Addr) (cdv ct : Value) (us : List Value), us.length = d.ps.length → bindArgs (PySem.W.fnOf d.name d.name d.params d.body d.scope .none kV doc pm an cdv ct) ⟨us, []⟩ = pure (d.ps.zip us)) : Said K mg x d := by
  obtain ⟨fd, F⟩ := c.def_ i hi
  exact ⟨⟨fd, F, F.bindsN hb, F.bindsA hb⟩, He.glo_ok KX G (fact_in c (f := .glo x) (List.mem_append_left _ (List.mem_map.mpr ⟨x, List.mem_of_getElem? hj, rfl⟩)))⟩
section
variable {P : Program} {w : World} {K : PySem.W.Frag} {mg : Str → Option Value} {base h : Heap} {cl : Nat → Addr} {Γ : Gx} {k : Nat} {x : Str} {d : DefT}
theorem Said.cal {f : FSem} (D : Said K mg x d) (T : Top P w K mg base cl Γ) (hf : CalL P w K mg base cl k Γ.fns) (S : FnScope d.N d.ps d.scope) (e : dF Γ d = f) (hl : Γ.lam = [] := by rfl) (hk : Γ.key = false := by rfl) : Cal P w K mg base cl (k + 1) x f := by
  obtain ⟨fd, F, b, _⟩ := D.ex
  exact ⟨_, fd, d.ps, e ▸ fn_ok T hf.get F S (fun x np kd h => by rw [hl] at h; cases h) (fun h => by rw [hk] at h; cases h), D.gl, F.kp, b⟩
theorem Said.none (D : Said K mg x d) : Cal P w K mg base cl k x (fun _ _ => .bad) := by
  obtain ⟨fd, F, b, _⟩ := D.ex
  exact ⟨_, fd, d.ps, fn_bad, D.gl, F.kp, b⟩
end

/-! ### lambdas: the head's further facts -/
section
variable {P : Program} {w : World} {K : PySem.W.Frag} {mg : Str → Option Value} {base h : Heap} {cl : Nat → Addr} {Γ Γ0 : Gx} {j k : Nat} {x : Str} {d : DefT}
def excB (K : PySem.W.Frag) (a : Addr) : Bool :=
  He.eqO (PySem.W.findIn K (.ref a) "__getattribute__") (some (some (.builtin "BaseException.__getattribute__"))) && (He.eqO (PySem.W.findIn K (.ref a) "__getattr__") (some none) && (decide (PySem.W.subIn K (.ref a) (.type "BaseException") = some true) && (PySem.W.hasDictIn K a &&
  (He.eqO (PySem.W.findIn K (.ref a) "__class__") (some (some (.builtin "object.__class__"))) && (He.eqO (PySem.W.specialIn K (.builtin "object.__class__") "__get__") (some (some (.builtin "getset_descriptor.__get__"))) && (decide (PySem.W.takesIn K (.builtin "object.__class__") = some true) && decide (PySem.W.mroIn K a (.type "object") = some true)))))))
theorem excB_ok {a : Addr} (h : excB K a = true) : ExcC K a := by
  unfold excB at h
  simp only [Bool.and_eq_true, decide_eq_true_eq] at h
  obtain ⟨h1, h2, h3, h4, h5, h6, h7, h8⟩ := h
  exact ⟨He.eqO_ok h1, He.eqO_ok h2, h3, h4, He.eqO_ok h5, He.eqO_ok h6, h7, h8⟩
def toldX (K : PySem.W.Frag) (xs : List Str) (t : ToldT) (l : List Str) : Bool :=
  Nat.ble l.length xs.length && (xs.zip l).all fun p => excB K (He.ga K p.1) && (decide (PySem.W.exmOne K (.ref (He.ga K p.1)) (.ref (He.ga K t.ne)) = some true) && (match PySem.W.kitOne K (.ref (He.ga K p.1)) (.ref (He.ga K t.oor)) with
    | some b => decide (p.2 = if b then t.s1 else t.s2)
    | none => false))
def raisedX (K : PySem.W.Frag) (xs : List Str) (t : RaisedT) (l : List (Option Int)) : Bool :=
  Nat.ble l.length xs.length && (xs.zip l).all fun p => match p.2 with
    | none => true
    | some i => (match PySem.W.exmOne K (.ref (He.ga K p.1)) (.ref (He.ga K t.x)) with
      | some true => decide (i = t.i)
      | some false => decide (PySem.W.exmOne K (.ref (He.ga K p.1)) (.ref (He.ga K t.y)) = some true) && decide (i = t.j)
      | none => false)
def raisesX (K : PySem.W.Frag) (xs : List Str) (t : RaisesT) (l : List (Option Int)) : Bool :=
  decide (t.v = "ValueError") && (Nat.ble l.length xs.length && (xs.zip l).all fun p => match p.2 with
    | none => true
    | some i => excB K (He.ga K p.1) && (decide (PySem.W.kitOne K (.ref (He.ga K p.1)) (.ref (He.ga K t.n)) = some true) && (decide (PySem.W.kitOne K (.ref (He.ga K p.1)) (.type "ValueError") = some true) && (match PySem.W.exmOne K (.ref (He.ga K p.1)) (.ref (He.ga K t.x)) with
      | some true => decide (i = t.i)
      | some false => decide (PySem.W.exmOne K (.ref (He.ga K p.1)) (.ref (He.ga K t.y)) = some true) && decide (i = t.j)
      | none => false))))
theorem zip_at {α β : Type} {xs : List α} {l : List β} {c : Nat} {y : β} (hl : l.length ≤ xs.length) (h : l[c]? = some y) : ∃ x, xs[c]? = some x ∧ (x, y) ∈ xs.zip l := by
  obtain ⟨hc, rfl⟩ := List.getElem?_eq_some_iff.mp h
  have hx : c < xs.length := by omega
  refine ⟨xs[c], List.getElem?_eq_getElem hx, ?_⟩
  have z : (xs.zip l)[c]? = some (xs[c], l[c]) := by rw [List.getElem?_zip_eq_some]; exact ⟨List.getElem?_eq_getElem hx, List.getElem?_eq_getElem hc⟩
  exact List.mem_of_getElem? z
theorem cl_at {t : Names} {c : Nat} {x : Str} (h : t.excs[c]? = some x) : t.cl K c = He.ga K x := by
  unfold Names.cl
  rw [h]
theorem toldX_ok {n : Names} {t : ToldT} {l : List Str} (h : toldX K n.excs t l = true) (g1 : mg t.ne = some (.ref (He.ga K t.ne))) (g2 : mg t.oor = some (.ref (He.ga K t.oor))) (g3 : mg "isinstance" = none) : ToldOk K mg (n.cl K) t (fun c => l[c]?) := by
  unfold toldX at h
  rw [Bool.and_eq_true, List.all_eq_true] at h
  refine ⟨_, _, g1, g2, g3, fun c x hx => ?_⟩
  obtain ⟨y, h1, h2⟩ := zip_at (Nat.le_of_ble_eq_true h.1) hx
  have q := h.2 _ h2
  simp only [Bool.and_eq_true, decide_eq_true_eq] at q
  obtain ⟨q1, q2, q3⟩ := q
  rw [cl_at h1]
  refine ⟨excB_ok q1, q2, ?_⟩
  split at q3
  · rename_i b hb
    exact ⟨b, hb, of_decide_eq_true q3⟩
  · cases q3
theorem raisedX_ok {n : Names} {t : RaisedT} {l : List (Option Int)} (h : raisedX K n.excs t l = true) (g1 : mg t.x = some (.ref (He.ga K t.x))) (g2 : mg t.y = some (.ref (He.ga K t.y))) : RaisedOk K mg (n.cl K) t (fun c => l[c]?.join) := by
  unfold raisedX at h
  rw [Bool.and_eq_true, List.all_eq_true] at h
  refine ⟨_, _, g1, g2, fun c i hi => ?_⟩
  obtain ⟨o, ho, rfl⟩ := Option.bind_eq_some_iff.mp (show (l[c]?).bind id = some i from hi)
  obtain ⟨y, h1, h2⟩ := zip_at (Nat.le_of_ble_eq_true h.1) ho
  have q := h.2 _ h2
  dsimp only [id] at q
  rw [cl_at h1]
  split at q
  · rename_i e
    exact ⟨true, e, fun _ => of_decide_eq_true q, fun z => by cases z⟩
  · rename_i e
    rw [Bool.and_eq_true, decide_eq_true_eq, decide_eq_true_eq] at q
    exact ⟨false, e, (fun z => Bool.noConfusion z), fun _ => q⟩
  · cases q
theorem raisesX_ok {n : Names} {t : RaisesT} {l : List (Option Int)} (h : raisesX K n.excs t l = true) (g1 : mg t.x = some (.ref (He.ga K t.x))) (g2 : mg t.y = some (.ref (He.ga K t.y))) (g3 : mg "isinstance" = none) (g4 : mg t.n = some (.ref (He.ga K t.n))) (g5 : mg "ValueError" = none) : RaisesOk K mg (n.cl K) t (fun c => l[c]?.join) := by
  unfold raisesX at h
  rw [Bool.and_eq_true, Bool.and_eq_true, List.all_eq_true, decide_eq_true_eq] at h
  refine ⟨_, _, _, _, g1, g2, g3, g4, h.1, by rw [h.1]; exact g5, rfl, fun c i hi => ?_⟩
  obtain ⟨o, ho, rfl⟩ := Option.bind_eq_some_iff.mp (show (l[c]?).bind id = some i from hi)
  obtain ⟨y, h1, h2⟩ := zip_at (Nat.le_of_ble_eq_true h.2.1) ho
  have q := h.2.2 _ h2
  dsimp only [id] at q
  rw [cl_at h1]
  simp only [Bool.and_eq_true, decide_eq_true_eq] at q
  obtain ⟨q1, q2, q3, q⟩ := q
  refine ⟨excB_ok q1, q2, q3, ?_⟩
  split at q
  · rename_i e
    exact ⟨true, e, fun _ => of_decide_eq_true q, fun z => by cases z⟩
  · rename_i e
    rw [Bool.and_eq_true, decide_eq_true_eq, decide_eq_true_eq] at q
    exact ⟨false, e, (fun z => Bool.noConfusion z), fun _ => q⟩
  · cases q
/-- the tables: those of the defs, each lambda's def's own -/
def lamTabs (K : PySem.W.Frag) (tf : List He.Defn) (lds : List (Str × Str)) : Bool :=
  ((tabsK K).all fun p => (tf.map fun d => (He.cT K d).2).contains p.1) && lds.all fun d => ((tabsK K).any fun p => (p.1 == (He.cT K (d.1, none)).2) && decide (p.2 = d.2 ++ ".<locals>." ++ "<lambda>")) &&
    (tabsK K).all fun p => !(p.1 == (He.cT K (d.1, none)).2) || decide (p.2 = d.2 ++ ".<locals>." ++ "<lambda>")
theorem lamTabs_in {tf : List He.Defn} {lds : List (Str × Str)} (h : lamTabs K tf lds = true) : ∀ p ∈ tabsK K, ∃ c, (c, p.1) ∈ tf.map (He.cT K) := fun p hp => by
  unfold lamTabs at h
  rw [Bool.and_eq_true, List.all_eq_true] at h
  have q := h.1 p hp
  rw [List.contains_iff_mem] at q
  obtain ⟨d, hd, e⟩ := List.mem_map.mp q
  exact ⟨(He.cT K d).1, List.mem_map.mpr ⟨d, hd, by rw [← e]⟩⟩
theorem lam_here {tf : List He.Defn} {lds : List (Str × Str)} {n q : Str} {params : Arguments} {body : List Stmt} {scope : Scope} {fd : FuncData} (h : lamTabs K tf lds = true) (hd : (x, q) ∈ lds) (ht : ((x, Option.none) : He.Defn) ∈ tf) (F : FunD K n q params body scope [] [] (He.ga K x) fd)
    (tb : ∀ p ∈ tf.map (He.cT K), LamX.TabB base mg p.1 p.2) : ∃ c T, fd.code = .ref c ∧ LamX.TabB base mg c T ∧ (T, q ++ ".<locals>." ++ "<lambda>") ∈ tabsK K ∧ ∀ p ∈ tabsK K, p.1 = T → p.2 = q ++ ".<locals>." ++ "<lambda>" := by
  obtain ⟨oc, od, dV, kV, doc, pm, an, cdv, ct, osl, rfl, lk, hcd, _, _⟩ := F.ex
  obtain ⟨c, rfl⟩ := He.codeIn_ref hcd
  have ec : He.codeOf K (x, none) = c := He.codeOf_eq (p := (x, none)) lk rfl
  have T := tb _ (List.mem_map.mpr ⟨_, ht, rfl⟩)
  unfold lamTabs at h
  rw [Bool.and_eq_true, List.all_eq_true, List.all_eq_true] at h
  have z := h.2 _ hd
  rw [Bool.and_eq_true, List.any_eq_true, List.all_eq_true] at z
  obtain ⟨⟨p, hp, e⟩, z⟩ := z
  refine ⟨c, (He.cT K (x, none)).2, rfl, ?_, ?_, fun p hp e => ?_⟩
  · rw [← ec]; exact T
  · rw [Bool.and_eq_true, beq_iff_eq, decide_eq_true_eq] at e
    rw [← e.1, ← e.2]
    exact hp
  · have y := z p hp
    rw [e] at y
    simpa using y
theorem lb_ok {lam : List (Str × Nat × LK)} {lb : Scope → Expr → SE} {N : List Str} {m : Nat} (h0 : Γ0.lam = []) (hk0 : Γ0.key = false) (hf : Γ.fns = Γ0.fns) (hn : Γ.nums = Γ0.nums) : ∀ (X' : Cx) (E' : XK) (sc' : Scope), Cond0 X' Γ cl E' N sc' (fun _ => false) j → ∀ e, PE X' e (lE X'.K cl E' (dE Γ0 N m sc' e)) :=
  fun X' E' sc' C => (dE_ok (Γ := Γ0) (cl := cl) (N := N) (k := j) m).1 X' E' sc' _ ⟨⟨C.eN, C.nd, C.eS, C.calm, C.room, C.gd, C.tk, by rw [← hf]; exact C.fns, by rw [← hn]; exact C.nums, C.free, C.hfb⟩, (fun x np kd h => by rw [h0] at h; cases h), (fun h => by rw [hk0] at h; cases h)⟩
/-- Γ0 with lambdas -/
def Gx.with (Γ0 : Gx) (N : List Str) (lam : List (Str × Nat × LK)) : Gx := { fns := Γ0.fns, nums := Γ0.nums, exc := Γ0.exc, mt := Γ0.mt, dt := Γ0.dt, wf := Γ0.wf, lam := lam, lb := dE Γ0 N 60 }
theorem top_with {N : List Str} {lam : List (Str × Nat × LK)} (T : Top P w K mg base cl Γ0) : Top P w K mg base cl (Γ0.with N lam) := ⟨T.nums, T.free, T.ex⟩
theorem CalL.mono {k' : Nat} (hk : k ≤ k') : ∀ {l : List (Str × FSem)}, CalL P w K mg base cl k l → CalL P w K mg base cl k' l
  | [], _ => trivial
  | _ :: _, c => ⟨c.1.mono hk, CalL.mono hk c.2⟩
theorem fn_okL {lam : List (Str × Nat × LK)} {f : Addr} {fd : FuncData} {qual : Str} (T : Top P w K mg base cl Γ0) (h0 : Γ0.lam = []) (hf : CalL P w K mg base cl k Γ0.fns) (F : FunD K d.name qual d.params d.body d.scope [] [] f fd) (S : FnScope d.N d.ps d.scope)
    (here : ∃ c T, fd.code = .ref c ∧ LamX.TabB base mg c T ∧ (T, qual ++ ".<locals>." ++ "<lambda>") ∈ tabsK K ∧ ∀ p ∈ tabsK K, p.1 = T → p.2 = qual ++ ".<locals>." ++ "<lambda>") (hl : ∀ x np kd, lam.lookup x = some (np, kd) → LamCal P w K mg base cl k (k + 2) x np kd) (hk0 : Γ0.key = false := by rfl) :
    FnG P w K mg base (k + 3) f fd d.ps (spM K cl (dF (Γ0.with d.N lam) d)) :=
  fn_ok (top_with T) ((CalL.mono (Nat.le_add_right k 2) hf).get) F S (fun x np kd h => ⟨here, k, hl x np kd h, hf.get, lb_ok (lam := lam) (lb := fun _ _ => mBad) h0 hk0 rfl rfl⟩) (fun h => by cases h)
theorem Said.calL {lam : List (Str × Nat × LK)} {f : FSem} {tf : List He.Defn} {lds : List (Str × Str)} (D : Said K mg x d) (T : Top P w K mg base cl Γ0) (h0 : Γ0.lam = []) (hf : CalL P w K mg base cl k Γ0.fns) (S : FnScope d.N d.ps d.scope) (ht : lamTabs K tf lds = true) (hd : (x, d.name) ∈ lds) (hx : ((x, Option.none) : He.Defn) ∈ tf)
    (tb : ∀ p ∈ tf.map (He.cT K), LamX.TabB base mg p.1 p.2) (hl : ∀ x np kd, lam.lookup x = some (np, kd) → LamCal P w K mg base cl k (k + 2) x np kd) (e : dF (Γ0.with d.N lam) d = f) (hk0 : Γ0.key = false := by rfl) : Cal P w K mg base cl (k + 3) x f := by
  obtain ⟨fd, F, b, _⟩ := D.ex
  exact ⟨_, fd, d.ps, e ▸ fn_okL T h0 hf F S (lam_here ht hd hx F tb) hl hk0, D.gl, F.kp, b⟩
theorem Said.calK {Γ : Gx} {f : FSem} {tf : List He.Defn} {lds : List (Str × Str)} (D : Said K mg x d) (T : Top P w K mg base cl Γ) (hf : CalL P w K mg base cl k Γ.fns) (S : FnScope d.N d.ps d.scope) (ht : lamTabs K tf lds = true) (hd : (x, d.name) ∈ lds) (hx : ((x, Option.none) : He.Defn) ∈ tf)
    (tb : ∀ p ∈ tf.map (He.cT K), LamX.TabB base mg p.1 p.2) (e : dF Γ d = f) (hl : Γ.lam = [] := by rfl) : Cal P w K mg base cl (k + 1) x f := by
  obtain ⟨fd, F, b, _⟩ := D.ex
  exact ⟨_, fd, d.ps, e ▸ fn_ok T hf.get F S (fun x np kd h => by rw [hl] at h; cases h) (fun _ => lam_here ht hd hx F tb), D.gl, F.kp, b⟩
theorem Said.told {t : ToldT} {i : Nat} {rdf : FSem} {word : Nat → Option Str} (D : Said K mg x d) (hx : d.name = x) (Sg : FnScope d.N d.ps d.scope) (hp : d.ps = [t.cp]) (hsh : toldM d.body = some t) (hsc : toldSc t d.N d.scope i = true) (R : Cal P w K mg base cl k t.rd rdf) (O : ToldOk K mg cl t word) (hj : j + 1 ≤ k) : LamCal P w K mg base cl j (k + 1) x 0 (.told rdf word) := by
  obtain ⟨fd, F, b, _⟩ := D.ex
  subst hx
  rw [hp] at Sg b
  exact told_cal F D.gl b Sg hsh hsc R O hj
theorem Said.raised {t : RaisedT} {word : Nat → Option Int} (D : Said K mg x d) (hx : d.name = x) (Sg : FnScope d.N d.ps d.scope) (hp : d.ps = [t.cp]) (hsh : raisedM d.body = some t) (hsc : namesOk d.scope [t.x, t.y] [t.cp] = true) (h0 : d.N[0]? = some t.cp) (O : RaisedOk K mg cl t word) (hj : j + 1 ≤ k) : LamCal P w K mg base cl j (k + 1) x 0 (.raised word) := by
  obtain ⟨fd, F, b, _⟩ := D.ex
  subst hx
  rw [hp] at Sg b
  exact raised_cal F D.gl b Sg hsh hsc h0 O hj
theorem Said.raises {t : RaisesT} {ii : Nat} {word : Nat → Option Int} (D : Said K mg x d) (hx : d.name = x) (Sg : FnScope d.N d.ps d.scope) (hp : d.ps = [t.kd, t.cp]) (hsh : raisesM d.body = some t) (hsc : namesOk d.scope ["isinstance", t.x, t.y, t.n, t.v] [t.kd, t.cp, t.e] = true) (h0 : d.N[0]? = some t.kd) (h1 : d.N[1]? = some t.cp) (hi : d.N[ii]? = some t.e) (hi2 : 2 ≤ ii)
    (O : RaisesOk K mg cl t word) (hj : j + 1 ≤ k) : LamCal P w K mg base cl j (k + 1) x 1 (.raises word) := by
  obtain ⟨fd, F, b, _⟩ := D.ex
  subst hx
  rw [hp] at Sg b
  exact raises_cal F D.gl b Sg hsh hsc h0 h1 hi hi2 O hj
theorem lam_nil : ∀ x np kd, ([] : List (Str × Nat × LK)).lookup x = some (np, kd) → LamCal P w K mg base cl j k x np kd := fun _ _ _ h => by cases h
theorem lam_cons {y : Str} {n : Nat} {kd0 : LK} {r : List (Str × Nat × LK)} (L : LamCal P w K mg base cl j k y n kd0) (hr : ∀ x np kd, r.lookup x = some (np, kd) → LamCal P w K mg base cl j k x np kd) : ∀ x np kd, ((y, n, kd0) :: r).lookup x = some (np, kd) → LamCal P w K mg base cl j k x np kd := fun x np kd h => by
  unfold List.lookup at h
  split at h
  · rename_i e
    cases h
    rw [eq_of_beq e]
    exact L
  · exact hr x np kd h
theorem glo_at {t : Names} {fn : List He.DefD} {y : Str} (KX : K.In h) (G : h.Ns mainGlobals mg) (c : He.SaysD t.fa fn K) (hy : y ∈ t.excs) : mg y = some (.ref (He.ga K y)) :=
  He.glo_ok KX G (fact_in c (f := .glo y) (List.mem_append_right _ (List.mem_append_right _ (List.mem_append_right _ (List.mem_append_left _ (List.mem_map.mpr ⟨y, hy, rfl⟩))))))
theorem free_at {t : Names} {fn : List He.DefD} {y : Str} (KX : K.In h) (G : h.Ns mainGlobals mg) (c : He.SaysD t.fa fn K) (hy : y ∈ bltNames) : mg y = none :=
  He.free_ok KX G (fact_in c (f := .free y) (List.mem_append_right _ (List.mem_append_left _ (List.mem_map.mpr ⟨y, hy, rfl⟩))))
/-- the law's text at the head's heap -/
theorem text_of {fa : List He.Fa} {fn : List He.DefD} {tf : List He.Defn} {lds : List (Str × Str)} {ex : PySem.W.Frag → Bool} {n : Nat} {px : Str} {fad : Addr} {cl : PySem.W.Frag → Nat → Addr} {f : FSem} (Y : ∃ K : PySem.W.Frag, K.In h ∧ He.SaysX fa fn [] tf ex w h K) (hm : mg "law" = some (.ref fad))
    (ht : ∀ K, ex K = true → lamTabs K tf lds = true) (hl : ∀ K : PySem.W.Frag, K.In h → He.SaysD fa fn K → ∃ d : DefT, Said K mg "law" d ∧ d.ps = [px] ∧
      ∀ fd, FunD K d.name d.name d.params d.body d.scope [] [] (He.ga K "law") fd → ex K = true → ∀ base, K.In base → base.Ns mainGlobals mg → (∀ p ∈ tf.map (He.cT K), LamX.TabB base mg p.1 p.2) → FnG P w K mg base k (He.ga K "law") fd d.ps (spM K (cl K) f))
    (sem : ∀ ns : List Int, ns.length ≤ n → (∀ z ∈ ns, Builtin.Int.intBits z ≤ 1048576) → ∃ S, f [.scr ns] [] = .ok (.bl true) S) : LawText P w mg fad h k n px := by
  obtain ⟨K, KX, c⟩ := Y
  obtain ⟨d, D, hp, F⟩ := hl K KX c.t.d
  have e := hm.symm.trans D.gl
  cases e
  obtain ⟨fd, Fd, _, ba⟩ := D.ex
  refine ⟨K, fd, tf.map (He.cT K), cl K, f, KX, fun p hp => ?_, fun p hp => ?_, fun p hp => ?_, lamTabs_in (ht K c.more), fun s u => ?_, sem, fun base kb gb tb => ?_⟩
  · obtain ⟨q, hq, rfl⟩ := List.mem_map.mp hp
    exact c.empty q hq
  · obtain ⟨q, hq, rfl⟩ := List.mem_map.mp hp
    exact c.out q hq
  · obtain ⟨q, hq, rfl⟩ := List.mem_map.mp hp
    exact PySem.W.codeHd_of_K KX (c.hd q hq)
  · have z := ba s [u] (by rw [hp]; rfl)
    rw [hp] at z
    exact z
  · have z := F fd Fd c.more base kb gb tb
    rw [hp] at z
    exact z
end
end Mir
end

section
set_option Elab.async false
set_option linter.all false
set_option maxRecDepth 100000
/-! MirL: walks over items, in plain words. -/
namespace Mir
open PySem PySem.Spec
/-- a loop over items -/
def runF (body : D → SS) : List D → SS
  | [], env, S => .nx env S
  | d :: ds, env, S => match body d env S with
    | .nx e S1 => runF body ds e S1
    | .ct e S1 => runF body ds e S1
    | .bk e S1 => .nx e S1
    | r => r
theorem forL_go (body : D → SS) (pre : List D) : ∀ (ds : List D) (env : Env) (S : Store), forL (Src.items (pre ++ ds)).get (Src.items (pre ++ ds)).fin body ds.length pre.length env S = runF body ds env S := by
  intro ds
  induction ds generalizing pre with
  | nil => intro env S; rfl
  | cons d ds ih =>
    intro env S
    have hget : (Src.items (pre ++ d :: ds)).get pre.length S = some d := by
      show (pre ++ d :: ds)[pre.length]? = some d
      simp
    have hs : pre ++ d :: ds = (pre ++ [d]) ++ ds := by simp
    have hl : pre.length + 1 = (pre ++ [d]).length := by simp
    show forL _ _ body (ds.length + 1) pre.length env S = _
    unfold forL
    rw [hget]
    dsimp only
    unfold runF
    cases hb : body d env S with
    | nx e S1 => dsimp only; rw [hl, hs]; exact ih (pre ++ [d]) e S1
    | ct e S1 => dsimp only; rw [hl, hs]; exact ih (pre ++ [d]) e S1
    | _ => rfl
theorem forL_items (body : D → SS) (ds : List D) (env : Env) (S : Store) : forL (Src.items ds).get (Src.items ds).fin body (Src.items ds).len 0 env S = runF body ds env S := forL_go body [] ds env S
theorem sFor_items {src : Env → Store → Out Src} {g : SG} {b : SS} {ds : List D} {env : Env} {S S1 : Store} (h : src env S = .ok (.items ds) S1) : sFor src g b env S = runF (fun d env S => (g d env S).fl fun e S2 => b e S2) ds env S1 := by
  unfold sFor
  rw [h]
  exact forL_items _ ds env S1
/-- a comprehension over items -/
def runC (f : D → Store → Out (Option D)) : List D → Store → Out (List D)
  | [], S => .ok [] S
  | d :: ds, S => match f d S with
    | .ok o S1 => match runC f ds S1 with
      | .ok ys S2 => .ok (o.toList ++ ys) S2
      | _ => .bad
    | _ => .bad
theorem compL_go (f : D → Store → Out (Option D)) (pre : List D) : ∀ (ds : List D) (S : Store), compL (Src.items (pre ++ ds)).get (Src.items (pre ++ ds)).fin f ds.length pre.length S = runC f ds S := by
  intro ds
  induction ds generalizing pre with
  | nil => intro S; rfl
  | cons d ds ih =>
    intro S
    have hget : (Src.items (pre ++ d :: ds)).get pre.length S = some d := by
      show (pre ++ d :: ds)[pre.length]? = some d
      simp
    have hs : pre ++ d :: ds = (pre ++ [d]) ++ ds := by simp
    have hl : pre.length + 1 = (pre ++ [d]).length := by simp
    show compL _ _ f (ds.length + 1) pre.length S = _
    unfold compL
    rw [hget]
    dsimp only
    unfold runC
    cases hb : f d S with
    | ok o S1 =>
      dsimp only
      rw [hl, hs, ih (pre ++ [d]) S1]
      all_goals (cases runC f ds S1 <;> rfl)
    | _ => rfl
theorem mLC_items {own : List Nat} {mt : Bool} {src : Env → Store → Out Src} {g : SG} {t : ST} {e : SE} {ds : List D} {env : Env} {S S1 : Store} (h : src env S = .ok (.items ds) S1) (hl : ds.length ≤ 16777216) :
    mLC own mt src g t e env S = (match runC (mElt own g t e env) ds S1 with
      | .ok ys S2 => mkL mt ys S2
      | _ => .bad) := by
  unfold mLC
  rw [h]
  show (if Nat.ble ds.length 16777216 then _ else _) = _
  rw [if_pos (Nat.ble_eq_true_of_le hl)]
  rw [show compL (Src.items ds).get (Src.items ds).fin (mElt own g t e env) (Src.items ds).len 0 S1 = runC (mElt own g t e env) ds S1 from compL_go _ [] ds S1]
  all_goals (cases runC (mElt own g t e env) ds S1 <;> rfl)
/-- where each item does without the store -/
theorem runC_map {f : D → Store → Out (Option D)} {S : Store} {h : D → Option D} : ∀ {ds : List D}, (∀ d ∈ ds, f d S = .ok (h d) S) → runC f ds S = .ok (ds.filterMap h) S
  | [], _ => rfl
  | d :: ds, q => by
    unfold runC
    rw [q d List.mem_cons_self]
    dsimp only
    rw [runC_map (h := h) fun d' m => q d' (List.mem_cons_of_mem _ m)]
    dsimp only
    rw [List.filterMap_cons]
    cases h d <;> rfl
end Mir
end

section
set_option Elab.async false
set_option linter.all false
set_option maxRecDepth 100000
/-! MirS: the combinators stepped by simp, without walking into what is not reached yet. -/
namespace Mir
open PySem PySem.Spec
section
variable {α β : Type}
@[simp] theorem bind_ok (a : α) (S : Store) (f : α → Store → Out β) : (Out.ok a S).bind f = f a S := (rfl)
@[simp] theorem bind_ex (c : Nat) (S : Store) (f : α → Store → Out β) : (Out.ex c S : Out α).bind f = .ex c S := (rfl)
@[simp] theorem bind_bad (f : α → Store → Out β) : (Out.bad : Out α).bind f = .bad := (rfl)
@[simp] theorem fl_ok (a : α) (S : Store) (f : α → Store → Fl) : (Out.ok a S).fl f = f a S := (rfl)
@[simp] theorem fl_ex (c : Nat) (S : Store) (f : α → Store → Fl) : (Out.ex c S : Out α).fl f = .ex c S := (rfl)
/-- the rest behind a statement -/
def Fl.seq (f : Fl) (c : SS) : Fl := match f with
  | .nx e S => c e S
  | r => r
@[simp] theorem seq_nx (e : Env) (S : Store) (c : SS) : (Fl.nx e S).seq c = c e S := (rfl)
@[simp] theorem seq_rt (d : D) (S : Store) (c : SS) : (Fl.rt d S).seq c = .rt d S := (rfl)
@[simp] theorem seq_ex (k : Nat) (S : Store) (c : SS) : (Fl.ex k S).seq c = .ex k S := (rfl)
@[simp] theorem seq_bk (e : Env) (S : Store) (c : SS) : (Fl.bk e S).seq c = .bk e S := (rfl)
@[simp] theorem seq_ct (e : Env) (S : Store) (c : SS) : (Fl.ct e S).seq c = .ct e S := (rfl)
/-! ### expressions -/
def kV (o : Option (Option D)) (S : Store) : Out D := match o with
  | some (some d) => .ok d S
  | _ => .bad
@[simp] theorem mVar_ap (i : Nat) (env : Env) (S : Store) : mVar i env S = kV env[i]? S := (rfl)
@[simp] theorem kV_ap (d : D) (S : Store) : kV (some (some d)) S = .ok d S := (rfl)
@[simp] theorem mC_ap (d : D) (env : Env) (S : Store) : mC d env S = .ok d S := (rfl)
@[simp] theorem m1_ap (f : V1) (a : SE) (env : Env) (S : Store) : m1 f a env S = (a env S).bind f := (rfl)
def k2 (f : V2) (c : SE) (env : Env) : D → Store → Out D := fun x S1 => (c env S1).bind (f x)
@[simp] theorem m2_ap (f : V2) (a c : SE) (env : Env) (S : Store) : m2 f a c env S = (a env S).bind (k2 f c env) := (rfl)
@[simp] theorem k2_ap (f : V2) (c : SE) (env : Env) (x : D) (S : Store) : k2 f c env x S = (c env S).bind (f x) := (rfl)
def kTst : D → Store → Out Bool := fun x S1 => match x with
  | .bl k => .ok k S1
  | _ => .bad
@[simp] theorem mTst_ap (a : SE) (env : Env) (S : Store) : mTst a env S = (a env S).bind kTst := (rfl)
@[simp] theorem kTst_ap (b : Bool) (S : Store) : kTst (.bl b) S = .ok b S := (rfl)
def kTru : D → Store → Out Bool := fun x S1 => match truD S1 x with
  | some k => .ok k S1
  | none => .bad
@[simp] theorem mTru_ap (a : SE) (env : Env) (S : Store) : mTru a env S = (a env S).bind kTru := (rfl)
@[simp] theorem kTru_bl (b : Bool) (S : Store) : kTru (.bl b) S = .ok b S := (rfl)
@[simp] theorem kTru_int (i : Int) (S : Store) : kTru (.int i) S = .ok (i != 0) S := (rfl)
@[simp] theorem kTru_non (S : Store) : kTru .non S = .ok false S := (rfl)
@[simp] theorem kTru_tup (xs : List D) (S : Store) : kTru (.tup xs) S = .ok (!xs.isEmpty) S := (rfl)
@[simp] theorem kTru_lst (xs : List D) (S : Store) : kTru (.lst xs) S = .ok (!xs.isEmpty) S := (rfl)
def kNotT : Bool → Store → Out Bool := fun k S1 => .ok (!k) S1
@[simp] theorem mNotT_ap (t : ST) (env : Env) (S : Store) : mNotT t env S = (t env S).bind kNotT := (rfl)
@[simp] theorem kNotT_ap (b : Bool) (S : Store) : kNotT b S = .ok (!b) S := (rfl)
def kAndT (u : ST) (env : Env) : Bool → Store → Out Bool := fun k S1 => if k then u env S1 else .ok false S1
@[simp] theorem mAndT_ap (t u : ST) (env : Env) (S : Store) : mAndT t u env S = (t env S).bind (kAndT u env) := (rfl)
@[simp] theorem kAndT_t (u : ST) (env : Env) (S : Store) : kAndT u env true S = u env S := (rfl)
@[simp] theorem kAndT_f (u : ST) (env : Env) (S : Store) : kAndT u env false S = .ok false S := (rfl)
def kOrT (u : ST) (env : Env) : Bool → Store → Out Bool := fun k S1 => if k then .ok true S1 else u env S1
@[simp] theorem mOrT_ap (t u : ST) (env : Env) (S : Store) : mOrT t u env S = (t env S).bind (kOrT u env) := (rfl)
@[simp] theorem kOrT_t (u : ST) (env : Env) (S : Store) : kOrT u env true S = .ok true S := (rfl)
@[simp] theorem kOrT_f (u : ST) (env : Env) (S : Store) : kOrT u env false S = u env S := (rfl)
def kAndV (c : SE) (env : Env) : D → Store → Out D := fun x S1 => match x with
  | .bl true => c env S1
  | .bl false => .ok (.bl false) S1
  | _ => .bad
@[simp] theorem mAndV_ap (a c : SE) (env : Env) (S : Store) : mAndV a c env S = (a env S).bind (kAndV c env) := (rfl)
@[simp] theorem kAndV_t (c : SE) (env : Env) (S : Store) : kAndV c env (.bl true) S = c env S := (rfl)
@[simp] theorem kAndV_f (c : SE) (env : Env) (S : Store) : kAndV c env (.bl false) S = .ok (.bl false) S := (rfl)
def kOrV (c : SE) (env : Env) : D → Store → Out D := fun x S1 => match x with
  | .bl true => .ok (.bl true) S1
  | .bl false => c env S1
  | _ => .bad
@[simp] theorem mOrV_ap (a c : SE) (env : Env) (S : Store) : mOrV a c env S = (a env S).bind (kOrV c env) := (rfl)
@[simp] theorem kOrV_t (c : SE) (env : Env) (S : Store) : kOrV c env (.bl true) S = .ok (.bl true) S := (rfl)
@[simp] theorem kOrV_f (c : SE) (env : Env) (S : Store) : kOrV c env (.bl false) S = c env S := (rfl)
def kNotV : D → Store → Out D := fun x S1 => match x with
  | .bl k => .ok (.bl (!k)) S1
  | _ => .bad
@[simp] theorem mNotV_ap (a : SE) (env : Env) (S : Store) : mNotV a env S = (a env S).bind kNotV := (rfl)
@[simp] theorem kNotV_ap (b : Bool) (S : Store) : kNotV (.bl b) S = .ok (.bl (!b)) S := (rfl)
def kIf (a c : SE) (env : Env) : Bool → Store → Out D := fun k S1 => if k then a env S1 else c env S1
@[simp] theorem mIf_ap (t : ST) (a c : SE) (env : Env) (S : Store) : mIf t a c env S = (t env S).bind (kIf a c env) := (rfl)
@[simp] theorem kIf_t (a c : SE) (env : Env) (S : Store) : kIf a c env true S = a env S := (rfl)
@[simp] theorem kIf_f (a c : SE) (env : Env) (S : Store) : kIf a c env false S = c env S := (rfl)
def kCh3 (g : V2) (y : D) : D → Store → Out D := fun w S4 => g y w S4
def kCh2 (g : V2) (c : SE) (env : Env) (y : D) : D → Store → Out D := fun z S3 => match z with
  | .bl true => (c env S3).bind (g y)
  | .bl false => .ok (.bl false) S3
  | _ => .bad
def kCh1 (f g : V2) (c : SE) (env : Env) (x : D) : D → Store → Out D := fun y S2 => (f x y S2).bind (kCh2 g c env y)
def kCh (f g : V2) (b c : SE) (env : Env) : D → Store → Out D := fun x S1 => (b env S1).bind (kCh1 f g c env x)
@[simp] theorem mChain_ap (f g : V2) (a b c : SE) (env : Env) (S : Store) : mChain f g a b c env S = (a env S).bind (kCh f g b c env) := (rfl)
@[simp] theorem kCh_ap (f g : V2) (b c : SE) (env : Env) (x : D) (S : Store) : kCh f g b c env x S = (b env S).bind (kCh1 f g c env x) := (rfl)
@[simp] theorem kCh1_ap (f g : V2) (c : SE) (env : Env) (x y : D) (S : Store) : kCh1 f g c env x y S = (f x y S).bind (kCh2 g c env y) := (rfl)
@[simp] theorem kCh2_t (g : V2) (c : SE) (env : Env) (y : D) (S : Store) : kCh2 g c env y (.bl true) S = (c env S).bind (g y) := (rfl)
@[simp] theorem kCh2_f (g : V2) (c : SE) (env : Env) (y : D) (S : Store) : kCh2 g c env y (.bl false) S = .ok (.bl false) S := (rfl)
@[simp] theorem mNil_ap (env : Env) (S : Store) : mNil env S = .ok [] S := (rfl)
def kCons1 (x : D) : List D → Store → Out (List D) := fun xs S2 => .ok (x :: xs) S2
def kCons (as : SA) (env : Env) : D → Store → Out (List D) := fun x S1 => (as env S1).bind (kCons1 x)
@[simp] theorem mCons_ap (a : SE) (as : SA) (env : Env) (S : Store) : mCons a as env S = (a env S).bind (kCons as env) := (rfl)
@[simp] theorem kCons_ap (as : SA) (env : Env) (x : D) (S : Store) : kCons as env x S = (as env S).bind (kCons1 x) := (rfl)
@[simp] theorem kCons1_ap (x : D) (xs : List D) (S : Store) : kCons1 x xs S = .ok (x :: xs) S := (rfl)
def kTup : List D → Store → Out D := fun xs S1 => if Nat.ble xs.length 16777216 then .ok (.tup xs) S1 else .bad
@[simp] theorem mTup_ap (as : SA) (env : Env) (S : Store) : mTup as env S = (as env S).bind kTup := (rfl)
@[simp] theorem kTup_ap (xs : List D) (S : Store) (h : xs.length ≤ 16777216) : kTup xs S = .ok (.tup xs) S := if_pos (Nat.ble_eq_true_of_le h)
def kLst (mt : Bool) : List D → Store → Out D := fun xs S1 => if Nat.ble xs.length 16777216 then mkL mt xs S1 else .bad
@[simp] theorem mLst_ap (mt : Bool) (as : SA) (env : Env) (S : Store) : mLst mt as env S = (as env S).bind (kLst mt) := (rfl)
@[simp] theorem kLst_ap (mt : Bool) (xs : List D) (S : Store) (h : xs.length ≤ 16777216) : kLst mt xs S = mkL mt xs S := if_pos (Nat.ble_eq_true_of_le h)
@[simp] theorem mkL_t (ds : List D) (S : Store) : mkL true ds S = .ok (.ref S.length) (S ++ [.lst ds]) := (rfl)
@[simp] theorem mkL_f (ds : List D) (S : Store) : mkL false ds S = .ok (.lst ds) S := (rfl)
@[simp] theorem mCall_ap (f : FSem) (as : SA) (env : Env) (S : Store) : mCall f as env S = (as env S).bind f := (rfl)
@[simp] theorem mDic_ap (t : Bool) (env : Env) (S : Store) : mDic t env S = .ok (.ref S.length) (S ++ [.dic t []]) := (rfl)
def kInt : D → Store → Out (Option Int) := fun x S1 => match x with
  | .int i => .ok (some i) S1
  | _ => .bad
@[simp] theorem kInt_ap (i : Int) (S : Store) : kInt (.int i) S = .ok (some i) S := (rfl)
@[simp] theorem intO_n (env : Env) (S : Store) : intO none env S = .ok none S := (rfl)
@[simp] theorem intO_s (a : SE) (env : Env) (S : Store) : intO (some a) env S = (a env S).bind kInt := (rfl)
def kSl2 (mt : Bool) (x : D) (l : Option Int) : Option Int → Store → Out D := fun h S3 => vSl mt x l h S3
def kSl1 (mt : Bool) (hi : Option SE) (env : Env) (x : D) : Option Int → Store → Out D := fun l S2 => (intO hi env S2).bind (kSl2 mt x l)
def kSl (mt : Bool) (lo hi : Option SE) (env : Env) : D → Store → Out D := fun x S1 => (intO lo env S1).bind (kSl1 mt hi env x)
@[simp] theorem mSl_ap (mt : Bool) (a : SE) (lo hi : Option SE) (env : Env) (S : Store) : mSl mt a lo hi env S = (a env S).bind (kSl mt lo hi env) := (rfl)
@[simp] theorem kSl_ap (mt : Bool) (lo hi : Option SE) (env : Env) (x : D) (S : Store) : kSl mt lo hi env x S = (intO lo env S).bind (kSl1 mt hi env x) := (rfl)
@[simp] theorem kSl1_ap (mt : Bool) (hi : Option SE) (env : Env) (x : D) (l : Option Int) (S : Store) : kSl1 mt hi env x l S = (intO hi env S).bind (kSl2 mt x l) := (rfl)
@[simp] theorem kSl2_ap (mt : Bool) (x : D) (l h : Option Int) (S : Store) : kSl2 mt x l h S = vSl mt x l h S := (rfl)
def kIs (t : Ty) : D → Store → Out D := fun d S1 => match tyD S1 d with
  | some u => .ok (.bl (u.is t)) S1
  | none => .bad
@[simp] theorem mIs_ap (t : Ty) (a : SE) (env : Env) (S : Store) : mIs t a env S = (a env S).bind (kIs t) := (rfl)
@[simp] theorem kIs_int (t : Ty) (i : Int) (S : Store) : kIs t (.int i) S = .ok (.bl (Ty.int.is t)) S := (rfl)
@[simp] theorem kIs_bl (t : Ty) (i : Bool) (S : Store) : kIs t (.bl i) S = .ok (.bl (Ty.bl.is t)) S := (rfl)
@[simp] theorem kIs_str (t : Ty) (i : Str) (S : Store) : kIs t (.str i) S = .ok (.bl (Ty.str.is t)) S := (rfl)
@[simp] theorem kIs_tup (t : Ty) (i : List D) (S : Store) : kIs t (.tup i) S = .ok (.bl (Ty.tup.is t)) S := (rfl)
@[simp] theorem kIs_lst (t : Ty) (i : List D) (S : Store) : kIs t (.lst i) S = .ok (.bl (Ty.lst.is t)) S := (rfl)
@[simp] theorem kIs_non (t : Ty) (S : Store) : kIs t .non S = .ok (.bl (Ty.non.is t)) S := (rfl)
@[simp] theorem is_ii : Ty.int.is .int = true := (rfl)
@[simp] theorem is_ib : Ty.int.is .bl = false := (rfl)
@[simp] theorem is_it : Ty.int.is .tup = false := (rfl)
@[simp] theorem is_il : Ty.int.is .lst = false := (rfl)
@[simp] theorem is_is : Ty.int.is .str = false := (rfl)
@[simp] theorem is_bi : Ty.bl.is .int = true := (rfl)
@[simp] theorem is_bb : Ty.bl.is .bl = true := (rfl)
@[simp] theorem is_tt : Ty.tup.is .tup = true := (rfl)
@[simp] theorem is_ti : Ty.tup.is .int = false := (rfl)
@[simp] theorem is_tb : Ty.tup.is .bl = false := (rfl)
@[simp] theorem is_tl : Ty.tup.is .lst = false := (rfl)
@[simp] theorem is_ts : Ty.tup.is .str = false := (rfl)
@[simp] theorem is_li : Ty.lst.is .int = false := (rfl)
@[simp] theorem is_ll : Ty.lst.is .lst = true := (rfl)
@[simp] theorem is_lt : Ty.lst.is .tup = false := (rfl)
@[simp] theorem is_si : Ty.str.is .int = false := (rfl)
@[simp] theorem is_ss : Ty.str.is .str = true := (rfl)
@[simp] theorem is_st : Ty.str.is .tup = false := (rfl)
def kMtd1 (f : D → List D → Store → Out D) (c : D) : List D → Store → Out D := fun ds S2 => f c ds S2
def kMtd (f : D → List D → Store → Out D) (as : SA) (env : Env) : D → Store → Out D := fun c S1 => match listOf S1 c with
  | some _ => (as env S1).bind (kMtd1 f c)
  | none => .bad
@[simp] theorem mMtd_ap (f : D → List D → Store → Out D) (o : SE) (as : SA) (env : Env) (S : Store) : mMtd f o as env S = (o env S).bind (kMtd f as env) := (rfl)
def kMtdO (o : Option Ob) (f : D → List D → Store → Out D) (as : SA) (env : Env) (n : Nat) (S : Store) : Out D := match o with
  | some (.lst _) => (as env S).bind (kMtd1 f (.ref n))
  | _ => .bad
@[simp] theorem kMtd_ap (f : D → List D → Store → Out D) (as : SA) (env : Env) (n : Nat) (S : Store) : kMtd f as env (.ref n) S = kMtdO S[n]? f as env n S := by
  unfold kMtd kMtdO
  simp only [Mir.listOf]
  cases S[n]? with
  | none => rfl
  | some o => cases o <;> rfl
@[simp] theorem kMtdO_ap (f : D → List D → Store → Out D) (as : SA) (env : Env) (n : Nat) (S : Store) (xs : List D) : kMtdO (some (.lst xs)) f as env n S = (as env S).bind (kMtd1 f (.ref n)) := (rfl)
def kApp (o : Option Ob) (n : Nat) (d : D) (S : Store) : Out D := match o with
  | some (.lst xs) => if Nat.ble xs.length 16000000 then .ok .non (S.set n (.lst (xs ++ [d]))) else .bad
  | _ => .bad
@[simp] theorem vAppend_ap (n : Nat) (d : D) (S : Store) : vAppend (.ref n) [d] S = kApp S[n]? n d S := by
  unfold vAppend kApp
  dsimp only
  all_goals (cases S[n]? with
  | none => rfl
  | some o => cases o <;> rfl)
@[simp] theorem kApp_ap (xs : List D) (n : Nat) (d : D) (S : Store) (h : xs.length ≤ 16000000) : kApp (some (.lst xs)) n d S = .ok .non (S.set n (.lst (xs ++ [d]))) := if_pos (Nat.ble_eq_true_of_le h)
@[simp] theorem kMtd1_ap (f : D → List D → Store → Out D) (c : D) (ds : List D) (S : Store) : kMtd1 f c ds S = f c ds S := (rfl)
def kRg (tup mt : Bool) : D → Store → Out D := fun x S1 => match x with
  | .int j => mRgA tup mt 0 j S1
  | _ => .bad
@[simp] theorem mRg1_ap (tup mt : Bool) (a : SE) (env : Env) (S : Store) : mRg1 tup mt a env S = (a env S).bind (kRg tup mt) := (rfl)
/-- 0, 1, .. as values -/
def rg (n : Nat) : List Int := (List.range n).map fun i : Nat => (i : Int)
theorem rangeD_rg (n : Nat) : rangeD 0 n = (rg n).map D.int := by
  unfold rangeD rg
  rw [List.map_map]
  refine List.map_congr_left fun i _ => ?_
  simp
theorem rngOk_of {i : Int} (h1 : -4611686018427387904 ≤ i) (h2 : i < 4611686018427387904) : rngOk i = true := by
  unfold rngOk
  simp [h1, h2]
@[simp] theorem kRg_ap (tup mt : Bool) (j : Int) (S : Store) (h1 : j ≤ 16777216) (h2 : -16777216 ≤ j) : kRg tup mt (.int j) S = if tup then .ok (.tup ((rg j.toNat).map D.int)) S else mkL mt ((rg j.toNat).map D.int) S := by
  have hj : (j - 0).toNat ≤ 16777216 := by omega
  have b : Nat.ble (j - 0).toNat 16777216 = true := Nat.ble_eq_true_of_le hj
  have r : rngOk j = true := rngOk_of (by omega) (by omega)
  have r0 : rngOk 0 = true := rngOk_of (by omega) (by omega)
  have c : (rngOk 0 && (rngOk j && Nat.ble (j - 0).toNat 16777216)) = true := by rw [b, r, r0, Bool.and_self, Bool.and_self]
  have e : mRgA tup mt 0 j S = (if tup then .ok (.tup (rangeD 0 (j - 0).toNat)) S else mkL mt (rangeD 0 (j - 0).toNat) S) := by
    unfold mRgA
    exact if_pos c
  rw [Int.sub_zero, rangeD_rg] at e
  exact e
/-! ### places -/
@[simp] theorem gSet_ap (i : Nat) (d : D) (env : Env) (S : Store) : gSet i d env S = .ok (env.set i (some d)) S := (rfl)
@[simp] theorem gNone_ap (env : Env) (S : Store) : gNone [] env S = .ok env S := (rfl)
def kMore (gs : SGs) (r : List D) : Env → Store → Out Env := fun env1 S1 => gs r env1 S1
@[simp] theorem gMore_ap (g : SG) (gs : SGs) (d : D) (r : List D) (env : Env) (S : Store) : gMore g gs (d :: r) env S = (g d env S).bind (kMore gs r) := (rfl)
@[simp] theorem kMore_ap (gs : SGs) (r : List D) (env : Env) (S : Store) : kMore gs r env S = gs r env S := (rfl)
@[simp] theorem gTupD_ap (n : Nat) (gs : SGs) (ds : List D) (env : Env) (S : Store) (h : ds.length = n) : gTupD n gs (.tup ds) env S = gs ds env S := if_pos h
def kSub2 (env : Env) : Unit → Store → Out Env := fun _ S3 => .ok env S3
def kSub1 (env : Env) (c d : D) : D → Store → Out Env := fun k S2 => (vSet c k d S2).bind (kSub2 env)
def kSub (i : SE) (env : Env) (d : D) : D → Store → Out Env := fun c S1 => (i env S1).bind (kSub1 env c d)
@[simp] theorem gSubD_ap (o i : SE) (d : D) (env : Env) (S : Store) : gSubD o i d env S = (o env S).bind (kSub i env d) := (rfl)
@[simp] theorem kSub_ap (i : SE) (env : Env) (d c : D) (S : Store) : kSub i env d c S = (i env S).bind (kSub1 env c d) := (rfl)
@[simp] theorem kSub1_ap (env : Env) (d c k : D) (S : Store) : kSub1 env c d k S = (vSet c k d S).bind (kSub2 env) := (rfl)
@[simp] theorem kSub2_ap (env : Env) (S : Store) : kSub2 env () S = .ok env S := (rfl)
/-! ### statements -/
@[simp] theorem sSeq_ap (a c : SS) (env : Env) (S : Store) : sSeq a c env S = (a env S).seq c := by
  unfold sSeq Fl.seq
  cases a env S <;> rfl
@[simp] theorem sNil_ap (env : Env) (S : Store) : sNil env S = .nx env S := (rfl)
def kNx : Env → Store → Fl := fun e S2 => .nx e S2
@[simp] theorem kNx_ap (env : Env) (S : Store) : kNx env S = .nx env S := (rfl)
def kAsg (g : SG) (env : Env) : D → Store → Fl := fun d S1 => (g d env S1).fl kNx
@[simp] theorem sAsg_ap (m : SE) (g : SG) (env : Env) (S : Store) : sAsg m g env S = (m env S).fl (kAsg g env) := (rfl)
@[simp] theorem kAsg_ap (g : SG) (env : Env) (d : D) (S : Store) : kAsg g env d S = (g d env S).fl kNx := (rfl)
def kPar (is : List Nat) (env : Env) : List D → Store → Fl := fun ds S1 => match is, ds with
  | [i, j], [d, e] => .nx ((env.set i (some d)).set j (some e)) S1
  | [i, j, l], [d, e, f] => .nx (((env.set i (some d)).set j (some e)).set l (some f)) S1
  | _, _ => .bad
@[simp] theorem sPar_ap (is : List Nat) (as : SA) (env : Env) (S : Store) : sPar is as env S = (as env S).fl (kPar is env) := (rfl)
@[simp] theorem kPar_2 (i j : Nat) (env : Env) (d e : D) (S : Store) : kPar [i, j] env [d, e] S = .nx ((env.set i (some d)).set j (some e)) S := (rfl)
@[simp] theorem kPar_3 (i j l : Nat) (env : Env) (d e f : D) (S : Store) : kPar [i, j, l] env [d, e, f] S = .nx (((env.set i (some d)).set j (some e)).set l (some f)) S := (rfl)
def kAug1 (i : Nat) (env : Env) : D → Store → Fl := fun z S2 => .nx (env.set i (some z)) S2
def kAug (f : V2) (i : Nat) (env : Env) (x : D) : D → Store → Fl := fun y S1 => (f x y S1).fl (kAug1 i env)
def kAugV (o : Option (Option D)) (i : Nat) (f : V2) (m : SE) (env : Env) (S : Store) : Fl := match o with
  | some (some x) => (m env S).fl (kAug f i env x)
  | _ => .bad
@[simp] theorem sAug_ap (i : Nat) (f : V2) (m : SE) (env : Env) (S : Store) : sAug i f m env S = kAugV env[i]? i f m env S := (rfl)
@[simp] theorem kAugV_ap (x : D) (i : Nat) (f : V2) (m : SE) (env : Env) (S : Store) : kAugV (some (some x)) i f m env S = (m env S).fl (kAug f i env x) := (rfl)
@[simp] theorem kAug_ap (f : V2) (i : Nat) (env : Env) (x y : D) (S : Store) : kAug f i env x y S = (f x y S).fl (kAug1 i env) := (rfl)
@[simp] theorem kAug1_ap (i : Nat) (env : Env) (z : D) (S : Store) : kAug1 i env z S = .nx (env.set i (some z)) S := (rfl)
def kGa5 (env : Env) : Unit → Store → Fl := fun _ S6 => .nx env S6
def kGa4 (env : Env) (c i : D) : D → Store → Fl := fun z S5 => (vSet c i z S5).fl (kGa5 env)
def kGa3 (f : V2) (env : Env) (c i x : D) : D → Store → Fl := fun y S4 => (f x y S4).fl (kGa4 env c i)
def kGa2 (f : V2) (m : SE) (env : Env) (c i : D) : D → Store → Fl := fun x S3 => (m env S3).fl (kGa3 f env c i x)
def kGa1 (f : V2) (m : SE) (env : Env) (c : D) : D → Store → Fl := fun i S2 => (vGet c i S2).fl (kGa2 f m env c i)
def kGa (k : SE) (f : V2) (m : SE) (env : Env) : D → Store → Fl := fun c S1 => (k env S1).fl (kGa1 f m env c)
@[simp] theorem sAugG_ap (o k : SE) (f : V2) (m : SE) (env : Env) (S : Store) : sAugG o k f m env S = (o env S).fl (kGa k f m env) := (rfl)
@[simp] theorem kGa_ap (k : SE) (f : V2) (m : SE) (env : Env) (c : D) (S : Store) : kGa k f m env c S = (k env S).fl (kGa1 f m env c) := (rfl)
@[simp] theorem kGa1_ap (f : V2) (m : SE) (env : Env) (n : Nat) (i : D) (S : Store) : kGa1 f m env (.ref n) i S = (vIx (.ref n) i S).fl (kGa2 f m env (.ref n) i) := (rfl)
@[simp] theorem kGa2_ap (f : V2) (m : SE) (env : Env) (c i x : D) (S : Store) : kGa2 f m env c i x S = (m env S).fl (kGa3 f env c i x) := (rfl)
@[simp] theorem kGa3_ap (f : V2) (env : Env) (c i x y : D) (S : Store) : kGa3 f env c i x y S = (f x y S).fl (kGa4 env c i) := (rfl)
@[simp] theorem kGa4_ap (env : Env) (c i z : D) (S : Store) : kGa4 env c i z S = (vSet c i z S).fl (kGa5 env) := (rfl)
@[simp] theorem kGa5_ap (env : Env) (S : Store) : kGa5 env () S = .nx env S := (rfl)
def kRet : D → Store → Fl := fun d S1 => .rt d S1
@[simp] theorem sRet_ap (m : SE) (env : Env) (S : Store) : sRet m env S = (m env S).fl kRet := (rfl)
@[simp] theorem kRet_ap (d : D) (S : Store) : kRet d S = .rt d S := (rfl)
def kExp (env : Env) : D → Store → Fl := fun _ S1 => .nx env S1
@[simp] theorem sExpr_ap (m : SE) (env : Env) (S : Store) : sExpr m env S = (m env S).fl (kExp env) := (rfl)
@[simp] theorem kExp_ap (env : Env) (d : D) (S : Store) : kExp env d S = .nx env S := (rfl)
def kIfS (a c : SS) (env : Env) : Bool → Store → Fl := fun k S1 => if k then a env S1 else c env S1
@[simp] theorem sIf_ap (t : ST) (a c : SS) (env : Env) (S : Store) : sIf t a c env S = (t env S).fl (kIfS a c env) := (rfl)
@[simp] theorem kIfS_t (a c : SS) (env : Env) (S : Store) : kIfS a c env true S = a env S := (rfl)
@[simp] theorem kIfS_f (a c : SS) (env : Env) (S : Store) : kIfS a c env false S = c env S := (rfl)
@[simp] theorem sRaise_ap (c : Nat) (env : Env) (S : Store) : sRaise c env S = .ex c S := (rfl)
/-! ### values -/
section
variable (S : Store) (mt : Bool) (i j : Int)
@[simp] theorem vAdd_int : vAdd mt (.int i) (.int j) S = .ok (.int (i + j)) S := (rfl)
@[simp] theorem vAdd_tup (xs ys : List D) (h : xs.length + ys.length ≤ 16777216) : vAdd mt (.tup xs) (.tup ys) S = .ok (.tup (xs ++ ys)) S := if_pos h
@[simp] theorem vAdd_lst (xs ys : List D) (h : xs.length + ys.length ≤ 16777216) : vAdd mt (.lst xs) (.lst ys) S = mkL mt (xs ++ ys) S := if_pos h
@[simp] theorem vSub_int : vSub (.int i) (.int j) S = .ok (.int (i - j)) S := (rfl)
theorem divOk_of {i j : Int} (h1 : 0 < j) (h2 : j < 18446744073709551616) : divOk i j = true := by
  cases j with
  | negSucc n => exact absurd h1 (by omega)
  | ofNat n =>
    have g1 : 0 < (n : Int) := h1
    have g2 : (n : Int) < 18446744073709551616 := h2
    have h2 : n < 2 ^ 64 := by omega
    have a : Nat.ble 1 n = true := Nat.ble_eq_true_of_le (by omega)
    have b : n.log2 ≤ 8000 := by
      have := (Nat.log2_lt (by omega) (k := 64)).mpr h2
      omega
    have c : Nat.ble n.log2 8000 = true := Nat.ble_eq_true_of_le b
    show (Nat.ble 1 n && Nat.ble n.log2 8000) = true
    rw [a, c, Bool.and_self]
theorem modOk_of {i j : Int} (h1 : 0 < j) : modOk i j = true := by
  cases j with
  | ofNat n =>
    have : 0 < (n : Int) := h1
    exact Nat.ble_eq_true_of_le (by omega)
  | negSucc n => exact absurd h1 (by omega)
@[simp] theorem vDiv_int (h1 : 0 < j) (h2 : j < 18446744073709551616) : vDiv (.int i) (.int j) S = .ok (.int (i / j)) S := if_pos (divOk_of h1 h2)
@[simp] theorem vMod_int (h1 : 0 < j) : vMod (.int i) (.int j) S = .ok (.int (i % j)) S := if_pos (modOk_of h1)
theorem mulOk_of {i j : Int} (h1 : i.natAbs < 18446744073709551616) (h2 : j.natAbs < 18446744073709551616) : mulOk i j = true := by
  have key : ∀ n : Nat, n < 18446744073709551616 → n.log2 ≤ 64 := fun n h => by
    by_cases z : n = 0
    · subst z; decide
    · have := (Nat.log2_lt z (k := 64)).mpr (by omega)
      omega
  have a := key _ h1
  have b := key _ h2
  exact Nat.ble_eq_true_of_le (by omega)
@[simp] theorem vMul_int (h1 : i.natAbs < 18446744073709551616) (h2 : j.natAbs < 18446744073709551616) : vMul mt (.int i) (.int j) S = .ok (.int (i * j)) S := if_pos (mulOk_of h1 h2)
@[simp] theorem vLt_int : vLt (.int i) (.int j) S = .ok (.bl (decide (i < j))) S := (rfl)
@[simp] theorem vLe_int : vLe (.int i) (.int j) S = .ok (.bl (decide (i ≤ j))) S := (rfl)
@[simp] theorem vGt_int : vGt (.int i) (.int j) S = .ok (.bl (decide (j < i))) S := (rfl)
@[simp] theorem vGe_int : vGe (.int i) (.int j) S = .ok (.bl (decide (j ≤ i))) S := (rfl)
@[simp] theorem vEqS_int : vEqS (.int i) (.int j) S = .ok (.bl (decide (i = j))) S := by
  show vEq (.int i) (.int j) S = _
  simp only [vEq, vCmp, eqV, flat1, okD, eqF, Bool.and_self, if_true]
  by_cases h : i = j <;> simp [h]
@[simp] theorem vNeS_int : vNeS (.int i) (.int j) S = .ok (.bl (!decide (i = j))) S := by
  show vNe (.int i) (.int j) S = _
  simp only [vNe, vCmp, eqV, flat1, okD, eqF, Bool.and_self, if_true, Option.map]
  by_cases h : i = j <;> simp [h]
@[simp] theorem vIs_non (a : D) : vIs a .non S = .ok (.bl (match a with | .non => true | _ => false)) S := (rfl)
@[simp] theorem vIs_bl (a b : Bool) : vIs (.bl a) (.bl b) S = .ok (.bl (a == b)) S := (rfl)
@[simp] theorem vIsNot_non (a : D) : vIsNot a .non S = .ok (.bl (!(match a with | .non => true | _ => false))) S := (rfl)
@[simp] theorem vIsNot_bl (a b : Bool) : vIsNot (.bl a) (.bl b) S = .ok (.bl (!(a == b))) S := (rfl)
@[simp] theorem vNeg_int : vNeg (.int i) S = .ok (.int (-i)) S := (rfl)
@[simp] theorem vIadd_int : vIadd (.int i) (.int j) S = .ok (.int (i + j)) S := (rfl)
@[simp] theorem vLen_tup (xs : List D) : vLen [.tup xs] S = .ok (.int xs.length) S := (rfl)
@[simp] theorem vLen_lst (xs : List D) : vLen [.lst xs] S = .ok (.int xs.length) S := (rfl)
@[simp] theorem vLen_scr (xs : List Int) : vLen [.scr xs] S = .ok (.int xs.length) S := (rfl)
def kLen (o : Option Ob) (S : Store) : Out D := match o with
  | some (.lst xs) => .ok (.int xs.length) S
  | some (.dic _ kvs) => .ok (.int kvs.length) S
  | none => .bad
@[simp] theorem vLen_ref (n : Nat) : vLen [.ref n] S = kLen S[n]? S := (rfl)
@[simp] theorem kLen_lst (xs : List D) : kLen (some (.lst xs)) S = .ok (.int xs.length) S := (rfl)
@[simp] theorem kLen_dic (t : Bool) (kvs : List (D × D)) : kLen (some (.dic t kvs)) S = .ok (.int kvs.length) S := (rfl)
@[simp] theorem vAbs_int : vAbs [.int i] S = .ok (.int i.natAbs) S := by
  have e : (if i < 0 then -i else i) = (i.natAbs : Int) := by split <;> omega
  show Out.ok (D.int (if i < 0 then -i else i)) S = _
  rw [e]
@[simp] theorem vIntC_int : vIntC [.int i] S = .ok (.int i) S := (rfl)
@[simp] theorem vTuple_lst (xs : List D) : vTuple [.lst xs] S = .ok (.tup xs) S := (rfl)
@[simp] theorem vTuple_tup (xs : List D) : vTuple [.tup xs] S = .ok (.tup xs) S := (rfl)
def kTupO (o : Option Ob) (S : Store) : Out D := match o with
  | some (.lst xs) => .ok (.tup xs) S
  | _ => .bad
@[simp] theorem vTuple_ref (n : Nat) : vTuple [.ref n] S = kTupO S[n]? S := by
  unfold vTuple kTupO
  simp only [seqOf, Mir.listOf]
  cases S[n]? with
  | none => rfl
  | some o => cases o <;> rfl
@[simp] theorem kTupO_ap (xs : List D) : kTupO (some (.lst xs)) S = .ok (.tup xs) S := (rfl)
def kListO (o : Option Ob) (mt : Bool) (S : Store) : Out D := match o with
  | some (.lst xs) => mkL mt xs S
  | _ => .bad
@[simp] theorem vList_ref (n : Nat) : vList mt [.ref n] S = kListO S[n]? mt S := by
  unfold vList kListO
  simp only [seqOf, Mir.listOf]
  cases S[n]? with
  | none => rfl
  | some o => cases o <;> rfl
@[simp] theorem kListO_ap (xs : List D) : kListO (some (.lst xs)) mt S = mkL mt xs S := (rfl)
@[simp] theorem vList_tup (xs : List D) : vList mt [.tup xs] S = mkL mt xs S := (rfl)
@[simp] theorem vList_lst (xs : List D) : vList mt [.lst xs] S = mkL mt xs S := (rfl)
@[simp] theorem vMax2_2 : vMax2 [.int i, .int j] S = .ok (.int (if j > i then j else i)) S := (rfl)
@[simp] theorem vMin2_2 : vMin3 [.int i, .int j] S = .ok (.int (if j < i then j else i)) S := (rfl)
theorem intsOf_map : ∀ ns : List Int, intsOf (ns.map D.int) = some ns
  | [] => rfl
  | n :: ns => by
    have := intsOf_map ns
    unfold intsOf at *
    rw [List.map_cons, List.mapM_cons, this]
    rfl
@[simp] theorem vSum2_tup (ns : List Int) : vSum2 [.tup (ns.map D.int)] S = .ok (.int ns.sum) S := by unfold vSum2; simp only [intsOf_map]
@[simp] theorem vSum2_lst (ns : List Int) : vSum2 [.lst (ns.map D.int)] S = .ok (.int ns.sum) S := by
  show vSum [.lst (ns.map D.int)] S = _
  unfold vSum
  simp only [listInts, listOf, Option.bind, intsOf_map]
@[simp] theorem vSorted_lst (ns : List Int) : vSorted mt [.lst (ns.map D.int)] S = mkL mt ((sortI ns).map D.int) S := by
  unfold vSorted
  simp only [listInts, listOf, Option.bind, intsOf_map]
theorem bls_map : ∀ bs : List Bool, (bs.map D.bl).mapM blOf = some bs
  | [] => rfl
  | b :: bs => by
    rw [List.map_cons, List.mapM_cons, bls_map bs]
    rfl
@[simp] theorem vAll_lst (bs : List Bool) : vAnyAll true [.lst (bs.map D.bl)] S = .ok (.bl (bs.all id)) S := by
  unfold vAnyAll
  simp only [listOf, Option.bind, bls_map, if_true]
@[simp] theorem vAny_lst (bs : List Bool) : vAnyAll false [.lst (bs.map D.bl)] S = .ok (.bl (bs.any id)) S := by
  unfold vAnyAll
  simp only [listOf, Option.bind, bls_map, Bool.false_eq_true, if_false]
@[simp] theorem vAll_comp {α : Type} (b : α → Bool) (xs : List α) : vAnyAll true [.lst (xs.map (D.bl ∘ b))] S = .ok (.bl (xs.all b)) S := by
  have := vAll_lst S (xs.map b)
  rw [List.map_map, List.all_map] at this
  exact this
@[simp] theorem vAny_comp {α : Type} (b : α → Bool) (xs : List α) : vAnyAll false [.lst (xs.map (D.bl ∘ b))] S = .ok (.bl (xs.any b)) S := by
  have := vAny_lst S (xs.map b)
  rw [List.map_map, List.any_map] at this
  exact this
@[simp] theorem vAll_compt {α : Type} (b : α → Bool) (xs : List α) : vAnyAll true [.lst (xs.map (D.bl ∘ b)).tail] S = .ok (.bl (xs.tail.all b)) S := by rw [← List.map_tail]; exact vAll_comp S b _
@[simp] theorem vAll_fun {α : Type} (b : α → Bool) (xs : List α) : vAnyAll true [.lst (xs.map fun x => D.bl (b x))] S = .ok (.bl (xs.all b)) S := vAll_comp S b xs
@[simp] theorem vAny_fun {α : Type} (b : α → Bool) (xs : List α) : vAnyAll false [.lst (xs.map fun x => D.bl (b x))] S = .ok (.bl (xs.any b)) S := vAny_comp S b xs
theorem atI_of {α : Type} {xs : List α} {k : Nat} {i : Int} (e : i = (k : Int)) (h : k < xs.length) : L2.atI xs i = some xs[k] := by
  subst e
  exact L2.atI_nat (List.getElem?_eq_getElem h)
theorem atI_map {α β : Type} (f : α → β) (xs : List α) (i : Int) : L2.atI (xs.map f) i = (L2.atI xs i).map f := by
  unfold L2.atI
  rw [List.length_map]
  cases L2.ixN xs.length i with
  | none => rfl
  | some k => simp
theorem atI_nn {α : Type} (xs : List α) {i : Int} (h : 0 ≤ i) : L2.atI xs i = xs[i.toNat]? := by
  unfold L2.atI L2.ixN
  rw [if_pos h]
  split
  · rfl
  · rw [List.getElem?_eq_none (by omega)]; rfl
@[simp] theorem atI_lit {α : Type} (xs : List α) (n : Nat) : L2.atI xs (no_index (OfNat.ofNat n : Int)) = xs[(OfNat.ofNat n : Nat)]? := atI_nn xs (Int.natCast_nonneg n)
@[simp] theorem atI_cast {α : Type} (xs : List α) (n : Nat) : L2.atI xs (n : Int) = xs[n]? := atI_nn xs (Int.natCast_nonneg n)
@[simp] theorem atI_neg {α : Type} (xs : List α) : L2.atI xs (-1) = xs.getLast? := by
  unfold L2.atI L2.ixN
  rw [if_neg (by decide)]
  cases xs with
  | nil => rfl
  | cons x xs =>
    rw [if_pos (by simp only [List.length_cons]; omega), List.getLast?_eq_getElem?]
    show (x :: xs)[_]? = _
    congr 1
    simp only [List.length_cons]
    omega
def kIx (o : Option D) (S : Store) : Out D := match o with
  | some d => .ok d S
  | none => .bad
@[simp] theorem kIx_ap (d : D) : kIx (some d) S = .ok d S := (rfl)
@[simp] theorem vIx_tup (xs : List D) : vIx (.tup xs) (.int i) S = kIx (L2.atI xs i) S := (rfl)
@[simp] theorem vIx_lst (xs : List D) : vIx (.lst xs) (.int i) S = kIx (L2.atI xs i) S := (rfl)
def kIxO (o : Option Ob) (k : D) (S : Store) : Out D := match o with
  | some (.lst xs) => (match k with
    | .int i => kIx (L2.atI xs i) S
    | _ => .bad)
  | some (.dic t kvs) => if isKey t k then kIx (dLook t kvs k) S else .bad
  | none => .bad
@[simp] theorem vIx_ref (n : Nat) (k : D) : vIx (.ref n) k S = kIxO S[n]? k S := by
  unfold vIx kIxO
  dsimp only
  cases S[n]? with
  | none => rfl
  | some o =>
    cases o with
    | lst xs => cases k <;> rfl
    | dic t kvs => rfl
@[simp] theorem kIxO_lst (xs : List D) : kIxO (some (.lst xs)) (.int i) S = kIx (L2.atI xs i) S := (rfl)
def kSet (o : Option Ob) (n : Nat) (i v : D) (S : Store) : Out Unit := match o with
  | some (.lst xs) => (match i with
    | .int k => (match L2.ixN xs.length k with
      | some j => .ok () (S.set n (.lst (xs.set j v)))
      | none => .bad)
    | _ => .bad)
  | some (.dic t kvs) => if isKey t i && Nat.ble kvs.length 16000000 then .ok () (S.set n (.dic t (dPut t kvs i v))) else .bad
  | none => .bad
@[simp] theorem vSet_ref (n : Nat) (k d : D) : vSet (.ref n) k d S = kSet S[n]? n k d S := (rfl)
theorem ixN_of {n : Nat} {i : Int} (h0 : 0 ≤ i) (h1 : i < n) : L2.ixN n i = some i.toNat := by
  unfold L2.ixN
  rw [if_pos h0, if_pos h1]
@[simp] theorem kSet_lst (xs : List D) (n : Nat) (d : D) (h0 : 0 ≤ i) (h1 : i < (xs.length : Int)) : kSet (some (.lst xs)) n (.int i) d S = .ok () (S.set n (.lst (xs.set i.toNat d))) := by
  unfold kSet
  simp only [ixN_of h0 h1]
def kMulO (o : Option Ob) (k : Int) : Out D := match o with
  | some (.lst xs) => if decide (k ≤ 16777216) && Nat.ble (xs.length * k.toNat) 16777216 && decide (-(16777216) ≤ k) then mkL mt (List.replicate k.toNat xs).flatten S else .bad
  | _ => .bad
@[simp] theorem vMul_ref (n : Nat) (k : Int) : vMul mt (.ref n) (.int k) S = kMulO S mt S[n]? k := by
  unfold vMul kMulO
  simp only [Mir.listOf]
  cases S[n]? with
  | none => rfl
  | some o => cases o <;> rfl
@[simp] theorem kMulO_ap (xs : List D) (k : Int) (h0 : 0 ≤ k) (hk : k ≤ 16777216) (h : xs.length * k.toNat ≤ 16777216) : kMulO S mt (some (.lst xs)) k = mkL mt (List.replicate k.toNat xs).flatten S := by
  have b : Nat.ble (xs.length * k.toNat) 16777216 = true := Nat.ble_eq_true_of_le h
  have c : (decide (k ≤ 16777216) && Nat.ble (xs.length * k.toNat) 16777216 && decide (-(16777216) ≤ k)) = true := by
    rw [b, decide_eq_true hk, decide_eq_true (show (-(16777216) : Int) ≤ k by omega)]
    rfl
  exact if_pos c
@[simp] theorem vMul_lst (xs : List D) (k : Int) (h0 : 0 ≤ k) (hk : k ≤ 16777216) (h : xs.length * k.toNat ≤ 16777216) : vMul mt (.lst xs) (.int k) S = mkL mt (List.replicate k.toNat xs).flatten S := kMulO_ap S mt xs k h0 hk h
@[simp] theorem rep_ints (k : Nat) (j : Int) : (List.replicate k [D.int j]).flatten = (List.replicate k j).map D.int := by
  induction k with
  | zero => rfl
  | succ k ih => rw [List.replicate_succ, List.flatten_cons, ih]; rfl
def kSlO (o : Option Ob) (lo hi : Option Int) : Out D := match o with
  | some (.lst xs) => mkL mt (cutD xs lo hi) S
  | _ => .bad
@[simp] theorem vSl_ref (n : Nat) (lo hi : Option Int) : vSl mt (.ref n) lo hi S = kSlO S mt S[n]? lo hi := by
  unfold vSl kSlO
  simp only [Mir.listOf]
  cases S[n]? with
  | none => rfl
  | some o => cases o <;> rfl
@[simp] theorem kSlO_ap (xs : List D) (lo hi : Option Int) : kSlO S mt (some (.lst xs)) lo hi = mkL mt (cutD xs lo hi) S := (rfl)
@[simp] theorem vSl_lst (xs : List D) (lo hi : Option Int) : vSl mt (.lst xs) lo hi S = mkL mt (cutD xs lo hi) S := (rfl)
@[simp] theorem vSl_tup (xs : List D) (lo hi : Option Int) : vSl mt (.tup xs) lo hi S = .ok (.tup (cutD xs lo hi)) S := (rfl)
theorem sIx_nn (n d : Nat) {i : Int} (h : 0 ≤ i) : HT.sIx n d (some i) = min i.toNat n := by
  show (if i < 0 then (i + (n : Int)).toNat else min i.toNat n) = _
  rw [if_neg (by omega)]
theorem cutD_from (xs : List D) {i : Int} (h : 0 ≤ i) : cutD xs (some i) none = xs.drop i.toNat := by
  unfold cutD
  rw [sIx_nn _ _ h]
  show (xs.drop (min i.toNat xs.length)).take (xs.length - min i.toNat xs.length) = _
  by_cases hl : i.toNat ≤ xs.length
  · rw [Nat.min_eq_left hl, List.take_of_length_le (by simp)]
  · rw [Nat.min_eq_right (by omega), List.drop_of_length_le (i := i.toNat) (by omega)]
    simp
theorem cutD_to (xs : List D) {i : Int} (h : 0 ≤ i) : cutD xs none (some i) = xs.take i.toNat := by
  unfold cutD
  rw [sIx_nn _ _ h]
  show (xs.drop 0).take (min i.toNat xs.length - 0) = _
  rw [List.drop_zero, Nat.sub_zero]
  by_cases hl : i.toNat ≤ xs.length
  · rw [Nat.min_eq_left hl]
  · rw [Nat.min_eq_right (by omega), List.take_of_length_le (by omega), List.take_of_length_le (by omega)]
/-- alike values -/
theorem okD_ints : ∀ (n : Nat) (xs : List Int), (xs.map D.int).all (okD (n + 1)) = true
  | _, [] => rfl
  | n, x :: xs => by
    rw [List.map_cons, List.all_cons, okD_ints n xs]
    rfl
theorem eqL_ints (n : Nat) : ∀ xs ys : List Int, eqL (eqF (n + 1)) (xs.map D.int) (ys.map D.int) = decide (xs = ys)
  | [], [] => by simp [eqL]
  | [], _ :: _ => by simp [eqL]
  | _ :: _, [] => by simp [eqL]
  | x :: xs, y :: ys => by
    rw [List.map_cons, List.map_cons]
    unfold eqL
    rw [eqL_ints n xs ys]
    show ((x == y) && decide (xs = ys)) = _
    by_cases h : x = y <;> by_cases h2 : xs = ys <;> simp [h, h2]
theorem eqV_lsts (xs ys : List Int) : eqV S (.lst (xs.map .int)) (.lst (ys.map .int)) = some (decide (xs = ys)) := by
  show (if okD 60 (.lst (xs.map .int)) && okD 60 (.lst (ys.map .int)) then some (eqF 60 (.lst (xs.map .int)) (.lst (ys.map .int))) else none) = _
  show (if (xs.map D.int).all (okD 59) && (ys.map D.int).all (okD 59) then some (eqL (eqF 59) (xs.map .int) (ys.map .int)) else none) = _
  rw [okD_ints, okD_ints, eqL_ints]
  rfl
theorem eqV_tups (xs ys : List Int) : eqV S (.tup (xs.map .int)) (.tup (ys.map .int)) = some (decide (xs = ys)) := by
  show (if (xs.map D.int).all (okD 59) && (ys.map D.int).all (okD 59) then some (eqL (eqF 59) (xs.map .int) (ys.map .int)) else none) = _
  rw [okD_ints, okD_ints, eqL_ints]
  rfl
@[simp] theorem vEqS_lsts (xs ys : List Int) : vEqS (.lst (xs.map .int)) (.lst (ys.map .int)) S = .ok (.bl (decide (xs = ys))) S := by
  show vCmp (fun a b S => eqV S a b) _ _ S = _
  unfold vCmp
  dsimp only
  rw [eqV_lsts]
@[simp] theorem vEqS_tups (xs ys : List Int) : vEqS (.tup (xs.map .int)) (.tup (ys.map .int)) S = .ok (.bl (decide (xs = ys))) S := by
  show vCmp (fun a b S => eqV S a b) _ _ S = _
  unfold vCmp
  dsimp only
  rw [eqV_tups]
@[simp] theorem vNeS_lsts (xs ys : List Int) : vNeS (.lst (xs.map .int)) (.lst (ys.map .int)) S = .ok (.bl (!decide (xs = ys))) S := by
  show vCmp (fun a b S => (eqV S a b).map (!·)) _ _ S = _
  unfold vCmp
  dsimp only
  rw [eqV_lsts]
  rfl
@[simp] theorem vNeS_tups (xs ys : List Int) : vNeS (.tup (xs.map .int)) (.tup (ys.map .int)) S = .ok (.bl (!decide (xs = ys))) S := by
  show vCmp (fun a b S => (eqV S a b).map (!·)) _ _ S = _
  unfold vCmp
  dsimp only
  rw [eqV_tups]
  rfl
@[simp] theorem vEqS_bl (a b : Bool) : vEqS (.bl a) (.bl b) S = .ok (.bl (a == b)) S := by cases a <;> cases b <;> rfl
@[simp] theorem vNeS_bl (a b : Bool) : vNeS (.bl a) (.bl b) S = .ok (.bl (!(a == b))) S := by cases a <;> cases b <;> rfl
theorem smDs_ints : ∀ {xs : List Int}, (∀ x ∈ xs, x.natAbs ≤ 900000000000) → smDs (xs.map D.int) = true
  | [], _ => by simp [smDs]
  | x :: xs, h => by
    rw [List.map_cons]
    unfold smDs
    rw [smDs_ints fun y hy => h y (List.mem_cons_of_mem _ hy)]
    have := Nat.ble_eq_true_of_le (h x List.mem_cons_self)
    simp [smD, this]
theorem cnDs_ints : ∀ xs : List Int, cnDs (xs.map D.int) = 2 * xs.length
  | [] => by simp [cnDs]
  | x :: xs => by
    rw [List.map_cons]
    unfold cnDs
    rw [cnDs_ints xs]
    simp only [cnD, List.length_cons]
    omega
theorem vRepr_ints (xs : List Int) (h1 : ∀ x ∈ xs, x.natAbs ≤ 900000000000) (h2 : xs.length ≤ 9000) : vRepr [.tup (xs.map .int)] S = .ok (.str (py (.tup (xs.map .int))).shown) S := by
  have a : okD 60 (.tup (xs.map .int)) = true := okD_ints 58 xs
  have b : smD (.tup (xs.map .int)) = true := by unfold smD; exact smDs_ints h1
  have c : cnD (.tup (xs.map .int)) ≤ 20000 := by unfold cnD; rw [cnDs_ints]; omega
  have d : reprOk (.tup (xs.map .int)) = true := by
    unfold reprOk
    rw [a, b, Nat.ble_eq_true_of_le c]
    rfl
  exact if_pos d
@[simp] theorem vEqS_str (x y : Str) : vEqS (.str x) (.str y) S = .ok (.bl (decide (x = y))) S := (rfl)
@[simp] theorem vNeS_str (x y : Str) : vNeS (.str x) (.str y) S = .ok (.bl (!decide (x = y))) S := (rfl)
theorem mem_rg0 {n : Nat} {x : Int} : x ∈ (List.range n).map (fun i : Nat => (i : Int)) ↔ 0 ≤ x ∧ x < n := by
  simp only [List.mem_map, List.mem_range]
  constructor
  · rintro ⟨k, hk, rfl⟩; omega
  · exact fun h => ⟨x.toNat, by omega, by omega⟩
end
/-! ### walks -/
def kSrc : D → Store → Out Src := fun x S1 => match srcOf S1 x with
  | some s => .ok s S1
  | none => .bad
@[simp] theorem mSrc_ap (a : SE) (env : Env) (S : Store) : mSrc a env S = (a env S).bind kSrc := (rfl)
@[simp] theorem kSrc_tup (xs : List D) (S : Store) : kSrc (.tup xs) S = .ok (.items xs) S := (rfl)
@[simp] theorem kSrc_lst (xs : List D) (S : Store) : kSrc (.lst xs) S = .ok (.items xs) S := (rfl)
def kR1 : List D → Store → Out Src := fun xs S1 => match xs with
  | [.int j] => if rngOk j then .ok (.items (rangeD 0 j.toNat)) S1 else .bad
  | _ => .bad
@[simp] theorem mRange1_ap (as : SA) (env : Env) (S : Store) : mRange1 as env S = (as env S).bind kR1 := (rfl)
@[simp] theorem kR1_ap (j : Int) (S : Store) (h1 : -4611686018427387904 ≤ j) (h2 : j < 4611686018427387904) : kR1 [.int j] S = .ok (.items ((rg j.toNat).map D.int)) S := by
  show (if rngOk j then _ else _) = _
  rw [if_pos (rngOk_of h1 h2), rangeD_rg]
/-- i, i + 1, .. -/
def rgs (i : Int) (n : Nat) : List Int := (List.range n).map fun k : Nat => i + (k : Int)
theorem mem_rg {n : Nat} {x : Int} : x ∈ rg n ↔ 0 ≤ x ∧ x < n := mem_rg0
theorem mem_rgs {i : Int} {n : Nat} {x : Int} : x ∈ rgs i n ↔ i ≤ x ∧ x < i + n := by
  unfold rgs
  simp only [List.mem_map, List.mem_range]
  constructor
  · rintro ⟨k, hk, rfl⟩; omega
  · exact fun h => ⟨(x - i).toNat, by omega, by omega⟩
@[simp] theorem rg_len (n : Nat) : (rg n).length = n := by simp [rg]
@[simp] theorem rgs_len (i : Int) (n : Nat) : (rgs i n).length = n := by simp [rgs]
def kR2 : List D → Store → Out Src := fun xs S1 => match xs with
  | [.int i, .int j] => if rngOk i && rngOk j then .ok (.items (rangeD i (j - i).toNat)) S1 else .bad
  | _ => .bad
@[simp] theorem mRange2_ap (as : SA) (env : Env) (S : Store) : mRange2 as env S = (as env S).bind kR2 := (rfl)
@[simp] theorem kR2_ap (i j : Int) (S : Store) (h1 : -4611686018427387904 ≤ i) (h2 : i < 4611686018427387904) (h3 : -4611686018427387904 ≤ j) (h4 : j < 4611686018427387904) : kR2 [.int i, .int j] S = .ok (.items ((rgs i (j - i).toNat).map D.int)) S := by
  show (if rngOk i && rngOk j then _ else _) = _
  rw [if_pos (by rw [rngOk_of h1 h2, rngOk_of h3 h4]; rfl)]
  unfold rangeD rgs
  rw [List.map_map]
  rfl
/-- a loop over items: an invariant of what is done with each -/
theorem runF_inv {α : Type} {body : D → SS} {enc : α → D} {β : Type} {R : β → Env → Store → Prop} {step : β → α → β} : ∀ {xs : List α} {b : β} {env : Env} {S : Store},
    (∀ b x env S, x ∈ xs → R b env S → ∃ env' S', body (enc x) env S = .nx env' S' ∧ R (step b x) env' S') → R b env S → ∃ env' S', runF body (xs.map enc) env S = .nx env' S' ∧ R (xs.foldl step b) env' S'
  | [], b, env, S, _, r => ⟨env, S, rfl, r⟩
  | x :: xs, b, env, S, h, r => by
    obtain ⟨env1, S1, e1, r1⟩ := h b x env S List.mem_cons_self r
    obtain ⟨env2, S2, e2, r2⟩ := runF_inv (xs := xs) (fun b y env S hy => h b y env S (List.mem_cons_of_mem _ hy)) r1
    exact ⟨env2, S2, by rw [List.map_cons]; unfold runF; rw [e1]; exact e2, r2⟩
/-- it goes on, so -/
def Fl.is (f : Fl) (P : Env → Store → Prop) : Prop := match f with
  | .nx e S => P e S
  | _ => False
@[simp] theorem is_nx (e : Env) (S : Store) (P : Env → Store → Prop) : (Fl.nx e S).is P = P e S := (rfl)
theorem is_elim {f : Fl} {P : Env → Store → Prop} (h : f.is P) : ∃ e S, f = .nx e S ∧ P e S := by
  cases f with
  | nx e S => exact ⟨e, S, rfl, h⟩
  | _ => exact h.elim
theorem runF_at {α : Type} {body : D → SS} {enc : α → D} {β : Type} {R : β → Env → Store → Prop} {step : β → α → β} {xs : List α} {b : β} {env : Env} {S : Store} {f : Fl} (hx : runF body (xs.map enc) env S = f)
    (h : ∀ P : β → Env → Store → Prop, (∀ b env S, R b env S → P b env S) → ∀ b x env S, x ∈ xs → R b env S → (body (enc x) env S).is (P (step b x))) (r : R b env S) : ∃ env' S', f = .nx env' S' ∧ R (xs.foldl step b) env' S' := by
  obtain ⟨env', S', e, r'⟩ := runF_inv (fun b x env S hx r => is_elim (h R (fun _ _ _ r => r) b x env S hx r)) r
  exact ⟨env', S', hx.symm.trans e, r'⟩
theorem runF_all {α : Type} {body : D → SS} {enc : α → D} {R : Env → Store → Prop} {xs : List α} {env : Env} {S : Store} {f : Fl} (hx : runF body (xs.map enc) env S = f)
    (h : ∀ P : Env → Store → Prop, (∀ env S, R env S → P env S) → ∀ x env S, x ∈ xs → R env S → (body (enc x) env S).is P) (r : R env S) : ∃ env' S', f = .nx env' S' ∧ R env' S' :=
  runF_at (R := fun (_ : Unit) => R) (step := fun b _ => b) (b := ()) hx (fun P hP _ x env S hx p => h (P ()) (hP ()) x env S hx p) r
theorem runF_ixGo {α : Type} {body : D → SS} {enc : α → D} {R : Nat → Env → Store → Prop} : ∀ (xs : List α) (o : Nat) (env : Env) (S : Store),
    (∀ (k : Nat) (env : Env) (S : Store) (hk : k < xs.length), R (o + k) env S → ∃ env' S', body (enc xs[k]) env S = .nx env' S' ∧ R (o + k + 1) env' S') → R o env S → ∃ env' S', runF body (xs.map enc) env S = .nx env' S' ∧ R (o + xs.length) env' S'
  | [], o, env, S, _, r => ⟨env, S, rfl, r⟩
  | x :: xs, o, env, S, h, r => by
    obtain ⟨env1, S1, e1, r1⟩ := h 0 env S (by simp) r
    obtain ⟨env2, S2, e2, r2⟩ := runF_ixGo xs (o + 1) env1 S1 (fun k env S hk r => by
      have := h (k + 1) env S (by simpa using hk) (by rw [show o + (k + 1) = o + 1 + k by omega]; exact r)
      rw [show o + (k + 1) + 1 = o + 1 + k + 1 by omega] at this
      exact this) r1
    refine ⟨env2, S2, ?_, by rw [List.length_cons, show o + (xs.length + 1) = o + 1 + xs.length by omega]; exact r2⟩
    rw [List.map_cons]
    unfold runF
    have e1 : body (enc x) env S = .nx env1 S1 := e1
    rw [e1]
    exact e2
/-- a loop, its rounds counted -/
theorem runF_ix {α : Type} {body : D → SS} {enc : α → D} {R : Nat → Env → Store → Prop} {xs : List α} {env : Env} {S : Store} {f : Fl} (hx : runF body (xs.map enc) env S = f)
    (h : ∀ P : Nat → Env → Store → Prop, (∀ b env S, R b env S → P b env S) → ∀ (k : Nat) (env : Env) (S : Store) (hk : k < xs.length), R k env S → (body (enc xs[k]) env S).is (P (k + 1))) (r : R 0 env S) : ∃ env' S', f = .nx env' S' ∧ R xs.length env' S' := by
  obtain ⟨env', S', e, r'⟩ := runF_ixGo (R := R) (body := body) (enc := enc) xs 0 env S (fun k env S hk r => by
    have := is_elim (h R (fun _ _ _ r => r) k env S hk (by rw [Nat.zero_add] at r; exact r))
    rw [Nat.zero_add]
    exact this) r
  rw [Nat.zero_add] at r'
  exact ⟨env', S', hx.symm.trans e, r'⟩
/-- some of the items, by what is drawn -/
theorem runC_sub {α : Type} {f : D → Store → Out (Option D)} {enc ec : α → D} {P : Store → Prop} : ∀ {xs : List α} {S : Store},
    (∀ S x, x ∈ xs → P S → ∃ (c : Bool) (S' : Store), f (enc x) S = .ok (if c then some (ec x) else none) S' ∧ P S') → P S → ∃ (zs : List α) (S' : Store), runC f (xs.map enc) S = .ok (zs.map ec) S' ∧ zs.Sublist xs ∧ P S'
  | [], S, _, p => ⟨[], S, rfl, .slnil, p⟩
  | x :: xs, S, h, p => by
    obtain ⟨c, S1, e1, p1⟩ := h S x List.mem_cons_self p
    obtain ⟨zs, S2, e2, s2, p2⟩ := runC_sub (xs := xs) (fun S y hy => h S y (List.mem_cons_of_mem _ hy)) p1
    refine ⟨(if c then [x] else []) ++ zs, S2, ?_, ?_, p2⟩
    · rw [List.map_cons]
      unfold runC
      rw [e1]
      dsimp only
      rw [e2]
      cases c <;> rfl
    · cases c with
      | true => exact s2.cons_cons x
      | false => exact s2.cons x
theorem runC_rel {α β : Type} {f : D → Store → Out (Option D)} {enc : α → D} {ec : β → D} {P : List β → Store → Prop} : ∀ {xs : List α} {ys : List β} {S : Store},
    (∀ ys S x, x ∈ xs → P ys S → ∃ (o : Option β) (S' : Store), f (enc x) S = .ok (o.map ec) S' ∧ P (ys ++ o.toList) S') → P ys S → ∃ zs S', runC f (xs.map enc) S = .ok (zs.map ec) S' ∧ P (ys ++ zs) S'
  | [], ys, S, _, p => ⟨[], S, rfl, by simpa using p⟩
  | x :: xs, ys, S, h, p => by
    obtain ⟨o, S1, e1, p1⟩ := h ys S x List.mem_cons_self p
    obtain ⟨zs, S2, e2, p2⟩ := runC_rel (xs := xs) (fun ys S y hy => h ys S y (List.mem_cons_of_mem _ hy)) p1
    refine ⟨o.toList ++ zs, S2, ?_, by simpa using p2⟩
    rw [List.map_cons]
    unfold runC
    rw [e1]
    dsimp only
    rw [e2]
    cases o <;> simp
def bodyF (g : SG) (b : SS) : D → SS := fun d env S => (g d env S).fl b
@[simp] theorem bodyF_ap (g : SG) (b : SS) (d : D) (env : Env) (S : Store) : bodyF g b d env S = (g d env S).fl b := (rfl)
def kFor (g : SG) (b : SS) (env : Env) : Src → Store → Fl := fun s S1 => forL s.get s.fin (bodyF g b) s.len 0 env S1
@[simp] theorem sFor_ap (src : Env → Store → Out Src) (g : SG) (b : SS) (env : Env) (S : Store) : sFor src g b env S = (src env S).fl (kFor g b env) := (rfl)
@[simp] theorem kFor_ap (g : SG) (b : SS) (env : Env) (ds : List D) (S : Store) : kFor g b env (.items ds) S = runF (bodyF g b) ds env S := forL_items _ ds env S
/-- a comprehension whose elements do without the store -/
def kLC1 (mt : Bool) : Out (List D) → Out D
  | .ok ys S2 => mkL mt ys S2
  | _ => .bad
@[simp] theorem kLC1_ok (mt : Bool) (ys : List D) (S : Store) : kLC1 mt (.ok ys S) = mkL mt ys S := (rfl)
def kLC (own : List Nat) (mt : Bool) (g : SG) (t : ST) (e : SE) (env : Env) : Src → Store → Out D := fun s S1 => if Nat.ble s.len 16777216 then kLC1 mt (compL s.get s.fin (mElt own g t e env) s.len 0 S1) else .bad
@[simp] theorem mLC_ap (own : List Nat) (mt : Bool) (src : Env → Store → Out Src) (g : SG) (t : ST) (e : SE) (env : Env) (S : Store) : mLC own mt src g t e env S = (src env S).bind (kLC own mt g t e env) := by
  unfold mLC
  cases src env S with
  | ok s S1 =>
    show (if _ then _ else _) = kLC own mt g t e env s S1
    unfold kLC kLC1
    split
    · cases compL s.get s.fin (mElt own g t e env) s.len 0 S1 <;> rfl
    · rfl
  | _ => rfl
@[simp] theorem kLC_ap (own : List Nat) (mt : Bool) (g : SG) (t : ST) (e : SE) (env : Env) (ds : List D) (S : Store) (h : ds.length ≤ 16777216) : kLC own mt g t e env (.items ds) S = kLC1 mt (runC (mElt own g t e env) ds S) := by
  unfold kLC
  rw [if_pos (show Nat.ble (Src.items ds).len 16777216 = true from Nat.ble_eq_true_of_le h)]
  exact congrArg _ (compL_go _ [] ds S)
def kE3 : D → Store → Out (Option D) := fun y S3 => .ok (some y) S3
def kE2 (e : SE) (env1 : Env) : Bool → Store → Out (Option D) := fun c S2 => if c then (e env1 S2).bind kE3 else .ok none S2
def kE1 (t : ST) (e : SE) : Env → Store → Out (Option D) := fun env1 S1 => (t env1 S1).bind (kE2 e env1)
@[simp] theorem mElt_ap (own : List Nat) (g : SG) (t : ST) (e : SE) (env : Env) (d : D) (S : Store) : mElt own g t e env d S = (g d (wipeE env own) S).bind (kE1 t e) := (rfl)
@[simp] theorem kE1_ap (t : ST) (e : SE) (env : Env) (S : Store) : kE1 t e env S = (t env S).bind (kE2 e env) := (rfl)
@[simp] theorem kE2_t (e : SE) (env : Env) (S : Store) : kE2 e env true S = (e env S).bind kE3 := (rfl)
@[simp] theorem kE2_f (e : SE) (env : Env) (S : Store) : kE2 e env false S = .ok none S := (rfl)
@[simp] theorem kE3_ap (d : D) (S : Store) : kE3 d S = .ok (some d) S := (rfl)
@[simp] theorem tt_ap (env : Env) (S : Store) : (fun (_ : Env) (S : Store) => Out.ok true S) env S = .ok true S := (rfl)
@[simp] theorem wipeE_nil (env : Env) : wipeE env [] = env := (rfl)
@[simp] theorem wipeE_cons (env : Env) (v : Nat) (vs : List Nat) : wipeE env (v :: vs) = (wipeE env vs).set v none := (rfl)
/-- each item alike -/
theorem runC_pure {α β : Type} {f : D → Store → Out (Option D)} {enc : α → D} {ec : β → D} {S : Store} {h : α → β} : ∀ {xs : List α}, (∀ x ∈ xs, f (enc x) S = .ok (some (ec (h x))) S) → runC f (xs.map enc) S = .ok ((xs.map h).map ec) S
  | [], _ => rfl
  | x :: xs, q => by
    rw [List.map_cons]
    unfold runC
    rw [q x List.mem_cons_self]
    dsimp only
    rw [runC_pure (h := h) fun y hy => q y (List.mem_cons_of_mem _ hy)]
    rfl
theorem runC_filter {α β : Type} {f : D → Store → Out (Option D)} {enc : α → D} {ec : β → D} {S : Store} {h : α → Option β} : ∀ {xs : List α}, (∀ x ∈ xs, f (enc x) S = .ok ((h x).map ec) S) → runC f (xs.map enc) S = .ok ((xs.filterMap h).map ec) S
  | [], _ => rfl
  | x :: xs, q => by
    rw [List.map_cons]
    unfold runC
    rw [q x List.mem_cons_self]
    dsimp only
    rw [runC_filter (h := h) fun y hy => q y (List.mem_cons_of_mem _ hy)]
    dsimp only
    rw [List.filterMap_cons]
    cases h x <;> rfl
/-! ### the end of a def -/
theorem lts_int : ∀ (n : Nat) (ns : List Int), lts n (ns.map D.int) = true
  | _, [] => by simp [lts]
  | n, x :: ns => by
    rw [List.map_cons]
    unfold lts
    rw [lts_int n ns]
    simp [D.lt]
@[simp] theorem lts_ints (n : Nat) (ns : List Int) : lts n (ns.map D.int) = true := lts_int n ns
@[simp] theorem lts_intst (n : Nat) (ns : List Int) : lts n (ns.map D.int).tail = true := by rw [← List.map_tail]; exact lts_int n _
@[simp] theorem fin_int (keep : Bool) (S : Store) (i : Int) (T : Store) : Mir.finish keep S (.rt (.int i) (S ++ T)) = .ok (.int i) (if keep then S ++ T else S) := by
  unfold Mir.finish
  cases keep with
  | true => rfl
  | false => simp [backOk_app, outD, D.lt]
@[simp] theorem fin_bl (keep : Bool) (S : Store) (i : Bool) (T : Store) : Mir.finish keep S (.rt (.bl i) (S ++ T)) = .ok (.bl i) (if keep then S ++ T else S) := by
  unfold Mir.finish
  cases keep with
  | true => rfl
  | false => simp [backOk_app, outD, D.lt]
@[simp] theorem fin_non (keep : Bool) (S : Store) (T : Store) : Mir.finish keep S (.rt .non (S ++ T)) = .ok .non (if keep then S ++ T else S) := by
  unfold Mir.finish
  cases keep with
  | true => rfl
  | false => simp [backOk_app, outD, D.lt]
@[simp] theorem fin_nx (keep : Bool) (S : Store) (env : Env) (T : Store) : Mir.finish keep S (.nx env (S ++ T)) = .ok .non (if keep then S ++ T else S) := by
  unfold Mir.finish
  cases keep with
  | true => rfl
  | false => simp [backOk_app]
@[simp] theorem fin_tup (S : Store) (xs : List D) (T : Store) (h : lts S.length xs = true) : Mir.finish false S (.rt (.tup xs) (S ++ T)) = .ok (.tup xs) S := by
  unfold Mir.finish
  simp [backOk_app, outD, D.lt, h]
@[simp] theorem fin_lst (S : Store) (xs : List D) (T : Store) (h : lts S.length xs = true) : Mir.finish false S (.rt (.lst xs) (S ++ T)) = .ok (.lst xs) S := by
  unfold Mir.finish
  simp [backOk_app, outD, D.lt, h]
theorem app0 (S : Store) : S = S ++ [] := (List.append_nil S).symm
@[simp] theorem fin_int0 (keep : Bool) (S : Store) (i : Int) : Mir.finish keep S (.rt (.int i) S) = .ok (.int i) S := by
  have := fin_int keep S i []
  simpa using this
@[simp] theorem fin_bl0 (keep : Bool) (S : Store) (i : Bool) : Mir.finish keep S (.rt (.bl i) S) = .ok (.bl i) S := by
  have := fin_bl keep S i []
  simpa using this
@[simp] theorem fin_non0 (keep : Bool) (S : Store) : Mir.finish keep S (.rt .non S) = .ok .non S := by
  have := fin_non keep S []
  simpa using this
@[simp] theorem fin_nx0 (keep : Bool) (S : Store) (env : Env) : Mir.finish keep S (.nx env S) = .ok .non S := by
  have := fin_nx keep S env []
  simpa using this
@[simp] theorem fin_tup0 (S : Store) (xs : List D) (h : lts S.length xs = true) : Mir.finish false S (.rt (.tup xs) S) = .ok (.tup xs) S := by
  have := fin_tup S xs [] h
  simpa using this
@[simp] theorem fin_lst0 (S : Store) (xs : List D) (h : lts S.length xs = true) : Mir.finish false S (.rt (.lst xs) S) = .ok (.lst xs) S := by
  have := fin_lst S xs [] h
  simpa using this
/-- a list made here, told as a value -/
@[simp] theorem fin_ref (S : Store) (xs : List D) (T : Store) (k : Nat) (hk : T[k]? = some (.lst xs)) (h : lts S.length xs = true) : Mir.finish false S (.rt (.ref (S.length + k)) (S ++ T)) = .ok (.lst xs) S := by
  unfold Mir.finish
  have hb : Nat.blt (S.length + k) S.length = false := by
    rw [Bool.eq_false_iff, Ne, Nat.blt_eq]
    omega
  have e : (S ++ T)[S.length + k]? = some (.lst xs) := by
    rw [List.getElem?_append_right (by omega)]
    simpa using hk
  simp [backOk_app, outD, hb, e, h]
@[simp] theorem fF_ap (np nN : Nat) (keep : Bool) (b : SS) (args : List D) (S : Store) (h : args.length = np) : fF np nN keep b args S = Mir.finish keep S (b (args.map some ++ List.replicate (nN - args.length) none) S) := if_pos h
/-! ### new objects -/
@[simp] theorem app_at (S T : Store) (k : Nat) : (S ++ T)[S.length + k]? = T[k]? := by
  rw [List.getElem?_append_right (by omega)]
  simp
@[simp] theorem app_set (S T : Store) (k : Nat) (o : Ob) : (S ++ T).set (S.length + k) o = S ++ T.set k o := by
  rw [List.set_append_right _ _ (by omega)]
  simp
end
end Mir
end

section
set_option Elab.async false
set_option linter.all false
set_option maxRecDepth 100000
set_option maxHeartbeats 4000000
/-! the text of the law, as functions -/
namespace K75
open PySem PySem.Spec L2 Mir

def top (i : Nat) : Stmt := PySem.Challenge.pw_allnights_k75_rows_of_nights_and_paths.main.body.getD i (.Pass ⟨0, 0, 0, 0⟩)
def inPs (l : List (Nat × Nat)) (p : Pos) : Bool := l.any fun q => (q.1 == p.line) && (q.2 == p.col)
def nms : Names where
  nums := [(("MOST_NIGHTS" : Str), (300 : Int)), (("MOST_ROWS" : Str), (8 : Int)), (("MOST_NUMBER" : Str), (1000 : Int))]
  excs := ["NightError", "BadLooks", "OutOfRange"]
  fns := [("is_integer" : Str), ("is_between" : Str), ("common_checks" : Str), ("fraction" : Str), ("all_numbers" : Str), ("row_number" : Str), ("winning" : Str), ("common_cycles" : Str), ("plus" : Str), ("less" : Str), ("minus" : Str), ("check_ratio" : Str), ("path" : Str), ("nearest_to" : Str), ("_law_cell" : Str), ("_law_stream" : Str), ("_law_draw" : Str), ("_law_read" : Str), ("_law_told" : Str), ("_law_common" : Str), ("_law_lowest" : Str), ("_law_plus" : Str), ("_law_power" : Str), ("_law_sets" : Str), ("_law_orders" : Str), ("_law_less" : Str), ("_law_times" : Str), ("_law_numbers" : Str), ("_law_told_row" : Str), ("_law_path" : Str), ("_law_apart" : Str), ("law" : Str)]
/-! is_integer -/
def t_is_integer : DefT := { name := "is_integer", ps := ["thing"], N := ["thing"], keep := false, scope := defScope (top 5), params := defArgs (top 5), body := defBody (top 5), fuel := 60 }
def g_is_integer : Gx := { fns := [], nums := pick nms.nums [], exc := pick nms.exl [], mt := inPs [], dt := inPs [], wf := 1000 }
def b_is_integer_1 : SS := sSeq (sRet (mAndV (mIs .int (mVar 0)) (mNotV (mIs .bl (mVar 0))))) sNil
def b_is_integer : SS := b_is_integer_1
def s_is_integer : FSem := fF 1 1 false b_is_integer
theorem e_is_integer : dB g_is_integer t_is_integer.N t_is_integer.scope 60 t_is_integer.body = b_is_integer := by kernel_rfl
/-! is_between -/
def t_is_between : DefT := { name := "is_between", ps := ["thing", "low", "high"], N := ["thing", "low", "high"], keep := false, scope := defScope (top 6), params := defArgs (top 6), body := defBody (top 6), fuel := 60 }
def g_is_between : Gx := { fns := [(("is_integer" : Str), s_is_integer)], nums := pick nms.nums [], exc := pick nms.exl [], mt := inPs [], dt := inPs [], wf := 1000 }
def b_is_between_1 : SS := sSeq (sRet (mAndV (mCall s_is_integer (mCons (mVar 0) mNil)) (mChain vLe vLe (mVar 1) (mVar 0) (mVar 2)))) sNil
def b_is_between : SS := b_is_between_1
def s_is_between : FSem := fF 3 3 false b_is_between
theorem e_is_between : dB g_is_between t_is_between.N t_is_between.scope 60 t_is_between.body = b_is_between := by kernel_rfl
/-! common_checks -/
def t_common_checks : DefT := { name := "common", ps := ["one", "other"], N := ["one", "other"], keep := false, scope := defScope (top 7), params := defArgs (top 7), body := defBody (top 7), fuel := 60 }
def g_common_checks : Gx := { fns := [], nums := pick nms.nums [], exc := pick nms.exl [], mt := inPs [], dt := inPs [], wf := 1000 }
def b_common_checks_1 : SS := sSeq (sPar [0, 1] (mCons (mVar 1) (mCons (m2 vMod (mVar 0) (mVar 1)) mNil))) sNil
def b_common_checks_2 : SS := sSeq (sRet (mVar 0)) sNil
def b_common_checks_3 : SS := sSeq (whileL (mTst (m2 vGt (mVar 1) (mC (.int 0)))) b_common_checks_1 1000) b_common_checks_2
def b_common_checks : SS := b_common_checks_3
def s_common_checks : FSem := fF 2 2 false b_common_checks
theorem e_common_checks : dB g_common_checks t_common_checks.N t_common_checks.scope 60 t_common_checks.body = b_common_checks := by kernel_rfl
/-! fraction -/
def t_fraction : DefT := { name := "fraction", ps := ["n", "d"], N := ["n", "d", "both"], keep := false, scope := defScope (top 9), params := defArgs (top 9), body := defBody (top 9), fuel := 60 }
def g_fraction : Gx := { fns := [(("common_checks" : Str), s_common_checks)], nums := pick nms.nums [], exc := pick nms.exl [], mt := inPs [], dt := inPs [], wf := 1000 }
def b_fraction_1 : SS := sSeq (sRet (mTup (mCons (m2 vDiv (mVar 0) (mVar 2)) (mCons (m2 vDiv (mVar 1) (mVar 2)) mNil)))) sNil
def b_fraction_2 : SS := sSeq (sAsg (mCall s_common_checks (mCons (mVar 0) (mCons (mVar 1) mNil))) (gSet 2)) b_fraction_1
def b_fraction : SS := b_fraction_2
def s_fraction : FSem := fF 2 3 false b_fraction
theorem e_fraction : dB g_fraction t_fraction.N t_fraction.scope 60 t_fraction.body = b_fraction := by kernel_rfl
/-! all_numbers -/
def t_all_numbers : DefT := { name := "all_numbers", ps := ["n"], N := ["n", "found", "size", "able", "many", "first", "number"], keep := false, scope := defScope (top 13), params := defArgs (top 13), body := defBody (top 13), fuel := 60 }
def g_all_numbers : Gx := { fns := [], nums := pick nms.nums [], exc := pick nms.exl [], mt := inPs [(25, 12)], dt := inPs [], wf := 1000 }
def b_all_numbers_1 : SS := sSeq (sAsg (mC (.bl true)) (gSubD (mVar 3) (m2 vXor (m2 vIx (mVar 1) (mVar 5)) (m2 vIx (mVar 1) (m2 vSub (m2 vSub (mVar 2) (mVar 4)) (mVar 5)))))) sNil
def b_all_numbers_2 : SS := sSeq (sFor (mRange1 (mCons (m2 (vAdd false) (m2 vSub (mVar 2) (mVar 4)) (mC (.int 1))) mNil)) (gSet 5) b_all_numbers_1) sNil
def b_all_numbers_3 : SS := sSeq (sAug 6 vIadd (mC (.int 1))) sNil
def b_all_numbers_4 : SS := sSeq (sExpr (mMtd vAppend (mVar 1) (mCons (mVar 6) mNil))) sNil
def b_all_numbers_5 : SS := sSeq (whileL (mTst (m2 vIn (mVar 6) (mVar 3))) b_all_numbers_3 1000) b_all_numbers_4
def b_all_numbers_6 : SS := sSeq (sAsg (mC (.int 0)) (gSet 6)) b_all_numbers_5
def b_all_numbers_7 : SS := sSeq (sFor (mSrc (mTup (mCons (mC (.int 1)) (mCons (mC (.int 2)) mNil)))) (gSet 4) b_all_numbers_2) b_all_numbers_6
def b_all_numbers_8 : SS := sSeq (sAsg (mDic false) (gSet 3)) b_all_numbers_7
def b_all_numbers_9 : SS := sSeq (sRet (mVar 1)) sNil
def b_all_numbers_10 : SS := sSeq (sFor (mRange2 (mCons (mC (.int 1)) (mCons (m2 (vAdd false) (mVar 0) (mC (.int 1))) mNil))) (gSet 2) b_all_numbers_8) b_all_numbers_9
def b_all_numbers_11 : SS := sSeq (sAsg (mLst true (mCons (mC (.int 0)) mNil)) (gSet 1)) b_all_numbers_10
def b_all_numbers : SS := b_all_numbers_11
def s_all_numbers : FSem := fF 1 7 false b_all_numbers
theorem e_all_numbers : dB g_all_numbers t_all_numbers.N t_all_numbers.scope 60 t_all_numbers.body = b_all_numbers := by kernel_rfl
/-! row_number -/
def t_row_number : DefT := { name := "row_number", ps := ["n"], N := ["n"], keep := false, scope := defScope (top 14), params := defArgs (top 14), body := defBody (top 14), fuel := 60 }
def g_row_number : Gx := { fns := [(("all_numbers" : Str), s_all_numbers), (("is_between" : Str), s_is_between)], nums := pick nms.nums [0], exc := pick nms.exl [2], mt := inPs [], dt := inPs [], wf := 1000 }
def b_row_number_1 : SS := sSeq (sRaise 2) sNil
def b_row_number_2 : SS := sSeq (sRet (m2 vIx (mCall s_all_numbers (mCons (mVar 0) mNil)) (mVar 0))) sNil
def b_row_number_3 : SS := sSeq (sIf (mNotT (mTru (mCall s_is_between (mCons (mVar 0) (mCons (mC (.int 0)) (mCons (mC (.int (300))) mNil)))))) b_row_number_1 sNil) b_row_number_2
def b_row_number : SS := b_row_number_3
def s_row_number : FSem := fF 1 1 false b_row_number
theorem e_row_number : dB g_row_number t_row_number.N t_row_number.scope 60 t_row_number.body = b_row_number := by kernel_rfl
/-! winning -/
def t_winning : DefT := { name := "winning", ps := ["rows"], N := ["rows", "n", "numbers", "total", "row", "first", "many", "left"], keep := false, scope := defScope (top 15), params := defArgs (top 15), body := defBody (top 15), fuel := 60 }
def g_winning : Gx := { fns := [(("all_numbers" : Str), s_all_numbers), (("is_between" : Str), s_is_between)], nums := pick nms.nums [0, 1], exc := pick nms.exl [1], mt := inPs [], dt := inPs [], wf := 1000 }
def b_winning_1 : SS := sSeq (sRaise 1) sNil
def b_winning_2 : SS := sSeq (sRaise 1) sNil
def b_winning_3 : SS := sSeq (sAug 3 vXor (m2 vIx (mVar 2) (mVar 1))) sNil
def b_winning_4 : SS := sSeq (sRet (mTup (mCons (mVar 4) (mCons (mVar 5) (mCons (mVar 6) mNil))))) sNil
def b_winning_5 : SS := sSeq (sIf (mTst (m2 vEqS (m2 vXor (m2 vXor (mVar 3) (m2 vIx (mVar 2) (mVar 1))) (mVar 7)) (mC (.int 0)))) b_winning_4 sNil) sNil
def b_winning_6 : SS := sSeq (sAsg (m2 vXor (m2 vIx (mVar 2) (mVar 5)) (m2 vIx (mVar 2) (m2 vSub (m2 vSub (mVar 1) (mVar 5)) (mVar 6)))) (gSet 7)) b_winning_5
def b_winning_7 : SS := sSeq (sIf (mTst (m2 vLe (m2 (vAdd false) (mVar 5) (mVar 6)) (mVar 1))) b_winning_6 sNil) sNil
def b_winning_8 : SS := sSeq (sFor (mSrc (mTup (mCons (mC (.int 1)) (mCons (mC (.int 2)) mNil)))) (gSet 6) b_winning_7) sNil
def b_winning_9 : SS := sSeq (sFor (mRange1 (mCons (mVar 1) mNil)) (gSet 5) b_winning_8) sNil
def b_winning_10 : SS := sSeq (sRet (mC .non)) sNil
def b_winning_11 : SS := sSeq (sFor (mEnumA (mCons (mVar 0) mNil)) (gTupD 2 (gMore (gSet 4) (gMore (gSet 1) gNone))) b_winning_9) b_winning_10
def b_winning_12 : SS := sSeq (sFor (mSrc (mVar 0)) (gSet 1) b_winning_3) b_winning_11
def b_winning_13 : SS := sSeq (sPar [2, 3] (mCons (mCall s_all_numbers (mCons (mCall vMax2 (mCons (m2 (vAdd false) (mVar 0) (mTup (mCons (mC (.int 0)) mNil))) mNil)) mNil)) (mCons (mC (.int 0)) mNil))) b_winning_12
def b_winning_14 : SS := sSeq (sIf (mNotT (mTru (mCall (vAnyAll true) (mCons (mLC [1] false (mSrc (mVar 0)) (gSet 1) (fun _ S => .ok true S) (mCall s_is_between (mCons (mVar 1) (mCons (mC (.int 0)) (mCons (mC (.int (300))) mNil))))) mNil)))) b_winning_2 sNil) b_winning_13
def b_winning_15 : SS := sSeq (sIf (mOrT (mNotT (mTru (mIs .tup (mVar 0)))) (mTst (m2 vGt (mCall vLen (mCons (mVar 0) mNil)) (mC (.int (8)))))) b_winning_1 sNil) b_winning_14
def b_winning : SS := b_winning_15
def s_winning : FSem := fF 1 8 false b_winning
theorem e_winning : dB g_winning t_winning.N t_winning.scope 60 t_winning.body = b_winning := by kernel_rfl
/-! common_cycles -/
def t_common_cycles : DefT := { name := "common", ps := ["one", "other"], N := ["one", "other"], keep := false, scope := defScope (top 17), params := defArgs (top 17), body := defBody (top 17), fuel := 60 }
def g_common_cycles : Gx := { fns := [], nums := pick nms.nums [], exc := pick nms.exl [], mt := inPs [], dt := inPs [], wf := 1000 }
def b_common_cycles_1 : SS := sSeq (sPar [0, 1] (mCons (mVar 1) (mCons (m2 vMod (mVar 0) (mVar 1)) mNil))) sNil
def b_common_cycles_2 : SS := sSeq (sRet (mVar 0)) sNil
def b_common_cycles_3 : SS := sSeq (whileL (mTst (m2 vGt (mVar 1) (mC (.int 0)))) b_common_cycles_1 1000) b_common_cycles_2
def b_common_cycles : SS := b_common_cycles_3
def s_common_cycles : FSem := fF 2 2 false b_common_cycles
theorem e_common_cycles : dB g_common_cycles t_common_cycles.N t_common_cycles.scope 60 t_common_cycles.body = b_common_cycles := by kernel_rfl
/-! plus -/
def t_plus : DefT := { name := "plus", ps := ["one", "other"], N := ["one", "other"], keep := false, scope := defScope (top 20), params := defArgs (top 20), body := defBody (top 20), fuel := 60 }
def g_plus : Gx := { fns := [(("fraction" : Str), s_fraction)], nums := pick nms.nums [], exc := pick nms.exl [], mt := inPs [], dt := inPs [], wf := 1000 }
def b_plus_1 : SS := sSeq (sRet (mCall s_fraction (mCons (m2 (vAdd false) (m2 (vMul false) (m2 vIx (mVar 0) (mC (.int 0))) (m2 vIx (mVar 1) (mC (.int 1)))) (m2 (vMul false) (m2 vIx (mVar 1) (mC (.int 0))) (m2 vIx (mVar 0) (mC (.int 1))))) (mCons (m2 (vMul false) (m2 vIx (mVar 0) (mC (.int 1))) (m2 vIx (mVar 1) (mC (.int 1)))) mNil)))) sNil
def b_plus : SS := b_plus_1
def s_plus : FSem := fF 2 2 false b_plus
theorem e_plus : dB g_plus t_plus.N t_plus.scope 60 t_plus.body = b_plus := by kernel_rfl
/-! less -/
def t_less : DefT := { name := "less", ps := ["one", "other"], N := ["one", "other"], keep := false, scope := defScope (top 21), params := defArgs (top 21), body := defBody (top 21), fuel := 60 }
def g_less : Gx := { fns := [], nums := pick nms.nums [], exc := pick nms.exl [], mt := inPs [], dt := inPs [], wf := 1000 }
def b_less_1 : SS := sSeq (sRet (m2 vLt (m2 (vMul false) (m2 vIx (mVar 0) (mC (.int 0))) (m2 vIx (mVar 1) (mC (.int 1)))) (m2 (vMul false) (m2 vIx (mVar 1) (mC (.int 0))) (m2 vIx (mVar 0) (mC (.int 1)))))) sNil
def b_less : SS := b_less_1
def s_less : FSem := fF 2 2 false b_less
theorem e_less : dB g_less t_less.N t_less.scope 60 t_less.body = b_less := by kernel_rfl
/-! minus -/
def t_minus : DefT := { name := "minus", ps := ["one", "other"], N := ["one", "other"], keep := false, scope := defScope (top 23), params := defArgs (top 23), body := defBody (top 23), fuel := 60 }
def g_minus : Gx := { fns := [(("plus" : Str), s_plus)], nums := pick nms.nums [], exc := pick nms.exl [], mt := inPs [], dt := inPs [], wf := 1000 }
def b_minus_1 : SS := sSeq (sRet (mCall s_plus (mCons (mVar 0) (mCons (mTup (mCons (m1 vNeg (m2 vIx (mVar 1) (mC (.int 0)))) (mCons (m2 vIx (mVar 1) (mC (.int 1))) mNil))) mNil)))) sNil
def b_minus : SS := b_minus_1
def s_minus : FSem := fF 2 2 false b_minus
theorem e_minus : dB g_minus t_minus.N t_minus.scope 60 t_minus.body = b_minus := by kernel_rfl
/-! check_ratio -/
def t_check_ratio : DefT := { name := "check_ratio", ps := ["n", "d"], N := ["n", "d"], keep := false, scope := defScope (top 26), params := defArgs (top 26), body := defBody (top 26), fuel := 60 }
def g_check_ratio : Gx := { fns := [(("is_between" : Str), s_is_between)], nums := pick nms.nums [2], exc := pick nms.exl [2], mt := inPs [], dt := inPs [], wf := 1000 }
def b_check_ratio_1 : SS := sSeq (sRaise 2) sNil
def b_check_ratio_2 : SS := sSeq (sIf (mOrT (mNotT (mTru (mCall s_is_between (mCons (mVar 0) (mCons (mC (.int 1)) (mCons (mC (.int (1000))) mNil)))))) (mNotT (mTru (mCall s_is_between (mCons (mVar 1) (mCons (mC (.int 1)) (mCons (mC (.int (1000))) mNil))))))) b_check_ratio_1 sNil) sNil
def b_check_ratio : SS := b_check_ratio_2
def s_check_ratio : FSem := fF 2 2 false b_check_ratio
theorem e_check_ratio : dB g_check_ratio t_check_ratio.N t_check_ratio.scope 60 t_check_ratio.body = b_check_ratio := by kernel_rfl
/-! path -/
def t_path : DefT := { name := "path", ps := ["n", "d"], N := ["n", "d", "both", "found"], keep := false, scope := defScope (top 27), params := defArgs (top 27), body := defBody (top 27), fuel := 60 }
def g_path : Gx := { fns := [(("check_ratio" : Str), s_check_ratio), (("common_cycles" : Str), s_common_cycles)], nums := pick nms.nums [], exc := pick nms.exl [], mt := inPs [], dt := inPs [], wf := 1000 }
def b_path_1 : SS := sSeq (sPar [3, 1] (mCons (m2 (vAdd false) (mVar 3) (mC (.str "L"))) (mCons (m2 vSub (mVar 1) (mVar 0)) mNil))) sNil
def b_path_2 : SS := sSeq (sPar [3, 0] (mCons (m2 (vAdd false) (mVar 3) (mC (.str "R"))) (mCons (m2 vSub (mVar 0) (mVar 1)) mNil))) sNil
def b_path_3 : SS := sSeq (sIf (mTst (m2 vLt (mVar 0) (mVar 1))) b_path_1 b_path_2) sNil
def b_path_4 : SS := sSeq (sRet (mVar 3)) sNil
def b_path_5 : SS := sSeq (whileL (mTst (m2 vNeS (mVar 0) (mVar 1))) b_path_3 1000) b_path_4
def b_path_6 : SS := sSeq (sAsg (mC (.str "")) (gSet 3)) b_path_5
def b_path_7 : SS := sSeq (sPar [0, 1] (mCons (m2 vDiv (mVar 0) (mVar 2)) (mCons (m2 vDiv (mVar 1) (mVar 2)) mNil))) b_path_6
def b_path_8 : SS := sSeq (sAsg (mCall s_common_cycles (mCons (mVar 0) (mCons (mVar 1) mNil))) (gSet 2)) b_path_7
def b_path_9 : SS := sSeq (sExpr (mCall s_check_ratio (mCons (mVar 0) (mCons (mVar 1) mNil)))) b_path_8
def b_path : SS := b_path_9
def s_path : FSem := fF 2 4 false b_path
theorem e_path : dB g_path t_path.N t_path.scope 60 t_path.body = b_path := by kernel_rfl
/-! nearest_to -/
def t_nearest_to : DefT := { name := "nearest_to", ps := ["n", "d", "N"], N := ["n", "d", "N", "best", "found", "below", "low", "above", "gap"], keep := false, scope := defScope (top 28), params := defArgs (top 28), body := defBody (top 28), fuel := 60 }
def g_nearest_to : Gx := { fns := [(("check_ratio" : Str), s_check_ratio), (("common_cycles" : Str), s_common_cycles), (("is_between" : Str), s_is_between), (("less" : Str), s_less), (("minus" : Str), s_minus)], nums := pick nms.nums [2], exc := pick nms.exl [2], mt := inPs [(90, 25), (98, 40)], dt := inPs [], wf := 1000, key := true }
def b_nearest_to_1 : SS := sSeq (sRaise 2) sNil
def b_nearest_to_2 : SS := sSeq (sPar [3, 4] (mCons (mVar 8) (mCons (mLst true mNil) mNil))) sNil
def b_nearest_to_3 : SS := sSeq (sExpr (mMtd vAppend (mVar 4) (mCons (mTup (mCons (mVar 7) (mCons (mVar 5) mNil))) mNil))) sNil
def b_nearest_to_4 : SS := sSeq (sIf (mTst (m2 vEqS (mVar 8) (mVar 3))) b_nearest_to_3 sNil) sNil
def b_nearest_to_5 : SS := sSeq (sIf (mOrT (mTst (m2 vIs (mVar 3) (mC .non))) (mTru (mCall s_less (mCons (mVar 8) (mCons (mVar 3) mNil))))) b_nearest_to_2 sNil) b_nearest_to_4
def b_nearest_to_6 : SS := sSeq (sAsg (mTup (mCons (mCall vAbs (mCons (m2 vIx (mVar 8) (mC (.int 0))) mNil)) (mCons (m2 vIx (mVar 8) (mC (.int 1))) mNil))) (gSet 8)) b_nearest_to_5
def b_nearest_to_7 : SS := sSeq (sAsg (mCall s_minus (mCons (mTup (mCons (mVar 7) (mCons (mVar 5) mNil))) (mCons (mTup (mCons (mVar 0) (mCons (mVar 1) mNil))) mNil))) (gSet 8)) b_nearest_to_6
def b_nearest_to_8 : SS := sSeq (sIf (mTst (m2 vEqS (mCall s_common_cycles (mCons (mVar 7) (mCons (mVar 5) mNil))) (mC (.int 1)))) b_nearest_to_7 sNil) sNil
def b_nearest_to_9 : SS := sSeq (sFor (mSrc (mTup (mCons (mVar 6) (mCons (m2 (vAdd false) (mVar 6) (mC (.int 1))) mNil)))) (gSet 7) b_nearest_to_8) sNil
def b_nearest_to_10 : SS := sSeq (sAsg (m2 vDiv (m2 (vMul false) (mVar 0) (mVar 5)) (mVar 1)) (gSet 6)) b_nearest_to_9
def b_nearest_to_11 : SS := sSeq (sRet (mCall vTuple (mCons (mSortKey false (k2K oSub (k2K oMul (kIxK 0) (kVr 1)) (k2K oMul (kVr 0) (kIxK 1))) (mVar 4)) mNil))) sNil
def b_nearest_to_12 : SS := sSeq (sFor (mRange2 (mCons (mC (.int 1)) (mCons (m2 (vAdd false) (mVar 2) (mC (.int 1))) mNil))) (gSet 5) b_nearest_to_10) b_nearest_to_11
def b_nearest_to_13 : SS := sSeq (sPar [3, 4] (mCons (mC .non) (mCons (mLst true mNil) mNil))) b_nearest_to_12
def b_nearest_to_14 : SS := sSeq (sIf (mNotT (mTru (mCall s_is_between (mCons (mVar 2) (mCons (mC (.int 1)) (mCons (mC (.int (1000))) mNil)))))) b_nearest_to_1 sNil) b_nearest_to_13
def b_nearest_to_15 : SS := sSeq (sExpr (mCall s_check_ratio (mCons (mVar 0) (mCons (mVar 1) mNil)))) b_nearest_to_14
def b_nearest_to : SS := b_nearest_to_15
def s_nearest_to : FSem := fF 3 9 false b_nearest_to
theorem e_nearest_to : dB g_nearest_to t_nearest_to.N t_nearest_to.scope 60 t_nearest_to.body = b_nearest_to := by kernel_rfl
/-! _law_cell -/
def t__law_cell : DefT := { name := "_law_cell", ps := ["script", "k"], N := ["script", "k"], keep := false, scope := defScope (top 30), params := defArgs (top 30), body := defBody (top 30), fuel := 60 }
def g__law_cell : Gx := { fns := [], nums := pick nms.nums [], exc := pick nms.exl [], mt := inPs [], dt := inPs [], wf := 1000 }
def b__law_cell_1 : SS := sSeq (sRet (mIf (mTst (m2 vLt (mVar 1) (mCall vLen (mCons (mVar 0) mNil)))) (mCall vAbs (mCons (mCall vIntC (mCons (m2 vIx (mVar 0) (mVar 1)) mNil)) mNil)) (mC (.int 0)))) sNil
def b__law_cell : SS := b__law_cell_1
def s__law_cell : FSem := fF 2 2 false b__law_cell
theorem e__law_cell : dB g__law_cell t__law_cell.N t__law_cell.scope 60 t__law_cell.body = b__law_cell := by kernel_rfl
/-! _law_stream -/
def t__law_stream : DefT := { name := "_law_stream", ps := ["script", "k"], N := ["script", "k"], keep := true, scope := defScope (top 31), params := defArgs (top 31), body := defBody (top 31), fuel := 60 }
def g__law_stream : Gx := { fns := [(("_law_cell" : Str), s__law_cell)], nums := pick nms.nums [], exc := pick nms.exl [], mt := inPs [(106, 11)], dt := inPs [], wf := 1000 }
def b__law_stream_1 : SS := sSeq (sRet (mLst true (mCons (mCall s__law_cell (mCons (mVar 0) (mCons (mVar 1) mNil))) (mCons (m2 (vAdd false) (mC (.int 1)) (m2 vMod (m2 (vMul false) (mC (.int 48271)) (mCall s__law_cell (mCons (mVar 0) (mCons (mVar 1) mNil)))) (mC (.int 2147483647)))) mNil)))) sNil
def b__law_stream : SS := b__law_stream_1
def s__law_stream : FSem := fF 2 2 true b__law_stream
theorem e__law_stream : dB g__law_stream t__law_stream.N t__law_stream.scope 60 t__law_stream.body = b__law_stream := by kernel_rfl
/-! _law_draw -/
def t__law_draw : DefT := { name := "_law_draw", ps := ["box", "high"], N := ["box", "high", "cell"], keep := false, scope := defScope (top 32), params := defArgs (top 32), body := defBody (top 32), fuel := 60 }
def g__law_draw : Gx := { fns := [], nums := pick nms.nums [], exc := pick nms.exl [], mt := inPs [], dt := inPs [], wf := 1000 }
def b__law_draw_1 : SS := sSeq (sRet (mCall vIntC (mCons (m2 vMod (mVar 2) (mVar 1)) mNil))) sNil
def b__law_draw_2 : SS := sSeq (sAsg (mCall vIntC (mCons (m2 vDiv (mVar 2) (mVar 1)) mNil)) (gSubD (mVar 0) (mC (.int 0)))) b__law_draw_1
def b__law_draw_3 : SS := sSeq (sAsg (m2 vIx (mVar 0) (mC (.int 0))) (gSet 2)) b__law_draw_2
def b__law_draw_4 : SS := sSeq (sRet (mCall vIntC (mCons (m2 vMod (m2 vDiv (m2 vIx (mVar 0) (mC (.int 1))) (mC (.int 7))) (mVar 1)) mNil))) sNil
def b__law_draw_5 : SS := sSeq (sAsg (m2 vMod (m2 (vMul false) (mC (.int 69621)) (m2 vIx (mVar 0) (mC (.int 1)))) (mC (.int 2147483647))) (gSubD (mVar 0) (mC (.int 1)))) b__law_draw_4
def b__law_draw_6 : SS := sSeq (sIf (mTst (m2 vGt (m2 vIx (mVar 0) (mC (.int 0))) (mC (.int 0)))) b__law_draw_3 sNil) b__law_draw_5
def b__law_draw : SS := b__law_draw_6
def s__law_draw : FSem := fF 2 3 false b__law_draw
theorem e__law_draw : dB g__law_draw t__law_draw.N t__law_draw.scope 60 t__law_draw.body = b__law_draw := by kernel_rfl
/-! _law_read -/
def t__law_read : DefT := { name := "_law_read", ps := ["told"], N := ["told", "part"], keep := false, scope := defScope (top 33), params := defArgs (top 33), body := defBody (top 33), fuel := 60 }
def g__law_read (self : FSem) : Gx := { fns := [(("_law_read" : Str), self)], nums := pick nms.nums [], exc := pick nms.exl [], mt := inPs [], dt := inPs [], wf := 1000 }
def b__law_read_1 (self : FSem) : SS := sSeq (sRet (mVar 0)) sNil
def b__law_read_2 (self : FSem) : SS := sSeq (sRet (mCall vIntC (mCons (mVar 0) mNil))) sNil
def b__law_read_3 (self : FSem) : SS := sSeq (sRet (m2 (vAdd false) (mC (.str "")) (mVar 0))) sNil
def b__law_read_4 (self : FSem) : SS := sSeq (sRet (mCall vTuple (mCons (mLC [1] false (mSrc (mVar 0)) (gSet 1) (fun _ S => .ok true S) (mCall self (mCons (mVar 1) mNil))) mNil))) sNil
def b__law_read_5 (self : FSem) : SS := sSeq (sRet (mIf (mTru (mIs .lst (mVar 0))) (mLC [1] false (mSrc (mVar 0)) (gSet 1) (fun _ S => .ok true S) (mCall self (mCons (mVar 1) mNil))) (mC (.str "something else")))) sNil
def b__law_read_6 (self : FSem) : SS := sSeq (sIf (mTru (mIs .tup (mVar 0))) (b__law_read_4 self) sNil) (b__law_read_5 self)
def b__law_read_7 (self : FSem) : SS := sSeq (sIf (mTru (mIs .str (mVar 0))) (b__law_read_3 self) sNil) (b__law_read_6 self)
def b__law_read_8 (self : FSem) : SS := sSeq (sIf (mTru (mIs .int (mVar 0))) (b__law_read_2 self) sNil) (b__law_read_7 self)
def b__law_read_9 (self : FSem) : SS := sSeq (sIf (mOrT (mTst (m2 vIs (mVar 0) (mC .non))) (mOrT (mTst (m2 vIs (mVar 0) (mC (.bl true)))) (mTst (m2 vIs (mVar 0) (mC (.bl false)))))) (b__law_read_1 self) sNil) (b__law_read_8 self)
def b__law_read (self : FSem) : SS := (b__law_read_9 self)
def s__law_read : Nat → FSem
  | 0 => fun _ _ => .bad
  | n + 1 => fF 1 2 false (b__law_read (s__law_read n))
theorem e__law_read (self : FSem) : dB (g__law_read self) t__law_read.N t__law_read.scope 60 t__law_read.body = b__law_read self := by kernel_rfl
/-! _law_told -/
def t__law_told : DefT := { name := "_law_told", ps := ["call"], N := ["call", "e"], keep := false, scope := defScope (top 34), params := defArgs (top 34), body := defBody (top 34), fuel := 60 }
def k__law_told : ToldT := ⟨"_law_read", "call", "NightError", "e", "OutOfRange", "range", "other"⟩
def w__law_told := ([("other" : Str), ("other" : Str), ("range" : Str)] : List Str)
def lk__law_told : LK := .told (s__law_read 4) (fun c => w__law_told[c]?)
/-! _law_common -/
def t__law_common : DefT := { name := "_law_common", ps := ["n", "d"], N := ["n", "d"], keep := false, scope := defScope (top 35), params := defArgs (top 35), body := defBody (top 35), fuel := 60 }
def g__law_common : Gx := { fns := [], nums := pick nms.nums [], exc := pick nms.exl [], mt := inPs [], dt := inPs [], wf := 1000 }
def b__law_common_1 : SS := sSeq (sPar [0, 1] (mCons (mVar 1) (mCons (m2 vMod (mVar 0) (mVar 1)) mNil))) sNil
def b__law_common_2 : SS := sSeq (sRet (mVar 0)) sNil
def b__law_common_3 : SS := sSeq (whileL (mTst (m2 vGt (mVar 1) (mC (.int 0)))) b__law_common_1 1000) b__law_common_2
def b__law_common : SS := b__law_common_3
def s__law_common : FSem := fF 2 2 false b__law_common
theorem e__law_common : dB g__law_common t__law_common.N t__law_common.scope 60 t__law_common.body = b__law_common := by kernel_rfl
/-! _law_lowest -/
def t__law_lowest : DefT := { name := "_law_lowest", ps := ["n", "d"], N := ["n", "d", "both"], keep := false, scope := defScope (top 36), params := defArgs (top 36), body := defBody (top 36), fuel := 60 }
def g__law_lowest : Gx := { fns := [(("_law_common" : Str), s__law_common)], nums := pick nms.nums [], exc := pick nms.exl [], mt := inPs [], dt := inPs [], wf := 1000 }
def b__law_lowest_1 : SS := sSeq (sRet (mTup (mCons (m2 vDiv (mVar 0) (mVar 2)) (mCons (m2 vDiv (mVar 1) (mVar 2)) mNil)))) sNil
def b__law_lowest_2 : SS := sSeq (sAsg (mCall s__law_common (mCons (mCall vAbs (mCons (mVar 0) mNil)) (mCons (mVar 1) mNil))) (gSet 2)) b__law_lowest_1
def b__law_lowest : SS := b__law_lowest_2
def s__law_lowest : FSem := fF 2 3 false b__law_lowest
theorem e__law_lowest : dB g__law_lowest t__law_lowest.N t__law_lowest.scope 60 t__law_lowest.body = b__law_lowest := by kernel_rfl
/-! _law_plus -/
def t__law_plus : DefT := { name := "_law_plus", ps := ["one", "two"], N := ["one", "two"], keep := false, scope := defScope (top 37), params := defArgs (top 37), body := defBody (top 37), fuel := 60 }
def g__law_plus : Gx := { fns := [(("_law_lowest" : Str), s__law_lowest)], nums := pick nms.nums [], exc := pick nms.exl [], mt := inPs [], dt := inPs [], wf := 1000 }
def b__law_plus_1 : SS := sSeq (sRet (mCall s__law_lowest (mCons (m2 (vAdd false) (m2 (vMul false) (m2 vIx (mVar 0) (mC (.int 0))) (m2 vIx (mVar 1) (mC (.int 1)))) (m2 (vMul false) (m2 vIx (mVar 1) (mC (.int 0))) (m2 vIx (mVar 0) (mC (.int 1))))) (mCons (m2 (vMul false) (m2 vIx (mVar 0) (mC (.int 1))) (m2 vIx (mVar 1) (mC (.int 1)))) mNil)))) sNil
def b__law_plus : SS := b__law_plus_1
def s__law_plus : FSem := fF 2 2 false b__law_plus
theorem e__law_plus : dB g__law_plus t__law_plus.N t__law_plus.scope 60 t__law_plus.body = b__law_plus := by kernel_rfl
/-! _law_power -/
def t__law_power : DefT := { name := "_law_power", ps := ["n", "many"], N := ["n", "many", "total", "turn"], keep := false, scope := defScope (top 38), params := defArgs (top 38), body := defBody (top 38), fuel := 60 }
def g__law_power : Gx := { fns := [], nums := pick nms.nums [], exc := pick nms.exl [], mt := inPs [], dt := inPs [], wf := 1000 }
def b__law_power_1 : SS := sSeq (sAsg (m2 (vMul false) (mVar 2) (mVar 0)) (gSet 2)) sNil
def b__law_power_2 : SS := sSeq (sRet (mVar 2)) sNil
def b__law_power_3 : SS := sSeq (sFor (mRange1 (mCons (mVar 1) mNil)) (gSet 3) b__law_power_1) b__law_power_2
def b__law_power_4 : SS := sSeq (sAsg (mC (.int 1)) (gSet 2)) b__law_power_3
def b__law_power : SS := b__law_power_4
def s__law_power : FSem := fF 2 4 false b__law_power
theorem e__law_power : dB g__law_power t__law_power.N t__law_power.scope 60 t__law_power.body = b__law_power := by kernel_rfl
/-! _law_sets -/
def t__law_sets : DefT := { name := "_law_sets", ps := ["n"], N := ["n", "i", "mask"], keep := false, scope := defScope (top 39), params := defArgs (top 39), body := defBody (top 39), fuel := 60 }
def g__law_sets : Gx := { fns := [], nums := pick nms.nums [], exc := pick nms.exl [], mt := inPs [], dt := inPs [], wf := 1000 }
def b__law_sets_1 : SS := sSeq (sRet (mLC [2] false (mRange1 (mCons (m2 vShl (mC (.int 1)) (mVar 0)) mNil)) (gSet 2) (fun _ S => .ok true S) (mCall vTuple (mCons (mLC [1] false (mRange1 (mCons (mVar 0) mNil)) (gSet 1) (mTst (m2 vEqS (m2 vAnd (m2 vShr (mVar 2) (mVar 1)) (mC (.int 1))) (mC (.int 1)))) (mVar 1)) mNil)))) sNil
def b__law_sets : SS := b__law_sets_1
def s__law_sets : FSem := fF 1 3 false b__law_sets
theorem e__law_sets : dB g__law_sets t__law_sets.N t__law_sets.scope 60 t__law_sets.body = b__law_sets := by kernel_rfl
/-! _law_orders -/
def t__law_orders : DefT := { name := "_law_orders", ps := ["many"], N := ["many", "rows", "turn", "longer", "row", "x"], keep := false, scope := defScope (top 40), params := defArgs (top 40), body := defBody (top 40), fuel := 60 }
def g__law_orders : Gx := { fns := [], nums := pick nms.nums [], exc := pick nms.exl [], mt := inPs [], dt := inPs [], wf := 1000 }
def b__law_orders_1 : SS := sSeq (sAsg (m2 (vAdd false) (mVar 3) (mLC [5] false (mRange1 (mCons (mVar 0) mNil)) (gSet 5) (mTst (m2 vNotIn (mVar 5) (mVar 4))) (m2 (vAdd false) (mVar 4) (mTup (mCons (mVar 5) mNil))))) (gSet 3)) sNil
def b__law_orders_2 : SS := sSeq (sAsg (mVar 3) (gSet 1)) sNil
def b__law_orders_3 : SS := sSeq (sFor (mSrc (mVar 1)) (gSet 4) b__law_orders_1) b__law_orders_2
def b__law_orders_4 : SS := sSeq (sAsg (mLst false mNil) (gSet 3)) b__law_orders_3
def b__law_orders_5 : SS := sSeq (sRet (mVar 1)) sNil
def b__law_orders_6 : SS := sSeq (sFor (mRange1 (mCons (mVar 0) mNil)) (gSet 2) b__law_orders_4) b__law_orders_5
def b__law_orders_7 : SS := sSeq (sAsg (mLst false (mCons (mTup mNil) mNil)) (gSet 1)) b__law_orders_6
def b__law_orders : SS := b__law_orders_7
def s__law_orders : FSem := fF 1 6 false b__law_orders
theorem e__law_orders : dB g__law_orders t__law_orders.N t__law_orders.scope 60 t__law_orders.body = b__law_orders := by kernel_rfl
/-! _law_less -/
def t__law_less : DefT := { name := "_law_less", ps := ["one", "two"], N := ["one", "two"], keep := false, scope := defScope (top 41), params := defArgs (top 41), body := defBody (top 41), fuel := 60 }
def g__law_less : Gx := { fns := [], nums := pick nms.nums [], exc := pick nms.exl [], mt := inPs [], dt := inPs [], wf := 1000 }
def b__law_less_1 : SS := sSeq (sRet (m2 vLt (m2 (vMul false) (m2 vIx (mVar 0) (mC (.int 0))) (m2 vIx (mVar 1) (mC (.int 1)))) (m2 (vMul false) (m2 vIx (mVar 1) (mC (.int 0))) (m2 vIx (mVar 0) (mC (.int 1)))))) sNil
def b__law_less : SS := b__law_less_1
def s__law_less : FSem := fF 2 2 false b__law_less
theorem e__law_less : dB g__law_less t__law_less.N t__law_less.scope 60 t__law_less.body = b__law_less := by kernel_rfl
/-! _law_times -/
def t__law_times : DefT := { name := "_law_times", ps := ["one", "two"], N := ["one", "two"], keep := false, scope := defScope (top 42), params := defArgs (top 42), body := defBody (top 42), fuel := 60 }
def g__law_times : Gx := { fns := [(("_law_lowest" : Str), s__law_lowest)], nums := pick nms.nums [], exc := pick nms.exl [], mt := inPs [], dt := inPs [], wf := 1000 }
def b__law_times_1 : SS := sSeq (sRet (mCall s__law_lowest (mCons (m2 (vMul false) (m2 vIx (mVar 0) (mC (.int 0))) (m2 vIx (mVar 1) (mC (.int 0)))) (mCons (m2 (vMul false) (m2 vIx (mVar 0) (mC (.int 1))) (m2 vIx (mVar 1) (mC (.int 1)))) mNil)))) sNil
def b__law_times : SS := b__law_times_1
def s__law_times : FSem := fF 2 2 false b__law_times
theorem e__law_times : dB g__law_times t__law_times.N t__law_times.scope 60 t__law_times.body = b__law_times := by kernel_rfl
/-! _law_numbers -/
def t__law_numbers : DefT := { name := "_law_numbers", ps := ["n"], N := ["n", "found", "size", "able", "first", "many", "x"], keep := false, scope := defScope (top 43), params := defArgs (top 43), body := defBody (top 43), fuel := 60 }
def g__law_numbers : Gx := { fns := [], nums := pick nms.nums [], exc := pick nms.exl [], mt := inPs [(158, 12)], dt := inPs [], wf := 1000 }
def b__law_numbers_1 : SS := sSeq (sAsg (m2 (vAdd false) (mVar 3) (mLC [5] false (mSrc (mTup (mCons (mC (.int 1)) (mCons (mC (.int 2)) mNil)))) (gSet 5) (mTst (m2 vLe (m2 (vAdd false) (mVar 4) (mVar 5)) (mVar 2))) (m2 vXor (m2 vIx (mVar 1) (mVar 4)) (m2 vIx (mVar 1) (m2 vSub (m2 vSub (mVar 2) (mVar 4)) (mVar 5)))))) (gSet 3)) sNil
def b__law_numbers_2 : SS := sSeq (sExpr (mMtd vAppend (mVar 1) (mCons (mCall vMin3 (mCons (mLC [6] false (mRange1 (mCons (m2 (vAdd false) (mCall vLen (mCons (mVar 3) mNil)) (mC (.int 1))) mNil)) (gSet 6) (mTst (m2 vNotIn (mVar 6) (mVar 3))) (mVar 6)) mNil)) mNil))) sNil
def b__law_numbers_3 : SS := sSeq (sFor (mRange1 (mCons (mVar 2) mNil)) (gSet 4) b__law_numbers_1) b__law_numbers_2
def b__law_numbers_4 : SS := sSeq (sAsg (mLst false mNil) (gSet 3)) b__law_numbers_3
def b__law_numbers_5 : SS := sSeq (sRet (mVar 1)) sNil
def b__law_numbers_6 : SS := sSeq (sFor (mRange2 (mCons (mC (.int 1)) (mCons (m2 (vAdd false) (mVar 0) (mC (.int 1))) mNil))) (gSet 2) b__law_numbers_4) b__law_numbers_5
def b__law_numbers_7 : SS := sSeq (sAsg (mLst true (mCons (mC (.int 0)) mNil)) (gSet 1)) b__law_numbers_6
def b__law_numbers : SS := b__law_numbers_7
def s__law_numbers : FSem := fF 1 7 false b__law_numbers
theorem e__law_numbers : dB g__law_numbers t__law_numbers.N t__law_numbers.scope 60 t__law_numbers.body = b__law_numbers := by kernel_rfl
/-! _law_told_row -/
def t__law_told_row : DefT := { name := "_law_told_row", ps := ["n"], N := ["n"], keep := false, scope := defScope (top 44), params := defArgs (top 44), body := defBody (top 44), fuel := 60 }
def g0__law_told_row : Gx := { fns := [(("row_number" : Str), s_row_number)], nums := pick nms.nums [], exc := pick nms.exl [], mt := inPs [], dt := inPs [], wf := 1000 }
def g__law_told_row : Gx := g0__law_told_row.with t__law_told_row.N [("_law_told", 0, lk__law_told)]
def b__law_told_row_1 : SS := sSeq (sRet (mLam lk__law_told [] (mCall s_row_number (mCons (mVar 0) mNil)))) sNil
def b__law_told_row : SS := b__law_told_row_1
def s__law_told_row : FSem := fF 1 1 false b__law_told_row
theorem e__law_told_row : dB g__law_told_row t__law_told_row.N t__law_told_row.scope 60 t__law_told_row.body = b__law_told_row := by kernel_rfl
/-! _law_path -/
def t__law_path : DefT := { name := "_law_path", ps := ["n", "d"], N := ["n", "d", "low", "high", "steps", "seen", "now"], keep := false, scope := defScope (top 45), params := defArgs (top 45), body := defBody (top 45), fuel := 60 }
def g__law_path : Gx := { fns := [], nums := pick nms.nums [], exc := pick nms.exl [], mt := inPs [(168, 46), (168, 50)], dt := inPs [], wf := 1000 }
def b__law_path_1 : SS := sSeq (sExpr (mMtd vAppend (mVar 4) (mCons (mC (.str "L")) mNil))) sNil
def b__law_path_2 : SS := sSeq (sAsg (mVar 6) (gSet 3)) b__law_path_1
def b__law_path_3 : SS := sSeq (sExpr (mMtd vAppend (mVar 4) (mCons (mC (.str "R")) mNil))) sNil
def b__law_path_4 : SS := sSeq (sAsg (mVar 6) (gSet 2)) b__law_path_3
def b__law_path_5 : SS := sSeq (sAsg (mTup (mCons (m2 (vAdd false) (m2 vIx (mVar 2) (mC (.int 0))) (m2 vIx (mVar 3) (mC (.int 0)))) (mCons (m2 (vAdd false) (m2 vIx (mVar 2) (mC (.int 1))) (m2 vIx (mVar 3) (mC (.int 1)))) mNil))) (gSet 6)) sNil
def b__law_path_6 : SS := sSeq (sIf (mTst (m2 vLt (m2 (vMul false) (mVar 0) (m2 vIx (mVar 6) (mC (.int 1)))) (m2 (vMul false) (m2 vIx (mVar 6) (mC (.int 0))) (mVar 1)))) b__law_path_2 b__law_path_4) b__law_path_5
def b__law_path_7 : SS := sSeq (sExpr (mMtd vAppend (mVar 5) (mCons (mVar 6) mNil))) b__law_path_6
def b__law_path_8 : SS := sSeq (sRet (mTup (mCons (mJoin (mC (.str "")) (mVar 4)) (mCons (m2 (vAdd false) (mVar 5) (mLst false (mCons (mVar 6) mNil))) mNil)))) sNil
def b__law_path_9 : SS := sSeq (whileL (mTst (m2 vNeS (m2 (vMul false) (m2 vIx (mVar 6) (mC (.int 0))) (mVar 1)) (m2 (vMul false) (mVar 0) (m2 vIx (mVar 6) (mC (.int 1)))))) b__law_path_7 1000) b__law_path_8
def b__law_path_10 : SS := sSeq (sAsg (mTup (mCons (mC (.int 1)) (mCons (mC (.int 1)) mNil))) (gSet 6)) b__law_path_9
def b__law_path_11 : SS := sSeq (sAsg (mTup (mCons (mTup (mCons (mC (.int 0)) (mCons (mC (.int 1)) mNil))) (mCons (mTup (mCons (mC (.int 1)) (mCons (mC (.int 0)) mNil))) (mCons (mLst true mNil) (mCons (mLst true (mCons (mTup (mCons (mC (.int 0)) (mCons (mC (.int 1)) mNil))) (mCons (mTup (mCons (mC (.int 1)) (mCons (mC (.int 0)) mNil))) mNil))) mNil))))) (gTupD 4 (gMore (gSet 2) (gMore (gSet 3) (gMore (gSet 4) (gMore (gSet 5) gNone)))))) b__law_path_10
def b__law_path : SS := b__law_path_11
def s__law_path : FSem := fF 2 7 false b__law_path
theorem e__law_path : dB g__law_path t__law_path.N t__law_path.scope 60 t__law_path.body = b__law_path := by kernel_rfl
/-! _law_apart -/
def t__law_apart : DefT := { name := "_law_apart", ps := ["one", "n", "d"], N := ["one", "n", "d"], keep := false, scope := defScope (top 46), params := defArgs (top 46), body := defBody (top 46), fuel := 60 }
def g__law_apart : Gx := { fns := [], nums := pick nms.nums [], exc := pick nms.exl [], mt := inPs [], dt := inPs [], wf := 1000 }
def b__law_apart_1 : SS := sSeq (sRet (mTup (mCons (mCall vAbs (mCons (m2 vSub (m2 (vMul false) (m2 vIx (mVar 0) (mC (.int 0))) (mVar 2)) (m2 (vMul false) (mVar 1) (m2 vIx (mVar 0) (mC (.int 1))))) mNil)) (mCons (m2 (vMul false) (m2 vIx (mVar 0) (mC (.int 1))) (mVar 2)) mNil)))) sNil
def b__law_apart : SS := b__law_apart_1
def s__law_apart : FSem := fF 3 3 false b__law_apart
theorem e__law_apart : dB g__law_apart t__law_apart.N t__law_apart.scope 60 t__law_apart.body = b__law_apart := by kernel_rfl
/-! law -/
def t_law : DefT := { name := "law", ps := ["script"], N := [("script" : Str), ("box" : Str), ("numbers" : Str), ("rows" : Str), ("total" : Str), ("turn" : Str), ("n" : Str), ("good" : Str), ("row" : Str), ("first" : Str), ("many" : Str), ("far" : Str), ("d" : Str), ("steps" : Str), ("seen" : Str), ("turned" : Str), ("step" : Str), ("N" : Str), ("near" : Str), ("below" : Str), ("above" : Str), ("best" : Str), ("one" : Str), ("two" : Str), ("due" : Str)], keep := false, scope := defScope (top 47), params := defArgs (top 47), body := defBody (top 47), fuel := 60 }
def g0_law : Gx := { fns := [(("_law_apart" : Str), s__law_apart), (("_law_common" : Str), s__law_common), (("_law_draw" : Str), s__law_draw), (("_law_less" : Str), s__law_less), (("_law_numbers" : Str), s__law_numbers), (("_law_path" : Str), s__law_path), (("_law_stream" : Str), s__law_stream), (("_law_told_row" : Str), s__law_told_row), (("nearest_to" : Str), s_nearest_to), (("path" : Str), s_path), (("winning" : Str), s_winning)], nums := pick nms.nums [], exc := pick nms.exl [], mt := inPs [(189, 11)], dt := inPs [], wf := 1000 }
def g_law : Gx := g0_law.with t_law.N [("_law_told", 0, lk__law_told)]
def b_law_1 : SS := sSeq (sRet (mC (.bl false))) sNil
def b_law_2 : SS := sSeq (sAsg (m2 vXor (mVar 4) (m2 vIx (mVar 2) (mVar 6))) (gSet 4)) sNil
def b_law_3 : SS := sSeq (sExpr (mMtd vAppend (mVar 7) (mCons (mTup (mCons (mVar 8) (mCons (mVar 9) (mCons (mVar 10) mNil)))) mNil))) sNil
def b_law_4 : SS := sSeq (sIf (mAndT (mTst (m2 vLe (m2 (vAdd false) (mVar 9) (mVar 10)) (m2 vIx (mVar 3) (mVar 8)))) (mTst (m2 vEqS (m2 vXor (m2 vXor (m2 vXor (mVar 4) (m2 vIx (mVar 2) (m2 vIx (mVar 3) (mVar 8)))) (m2 vIx (mVar 2) (mVar 9))) (m2 vIx (mVar 2) (m2 vSub (m2 vSub (m2 vIx (mVar 3) (mVar 8)) (mVar 9)) (mVar 10)))) (mC (.int 0))))) b_law_3 sNil) sNil
def b_law_5 : SS := sSeq (sFor (mSrc (mTup (mCons (mC (.int 1)) (mCons (mC (.int 2)) mNil)))) (gSet 10) b_law_4) sNil
def b_law_6 : SS := sSeq (sFor (mRange1 (mCons (m2 vIx (mVar 3) (mVar 8)) mNil)) (gSet 9) b_law_5) sNil
def b_law_7 : SS := sSeq (sRet (mC (.bl false))) sNil
def b_law_8 : SS := sSeq (sRet (mC (.bl false))) sNil
def b_law_9 : SS := sSeq (sRet (mC (.bl false))) sNil
def b_law_10 : SS := sSeq (sRet (mC (.bl false))) sNil
def b_law_11 : SS := sSeq (sAsg (m2 (vAdd false) (mVar 18) (mLC [20] false (mRange2 (mCons (m2 vDiv (m2 (vMul false) (mVar 6) (mVar 19)) (mVar 12)) (mCons (m2 (vAdd false) (m2 vDiv (m2 (vMul false) (mVar 6) (mVar 19)) (mVar 12)) (mC (.int 2))) mNil))) (gSet 20) (mTst (m2 vEqS (mCall s__law_common (mCons (mVar 20) (mCons (mVar 19) mNil))) (mC (.int 1)))) (mTup (mCons (mVar 20) (mCons (mVar 19) mNil))))) (gSet 18)) sNil
def b_law_12 : SS := sSeq (sRet (mC (.bl false))) sNil
def b_law_13 : SS := sSeq (sRet (m2 vEqS (mLC [22] false (mSrc (mVar 24)) (gSet 22) (mTst (m2 vNotIn (mVar 22) (mVar 14))) (mC (.int 1))) (mLst false mNil))) sNil
def b_law_14 : SS := sSeq (sIf (mTst (m2 vNeS (mLam lk__law_told [] (mCall s_nearest_to (mCons (mVar 6) (mCons (mVar 12) (mCons (mVar 17) mNil))))) (mTup (mCons (mC (.int 0)) (mCons (mCall vTuple (mCons (mVar 24) mNil)) mNil))))) b_law_12 sNil) b_law_13
def b_law_15 : SS := sSeq (sAsg (m2 (vAdd false) (mLC [22] false (mSrc (mVar 21)) (gSet 22) (mTst (m2 vLe (m2 (vMul false) (m2 vIx (mVar 22) (mC (.int 0))) (mVar 12)) (m2 (vMul false) (mVar 6) (m2 vIx (mVar 22) (mC (.int 1)))))) (mVar 22)) (mLC [22] false (mSrc (mVar 21)) (gSet 22) (mTst (m2 vGt (m2 (vMul false) (m2 vIx (mVar 22) (mC (.int 0))) (mVar 12)) (m2 (vMul false) (mVar 6) (m2 vIx (mVar 22) (mC (.int 1)))))) (mVar 22))) (gSet 24)) b_law_14
def b_law_16 : SS := sSeq (sAsg (mLC [22] false (mSrc (mVar 18)) (gSet 22) (mTst (m2 vEqS (mLC [23] false (mSrc (mVar 18)) (gSet 23) (mTru (mCall s__law_less (mCons (mCall s__law_apart (mCons (mVar 23) (mCons (mVar 6) (mCons (mVar 12) mNil)))) (mCons (mCall s__law_apart (mCons (mVar 22) (mCons (mVar 6) (mCons (mVar 12) mNil)))) mNil)))) (mC (.int 1))) (mLst false mNil))) (mVar 22)) (gSet 21)) b_law_15
def b_law_17 : SS := sSeq (sFor (mRange2 (mCons (mC (.int 1)) (mCons (m2 (vAdd false) (mVar 17) (mC (.int 1))) mNil))) (gSet 19) b_law_11) b_law_16
def b_law_18 : SS := sSeq (sAsg (mTup (mCons (m2 (vAdd false) (mC (.int 1)) (mCall s__law_draw (mCons (mVar 1) (mCons (mC (.int 12)) mNil)))) (mCons (mLst false mNil) mNil))) (gTupD 2 (gMore (gSet 17) (gMore (gSet 18) gNone)))) b_law_17
def b_law_19 : SS := sSeq (sIf (mTst (m2 vNeS (mLam lk__law_told [] (mCall s_path (mCons (mVar 12) (mCons (mVar 6) mNil)))) (mTup (mCons (mC (.int 0)) (mCons (mVar 15) mNil))))) b_law_10 sNil) b_law_18
def b_law_20 : SS := sSeq (sIf (mTst (m2 vNeS (mLam lk__law_told [] (mCall s_path (mCons (mVar 6) (mCons (mVar 12) mNil)))) (mTup (mCons (mC (.int 0)) (mCons (mVar 13) mNil))))) b_law_9 sNil) b_law_19
def b_law_21 : SS := sSeq (sAsg (mJoin (mC (.str "")) (mLC [16] false (mSrc (mVar 13)) (gSet 16) (fun _ S => .ok true S) (mIf (mTst (m2 vEqS (mVar 16) (mC (.str "R")))) (mC (.str "L")) (mC (.str "R"))))) (gSet 15)) b_law_20
def b_law_22 : SS := sSeq (sAsg (mCall s__law_path (mCons (mVar 6) (mCons (mVar 12) mNil))) (gTupD 2 (gMore (gSet 13) (gMore (gSet 14) gNone)))) b_law_21
def b_law_23 : SS := sSeq (sAsg (mTup (mCons (m2 (vAdd false) (mC (.int 1)) (mCall s__law_draw (mCons (mVar 1) (mCons (mC (.int 60)) mNil)))) (mCons (m2 (vAdd false) (mC (.int 1)) (mCall s__law_draw (mCons (mVar 1) (mCons (mC (.int 60)) mNil)))) mNil))) (gTupD 2 (gMore (gSet 6) (gMore (gSet 12) gNone)))) b_law_22
def b_law_24 : SS := sSeq (sIf (mOrT (mTst (m2 vNeS (m2 vIx (mCall s__law_told_row (mCons (mVar 11) mNil)) (mC (.int 0))) (mC (.int 0)))) (mOrT (mTst (m2 vNeS (mCall s__law_told_row (mCons (mVar 11) mNil)) (mCall s__law_told_row (mCons (m2 (vAdd false) (mVar 11) (mC (.int 12))) mNil)))) (mTst (m2 vEqS (m2 vIx (mCall s__law_told_row (mCons (mVar 11) mNil)) (mC (.int 1))) (mC (.int 0)))))) b_law_8 sNil) b_law_23
def b_law_25 : SS := sSeq (sAsg (m2 (vAdd false) (mC (.int 72)) (mCall s__law_draw (mCons (mVar 1) (mCons (mC (.int 200)) mNil)))) (gSet 11)) b_law_24
def b_law_26 : SS := sSeq (sIf (mOrT (mTst (m2 vNeS (mLam lk__law_told [] (mCall s_winning (mCons (mVar 3) mNil))) (mTup (mCons (mC (.int 0)) (mCons (mIf (mTst (m2 vNeS (mVar 7) (mLst false mNil))) (mCall vMin3 (mCons (mVar 7) mNil)) (mC .non)) mNil))))) (mTst (m2 vNeS (m2 vNeS (mVar 7) (mLst false mNil)) (m2 vNeS (mVar 4) (mC (.int 0)))))) b_law_7 sNil) b_law_25
def b_law_27 : SS := sSeq (sFor (mRange1 (mCons (mCall vLen (mCons (mVar 3) mNil)) mNil)) (gSet 8) b_law_6) b_law_26
def b_law_28 : SS := sSeq (sAsg (mLst true mNil) (gSet 7)) b_law_27
def b_law_29 : SS := sSeq (sFor (mSrc (mVar 3)) (gSet 6) b_law_2) b_law_28
def b_law_30 : SS := sSeq (sIf (mTst (m2 vNeS (mLC [6] false (mRange1 (mCons (mC (.int 10)) mNil)) (gSet 6) (mTst (m2 vNeS (mCall s__law_told_row (mCons (mVar 6) mNil)) (mTup (mCons (mC (.int 0)) (mCons (m2 vIx (mVar 2) (mVar 6)) mNil))))) (mC (.int 1))) (mLst false mNil))) b_law_1 sNil) b_law_29
def b_law_31 : SS := sSeq (sAsg (mTup (mCons (mCall s__law_numbers (mCons (mC (.int 9)) mNil)) (mCons (mCall vTuple (mCons (mLC [5] false (mRange1 (mCons (mCall s__law_draw (mCons (mVar 1) (mCons (mC (.int 5)) mNil))) mNil)) (gSet 5) (fun _ S => .ok true S) (mCall s__law_draw (mCons (mVar 1) (mCons (mC (.int 10)) mNil)))) mNil)) (mCons (mC (.int 0)) mNil)))) (gTupD 3 (gMore (gSet 2) (gMore (gSet 3) (gMore (gSet 4) gNone))))) b_law_30
def b_law_32 : SS := sSeq (sAsg (mCall s__law_stream (mCons (mVar 0) (mCons (mC (.int 0)) mNil))) (gSet 1)) b_law_31
def b_law : SS := b_law_32
def s_law : FSem := fF 1 25 false b_law
theorem e_law : dB g_law t_law.N t_law.scope 60 t_law.body = b_law := by kernel_rfl
/-! ### the head -/
def fnl : List He.DefD := [t_is_integer.datum "is_integer", t_is_between.datum "is_between", t_common_checks.datum "common_checks", t_fraction.datum "fraction", t_all_numbers.datum "all_numbers", t_row_number.datum "row_number", t_winning.datum "winning", t_common_cycles.datum "common_cycles", t_plus.datum "plus", t_less.datum "less", t_minus.datum "minus", t_check_ratio.datum "check_ratio", t_path.datum "path", t_nearest_to.datum "nearest_to", t__law_cell.datum "_law_cell", t__law_stream.datum "_law_stream", t__law_draw.datum "_law_draw", t__law_read.datum "_law_read", t__law_told.datum "_law_told", t__law_common.datum "_law_common", t__law_lowest.datum "_law_lowest", t__law_plus.datum "_law_plus", t__law_power.datum "_law_power", t__law_sets.datum "_law_sets", t__law_orders.datum "_law_orders", t__law_less.datum "_law_less", t__law_times.datum "_law_times", t__law_numbers.datum "_law_numbers", t__law_told_row.datum "_law_told_row", t__law_path.datum "_law_path", t__law_apart.datum "_law_apart", t_law.datum "law"]
def tfl : List He.Defn := [(("is_integer" : Str), (none : Option Str)), (("is_between" : Str), (none : Option Str)), (("common_checks" : Str), (none : Option Str)), (("fraction" : Str), (none : Option Str)), (("all_numbers" : Str), (none : Option Str)), (("row_number" : Str), (none : Option Str)), (("winning" : Str), (none : Option Str)), (("common_cycles" : Str), (none : Option Str)), (("plus" : Str), (none : Option Str)), (("less" : Str), (none : Option Str)), (("minus" : Str), (none : Option Str)), (("check_ratio" : Str), (none : Option Str)), (("path" : Str), (none : Option Str)), (("nearest_to" : Str), (none : Option Str)), (("_law_cell" : Str), (none : Option Str)), (("_law_stream" : Str), (none : Option Str)), (("_law_draw" : Str), (none : Option Str)), (("_law_read" : Str), (none : Option Str)), (("_law_told" : Str), (none : Option Str)), (("_law_common" : Str), (none : Option Str)), (("_law_lowest" : Str), (none : Option Str)), (("_law_plus" : Str), (none : Option Str)), (("_law_power" : Str), (none : Option Str)), (("_law_sets" : Str), (none : Option Str)), (("_law_orders" : Str), (none : Option Str)), (("_law_less" : Str), (none : Option Str)), (("_law_times" : Str), (none : Option Str)), (("_law_numbers" : Str), (none : Option Str)), (("_law_told_row" : Str), (none : Option Str)), (("_law_path" : Str), (none : Option Str)), (("_law_apart" : Str), (none : Option Str)), (("law" : Str), (none : Option Str))]
def lds : List (Str × Str) := [("nearest_to", "nearest_to"), ("_law_told_row", "_law_told_row"), ("law", "law")]
def exq (K : PySem.W.Frag) : Bool := lamTabs K tfl lds && toldX K nms.excs k__law_told w__law_told
section
variable {P : Program} {w : World} {K : PySem.W.Frag} {mg : Str → Option Value} {base h : Heap} (KX : K.In h) (G : h.Ns mainGlobals mg) (c : He.SaysD nms.fa fnl K) (cx : exq K = true) (tb : ∀ p ∈ tfl.map (He.cT K), LamX.TabB base mg p.1 p.2)
include KX G c cx tb
omit cx tb in
theorem d_is_integer : Said K mg "is_integer" t_is_integer := said_ok KX G c 0 0 rfl rfl fun _ _ _ _ _ _ us hl => match us, hl with | [_], _ => rfl
omit KX G c cx tb in
theorem sc_is_integer : FnScope t_is_integer.N t_is_integer.ps t_is_integer.scope := ⟨rfl, rfl, rfl, by decide +kernel, rfl, by decide +kernel, by decide +kernel⟩
theorem c_is_integer : Cal P w K mg base (nms.cl K) 1 "is_integer" s_is_integer := (d_is_integer KX G c).cal (Γ := g_is_integer) (k := 0) (top_ok KX G c) CalL.nil sc_is_integer (dF_is e_is_integer)
omit cx tb in
theorem d_is_between : Said K mg "is_between" t_is_between := said_ok KX G c 1 1 rfl rfl fun _ _ _ _ _ _ us hl => match us, hl with | [_, _, _], _ => rfl
omit KX G c cx tb in
theorem sc_is_between : FnScope t_is_between.N t_is_between.ps t_is_between.scope := ⟨rfl, rfl, rfl, by decide +kernel, rfl, by decide +kernel, by decide +kernel⟩
theorem c_is_between : Cal P w K mg base (nms.cl K) 2 "is_between" s_is_between := (d_is_between KX G c).cal (Γ := g_is_between) (k := 1) (top_ok KX G c) (CalL.cons ((c_is_integer KX G c cx tb).mono (by decide)) CalL.nil) sc_is_between (dF_is e_is_between)
omit cx tb in
theorem d_common_checks : Said K mg "common_checks" t_common_checks := said_ok KX G c 2 2 rfl rfl fun _ _ _ _ _ _ us hl => match us, hl with | [_, _], _ => rfl
omit KX G c cx tb in
theorem sc_common_checks : FnScope t_common_checks.N t_common_checks.ps t_common_checks.scope := ⟨rfl, rfl, rfl, by decide +kernel, rfl, by decide +kernel, by decide +kernel⟩
theorem c_common_checks : Cal P w K mg base (nms.cl K) 1 "common_checks" s_common_checks := (d_common_checks KX G c).cal (Γ := g_common_checks) (k := 0) (top_ok KX G c) CalL.nil sc_common_checks (dF_is e_common_checks)
omit cx tb in
theorem d_fraction : Said K mg "fraction" t_fraction := said_ok KX G c 3 3 rfl rfl fun _ _ _ _ _ _ us hl => match us, hl with | [_, _], _ => rfl
omit KX G c cx tb in
theorem sc_fraction : FnScope t_fraction.N t_fraction.ps t_fraction.scope := ⟨rfl, rfl, rfl, by decide +kernel, rfl, by decide +kernel, by decide +kernel⟩
theorem c_fraction : Cal P w K mg base (nms.cl K) 2 "fraction" s_fraction := (d_fraction KX G c).cal (Γ := g_fraction) (k := 1) (top_ok KX G c) (CalL.cons ((c_common_checks KX G c cx tb).mono (by decide)) CalL.nil) sc_fraction (dF_is e_fraction)
omit cx tb in
theorem d_all_numbers : Said K mg "all_numbers" t_all_numbers := said_ok KX G c 4 4 rfl rfl fun _ _ _ _ _ _ us hl => match us, hl with | [_], _ => rfl
omit KX G c cx tb in
theorem sc_all_numbers : FnScope t_all_numbers.N t_all_numbers.ps t_all_numbers.scope := ⟨rfl, rfl, rfl, by decide +kernel, rfl, by decide +kernel, by decide +kernel⟩
theorem c_all_numbers : Cal P w K mg base (nms.cl K) 1 "all_numbers" s_all_numbers := (d_all_numbers KX G c).cal (Γ := g_all_numbers) (k := 0) (top_ok KX G c) CalL.nil sc_all_numbers (dF_is e_all_numbers)
omit cx tb in
theorem d_row_number : Said K mg "row_number" t_row_number := said_ok KX G c 5 5 rfl rfl fun _ _ _ _ _ _ us hl => match us, hl with | [_], _ => rfl
omit KX G c cx tb in
theorem sc_row_number : FnScope t_row_number.N t_row_number.ps t_row_number.scope := ⟨rfl, rfl, rfl, by decide +kernel, rfl, by decide +kernel, by decide +kernel⟩
theorem c_row_number : Cal P w K mg base (nms.cl K) 3 "row_number" s_row_number := (d_row_number KX G c).cal (Γ := g_row_number) (k := 2) (top_ok KX G c) (CalL.cons ((c_all_numbers KX G c cx tb).mono (by decide)) (CalL.cons ((c_is_between KX G c cx tb).mono (by decide)) CalL.nil)) sc_row_number (dF_is e_row_number)
omit cx tb in
theorem d_winning : Said K mg "winning" t_winning := said_ok KX G c 6 6 rfl rfl fun _ _ _ _ _ _ us hl => match us, hl with | [_], _ => rfl
omit KX G c cx tb in
theorem sc_winning : FnScope t_winning.N t_winning.ps t_winning.scope := ⟨rfl, rfl, rfl, by decide +kernel, rfl, by decide +kernel, by decide +kernel⟩
theorem c_winning : Cal P w K mg base (nms.cl K) 3 "winning" s_winning := (d_winning KX G c).cal (Γ := g_winning) (k := 2) (top_ok KX G c) (CalL.cons ((c_all_numbers KX G c cx tb).mono (by decide)) (CalL.cons ((c_is_between KX G c cx tb).mono (by decide)) CalL.nil)) sc_winning (dF_is e_winning)
omit cx tb in
theorem d_common_cycles : Said K mg "common_cycles" t_common_cycles := said_ok KX G c 7 7 rfl rfl fun _ _ _ _ _ _ us hl => match us, hl with | [_, _], _ => rfl
omit KX G c cx tb in
theorem sc_common_cycles : FnScope t_common_cycles.N t_common_cycles.ps t_common_cycles.scope := ⟨rfl, rfl, rfl, by decide +kernel, rfl, by decide +kernel, by decide +kernel⟩
theorem c_common_cycles : Cal P w K mg base (nms.cl K) 1 "common_cycles" s_common_cycles := (d_common_cycles KX G c).cal (Γ := g_common_cycles) (k := 0) (top_ok KX G c) CalL.nil sc_common_cycles (dF_is e_common_cycles)
omit cx tb in
theorem d_plus : Said K mg "plus" t_plus := said_ok KX G c 8 8 rfl rfl fun _ _ _ _ _ _ us hl => match us, hl with | [_, _], _ => rfl
omit KX G c cx tb in
theorem sc_plus : FnScope t_plus.N t_plus.ps t_plus.scope := ⟨rfl, rfl, rfl, by decide +kernel, rfl, by decide +kernel, by decide +kernel⟩
theorem c_plus : Cal P w K mg base (nms.cl K) 3 "plus" s_plus := (d_plus KX G c).cal (Γ := g_plus) (k := 2) (top_ok KX G c) (CalL.cons ((c_fraction KX G c cx tb).mono (by decide)) CalL.nil) sc_plus (dF_is e_plus)
omit cx tb in
theorem d_less : Said K mg "less" t_less := said_ok KX G c 9 9 rfl rfl fun _ _ _ _ _ _ us hl => match us, hl with | [_, _], _ => rfl
omit KX G c cx tb in
theorem sc_less : FnScope t_less.N t_less.ps t_less.scope := ⟨rfl, rfl, rfl, by decide +kernel, rfl, by decide +kernel, by decide +kernel⟩
theorem c_less : Cal P w K mg base (nms.cl K) 1 "less" s_less := (d_less KX G c).cal (Γ := g_less) (k := 0) (top_ok KX G c) CalL.nil sc_less (dF_is e_less)
omit cx tb in
theorem d_minus : Said K mg "minus" t_minus := said_ok KX G c 10 10 rfl rfl fun _ _ _ _ _ _ us hl => match us, hl with | [_, _], _ => rfl
omit KX G c cx tb in
theorem sc_minus : FnScope t_minus.N t_minus.ps t_minus.scope := ⟨rfl, rfl, rfl, by decide +kernel, rfl, by decide +kernel, by decide +kernel⟩
theorem c_minus : Cal P w K mg base (nms.cl K) 4 "minus" s_minus := (d_minus KX G c).cal (Γ := g_minus) (k := 3) (top_ok KX G c) (CalL.cons ((c_plus KX G c cx tb).mono (by decide)) CalL.nil) sc_minus (dF_is e_minus)
omit cx tb in
theorem d_check_ratio : Said K mg "check_ratio" t_check_ratio := said_ok KX G c 11 11 rfl rfl fun _ _ _ _ _ _ us hl => match us, hl with | [_, _], _ => rfl
omit KX G c cx tb in
theorem sc_check_ratio : FnScope t_check_ratio.N t_check_ratio.ps t_check_ratio.scope := ⟨rfl, rfl, rfl, by decide +kernel, rfl, by decide +kernel, by decide +kernel⟩
theorem c_check_ratio : Cal P w K mg base (nms.cl K) 3 "check_ratio" s_check_ratio := (d_check_ratio KX G c).cal (Γ := g_check_ratio) (k := 2) (top_ok KX G c) (CalL.cons ((c_is_between KX G c cx tb).mono (by decide)) CalL.nil) sc_check_ratio (dF_is e_check_ratio)
omit cx tb in
theorem d_path : Said K mg "path" t_path := said_ok KX G c 12 12 rfl rfl fun _ _ _ _ _ _ us hl => match us, hl with | [_, _], _ => rfl
omit KX G c cx tb in
theorem sc_path : FnScope t_path.N t_path.ps t_path.scope := ⟨rfl, rfl, rfl, by decide +kernel, rfl, by decide +kernel, by decide +kernel⟩
theorem c_path : Cal P w K mg base (nms.cl K) 4 "path" s_path := (d_path KX G c).cal (Γ := g_path) (k := 3) (top_ok KX G c) (CalL.cons ((c_check_ratio KX G c cx tb).mono (by decide)) (CalL.cons ((c_common_cycles KX G c cx tb).mono (by decide)) CalL.nil)) sc_path (dF_is e_path)
omit cx tb in
theorem d_nearest_to : Said K mg "nearest_to" t_nearest_to := said_ok KX G c 13 13 rfl rfl fun _ _ _ _ _ _ us hl => match us, hl with | [_, _, _], _ => rfl
omit KX G c cx tb in
theorem sc_nearest_to : FnScope t_nearest_to.N t_nearest_to.ps t_nearest_to.scope := ⟨rfl, rfl, rfl, by decide +kernel, rfl, by decide +kernel, by decide +kernel⟩
theorem c_nearest_to : Cal P w K mg base (nms.cl K) 5 "nearest_to" s_nearest_to := (d_nearest_to KX G c).calK (Γ := g_nearest_to) (k := 4) (tf := tfl) (lds := lds) (top_ok KX G c) (CalL.cons ((c_check_ratio KX G c cx tb).mono (by decide)) (CalL.cons ((c_common_cycles KX G c cx tb).mono (by decide)) (CalL.cons ((c_is_between KX G c cx tb).mono (by decide)) (CalL.cons ((c_less KX G c cx tb).mono (by decide)) (CalL.cons ((c_minus KX G c cx tb).mono (by decide)) CalL.nil))))) sc_nearest_to (And.left (Bool.and_eq_true_iff.mp cx)) (by decide +kernel) (by decide +kernel) tb (dF_is e_nearest_to)
omit cx tb in
theorem d__law_cell : Said K mg "_law_cell" t__law_cell := said_ok KX G c 14 14 rfl rfl fun _ _ _ _ _ _ us hl => match us, hl with | [_, _], _ => rfl
omit KX G c cx tb in
theorem sc__law_cell : FnScope t__law_cell.N t__law_cell.ps t__law_cell.scope := ⟨rfl, rfl, rfl, by decide +kernel, rfl, by decide +kernel, by decide +kernel⟩
theorem c__law_cell : Cal P w K mg base (nms.cl K) 1 "_law_cell" s__law_cell := (d__law_cell KX G c).cal (Γ := g__law_cell) (k := 0) (top_ok KX G c) CalL.nil sc__law_cell (dF_is e__law_cell)
omit cx tb in
theorem d__law_stream : Said K mg "_law_stream" t__law_stream := said_ok KX G c 15 15 rfl rfl fun _ _ _ _ _ _ us hl => match us, hl with | [_, _], _ => rfl
omit KX G c cx tb in
theorem sc__law_stream : FnScope t__law_stream.N t__law_stream.ps t__law_stream.scope := ⟨rfl, rfl, rfl, by decide +kernel, rfl, by decide +kernel, by decide +kernel⟩
theorem c__law_stream : Cal P w K mg base (nms.cl K) 2 "_law_stream" s__law_stream := (d__law_stream KX G c).cal (Γ := g__law_stream) (k := 1) (top_ok KX G c) (CalL.cons ((c__law_cell KX G c cx tb).mono (by decide)) CalL.nil) sc__law_stream (dF_is e__law_stream)
omit cx tb in
theorem d__law_draw : Said K mg "_law_draw" t__law_draw := said_ok KX G c 16 16 rfl rfl fun _ _ _ _ _ _ us hl => match us, hl with | [_, _], _ => rfl
omit KX G c cx tb in
theorem sc__law_draw : FnScope t__law_draw.N t__law_draw.ps t__law_draw.scope := ⟨rfl, rfl, rfl, by decide +kernel, rfl, by decide +kernel, by decide +kernel⟩
theorem c__law_draw : Cal P w K mg base (nms.cl K) 1 "_law_draw" s__law_draw := (d__law_draw KX G c).cal (Γ := g__law_draw) (k := 0) (top_ok KX G c) CalL.nil sc__law_draw (dF_is e__law_draw)
omit cx tb in
theorem d__law_read : Said K mg "_law_read" t__law_read := said_ok KX G c 17 17 rfl rfl fun _ _ _ _ _ _ us hl => match us, hl with | [_], _ => rfl
omit KX G c cx tb in
theorem sc__law_read : FnScope t__law_read.N t__law_read.ps t__law_read.scope := ⟨rfl, rfl, rfl, by decide +kernel, rfl, by decide +kernel, by decide +kernel⟩
theorem c__law_read : ∀ n, Cal P w K mg base (nms.cl K) (0 + n) "_law_read" (s__law_read n)
  | 0 => (d__law_read KX G c).none
  | n + 1 => (d__law_read KX G c).cal (Γ := g__law_read (s__law_read n)) (top_ok KX G c) (CalL.cons (c__law_read n) CalL.nil) sc__law_read (dF_is (e__law_read (s__law_read n)))
omit cx tb in
theorem d__law_told : Said K mg "_law_told" t__law_told := said_ok KX G c 18 18 rfl rfl fun _ _ _ _ _ _ us hl => match us, hl with | [_], _ => rfl
omit KX G c cx tb in
theorem sc__law_told : FnScope t__law_told.N t__law_told.ps t__law_told.scope := ⟨rfl, rfl, rfl, by decide +kernel, rfl, by decide +kernel, by decide +kernel⟩
theorem l__law_told (j : Nat) (hj : 4 ≤ j + 1) : LamCal P w K mg base (nms.cl K) j (j + 2) "_law_told" 0 lk__law_told := (d__law_told KX G c).told (t := k__law_told) (i := 1) rfl sc__law_told rfl (by kernel_rfl) (by decide +kernel) ((c__law_read KX G c cx tb 4).mono hj) (toldX_ok (And.right (Bool.and_eq_true_iff.mp cx)) (glo_at KX G c (by decide)) (glo_at KX G c (by decide)) (free_at KX G c (by decide))) (Nat.le_refl _)
omit cx tb in
theorem d__law_common : Said K mg "_law_common" t__law_common := said_ok KX G c 19 19 rfl rfl fun _ _ _ _ _ _ us hl => match us, hl with | [_, _], _ => rfl
omit KX G c cx tb in
theorem sc__law_common : FnScope t__law_common.N t__law_common.ps t__law_common.scope := ⟨rfl, rfl, rfl, by decide +kernel, rfl, by decide +kernel, by decide +kernel⟩
theorem c__law_common : Cal P w K mg base (nms.cl K) 1 "_law_common" s__law_common := (d__law_common KX G c).cal (Γ := g__law_common) (k := 0) (top_ok KX G c) CalL.nil sc__law_common (dF_is e__law_common)
omit cx tb in
theorem d__law_lowest : Said K mg "_law_lowest" t__law_lowest := said_ok KX G c 20 20 rfl rfl fun _ _ _ _ _ _ us hl => match us, hl with | [_, _], _ => rfl
omit KX G c cx tb in
theorem sc__law_lowest : FnScope t__law_lowest.N t__law_lowest.ps t__law_lowest.scope := ⟨rfl, rfl, rfl, by decide +kernel, rfl, by decide +kernel, by decide +kernel⟩
theorem c__law_lowest : Cal P w K mg base (nms.cl K) 2 "_law_lowest" s__law_lowest := (d__law_lowest KX G c).cal (Γ := g__law_lowest) (k := 1) (top_ok KX G c) (CalL.cons ((c__law_common KX G c cx tb).mono (by decide)) CalL.nil) sc__law_lowest (dF_is e__law_lowest)
omit cx tb in
theorem d__law_plus : Said K mg "_law_plus" t__law_plus := said_ok KX G c 21 21 rfl rfl fun _ _ _ _ _ _ us hl => match us, hl with | [_, _], _ => rfl
omit KX G c cx tb in
theorem sc__law_plus : FnScope t__law_plus.N t__law_plus.ps t__law_plus.scope := ⟨rfl, rfl, rfl, by decide +kernel, rfl, by decide +kernel, by decide +kernel⟩
theorem c__law_plus : Cal P w K mg base (nms.cl K) 3 "_law_plus" s__law_plus := (d__law_plus KX G c).cal (Γ := g__law_plus) (k := 2) (top_ok KX G c) (CalL.cons ((c__law_lowest KX G c cx tb).mono (by decide)) CalL.nil) sc__law_plus (dF_is e__law_plus)
omit cx tb in
theorem d__law_power : Said K mg "_law_power" t__law_power := said_ok KX G c 22 22 rfl rfl fun _ _ _ _ _ _ us hl => match us, hl with | [_, _], _ => rfl
omit KX G c cx tb in
theorem sc__law_power : FnScope t__law_power.N t__law_power.ps t__law_power.scope := ⟨rfl, rfl, rfl, by decide +kernel, rfl, by decide +kernel, by decide +kernel⟩
theorem c__law_power : Cal P w K mg base (nms.cl K) 1 "_law_power" s__law_power := (d__law_power KX G c).cal (Γ := g__law_power) (k := 0) (top_ok KX G c) CalL.nil sc__law_power (dF_is e__law_power)
omit cx tb in
theorem d__law_sets : Said K mg "_law_sets" t__law_sets := said_ok KX G c 23 23 rfl rfl fun _ _ _ _ _ _ us hl => match us, hl with | [_], _ => rfl
omit KX G c cx tb in
theorem sc__law_sets : FnScope t__law_sets.N t__law_sets.ps t__law_sets.scope := ⟨rfl, rfl, rfl, by decide +kernel, rfl, by decide +kernel, by decide +kernel⟩
theorem c__law_sets : Cal P w K mg base (nms.cl K) 1 "_law_sets" s__law_sets := (d__law_sets KX G c).cal (Γ := g__law_sets) (k := 0) (top_ok KX G c) CalL.nil sc__law_sets (dF_is e__law_sets)
omit cx tb in
theorem d__law_orders : Said K mg "_law_orders" t__law_orders := said_ok KX G c 24 24 rfl rfl fun _ _ _ _ _ _ us hl => match us, hl with | [_], _ => rfl
omit KX G c cx tb in
theorem sc__law_orders : FnScope t__law_orders.N t__law_orders.ps t__law_orders.scope := ⟨rfl, rfl, rfl, by decide +kernel, rfl, by decide +kernel, by decide +kernel⟩
theorem c__law_orders : Cal P w K mg base (nms.cl K) 1 "_law_orders" s__law_orders := (d__law_orders KX G c).cal (Γ := g__law_orders) (k := 0) (top_ok KX G c) CalL.nil sc__law_orders (dF_is e__law_orders)
omit cx tb in
theorem d__law_less : Said K mg "_law_less" t__law_less := said_ok KX G c 25 25 rfl rfl fun _ _ _ _ _ _ us hl => match us, hl with | [_, _], _ => rfl
omit KX G c cx tb in
theorem sc__law_less : FnScope t__law_less.N t__law_less.ps t__law_less.scope := ⟨rfl, rfl, rfl, by decide +kernel, rfl, by decide +kernel, by decide +kernel⟩
theorem c__law_less : Cal P w K mg base (nms.cl K) 1 "_law_less" s__law_less := (d__law_less KX G c).cal (Γ := g__law_less) (k := 0) (top_ok KX G c) CalL.nil sc__law_less (dF_is e__law_less)
omit cx tb in
theorem d__law_times : Said K mg "_law_times" t__law_times := said_ok KX G c 26 26 rfl rfl fun _ _ _ _ _ _ us hl => match us, hl with | [_, _], _ => rfl
omit KX G c cx tb in
theorem sc__law_times : FnScope t__law_times.N t__law_times.ps t__law_times.scope := ⟨rfl, rfl, rfl, by decide +kernel, rfl, by decide +kernel, by decide +kernel⟩
theorem c__law_times : Cal P w K mg base (nms.cl K) 3 "_law_times" s__law_times := (d__law_times KX G c).cal (Γ := g__law_times) (k := 2) (top_ok KX G c) (CalL.cons ((c__law_lowest KX G c cx tb).mono (by decide)) CalL.nil) sc__law_times (dF_is e__law_times)
omit cx tb in
theorem d__law_numbers : Said K mg "_law_numbers" t__law_numbers := said_ok KX G c 27 27 rfl rfl fun _ _ _ _ _ _ us hl => match us, hl with | [_], _ => rfl
omit KX G c cx tb in
theorem sc__law_numbers : FnScope t__law_numbers.N t__law_numbers.ps t__law_numbers.scope := ⟨rfl, rfl, rfl, by decide +kernel, rfl, by decide +kernel, by decide +kernel⟩
theorem c__law_numbers : Cal P w K mg base (nms.cl K) 1 "_law_numbers" s__law_numbers := (d__law_numbers KX G c).cal (Γ := g__law_numbers) (k := 0) (top_ok KX G c) CalL.nil sc__law_numbers (dF_is e__law_numbers)
omit cx tb in
theorem d__law_told_row : Said K mg "_law_told_row" t__law_told_row := said_ok KX G c 28 28 rfl rfl fun _ _ _ _ _ _ us hl => match us, hl with | [_], _ => rfl
omit KX G c cx tb in
theorem sc__law_told_row : FnScope t__law_told_row.N t__law_told_row.ps t__law_told_row.scope := ⟨rfl, rfl, rfl, by decide +kernel, rfl, by decide +kernel, by decide +kernel⟩
theorem c__law_told_row : Cal P w K mg base (nms.cl K) 7 "_law_told_row" s__law_told_row := (d__law_told_row KX G c).calL (Γ0 := g0__law_told_row) (k := 4) (tf := tfl) (lds := lds) (top_ok KX G c) rfl (CalL.cons ((c_row_number KX G c cx tb).mono (by decide)) CalL.nil) sc__law_told_row (And.left (Bool.and_eq_true_iff.mp cx)) (by decide +kernel) (by decide +kernel) tb (lam_cons (l__law_told KX G c cx tb 4 (by decide)) lam_nil) (dF_is e__law_told_row)
omit cx tb in
theorem d__law_path : Said K mg "_law_path" t__law_path := said_ok KX G c 29 29 rfl rfl fun _ _ _ _ _ _ us hl => match us, hl with | [_, _], _ => rfl
omit KX G c cx tb in
theorem sc__law_path : FnScope t__law_path.N t__law_path.ps t__law_path.scope := ⟨rfl, rfl, rfl, by decide +kernel, rfl, by decide +kernel, by decide +kernel⟩
theorem c__law_path : Cal P w K mg base (nms.cl K) 1 "_law_path" s__law_path := (d__law_path KX G c).cal (Γ := g__law_path) (k := 0) (top_ok KX G c) CalL.nil sc__law_path (dF_is e__law_path)
omit cx tb in
theorem d__law_apart : Said K mg "_law_apart" t__law_apart := said_ok KX G c 30 30 rfl rfl fun _ _ _ _ _ _ us hl => match us, hl with | [_, _, _], _ => rfl
omit KX G c cx tb in
theorem sc__law_apart : FnScope t__law_apart.N t__law_apart.ps t__law_apart.scope := ⟨rfl, rfl, rfl, by decide +kernel, rfl, by decide +kernel, by decide +kernel⟩
theorem c__law_apart : Cal P w K mg base (nms.cl K) 1 "_law_apart" s__law_apart := (d__law_apart KX G c).cal (Γ := g__law_apart) (k := 0) (top_ok KX G c) CalL.nil sc__law_apart (dF_is e__law_apart)
omit cx tb in
theorem d_law : Said K mg "law" t_law := said_ok KX G c 31 31 rfl rfl fun _ _ _ _ _ _ us hl => match us, hl with | [_], _ => rfl
omit KX G c cx tb in
theorem sc_law : FnScope t_law.N t_law.ps t_law.scope := ⟨rfl, rfl, rfl, by decide +kernel, rfl, by decide +kernel, by decide +kernel⟩
theorem f_law {fd : FuncData} (F : FunD K t_law.name t_law.name t_law.params t_law.body t_law.scope [] [] (He.ga K "law") fd) : FnG P w K mg base 10 (He.ga K "law") fd t_law.ps (spM K (nms.cl K) s_law) :=
  (show dF g_law t_law = s_law from dF_is e_law) ▸ fn_okL (Γ0 := g0_law) (k := 7) (top_ok KX G c) rfl (CalL.cons ((c__law_apart KX G c cx tb).mono (by decide)) (CalL.cons ((c__law_common KX G c cx tb).mono (by decide)) (CalL.cons ((c__law_draw KX G c cx tb).mono (by decide)) (CalL.cons ((c__law_less KX G c cx tb).mono (by decide)) (CalL.cons ((c__law_numbers KX G c cx tb).mono (by decide)) (CalL.cons ((c__law_path KX G c cx tb).mono (by decide)) (CalL.cons ((c__law_stream KX G c cx tb).mono (by decide)) (CalL.cons ((c__law_told_row KX G c cx tb).mono (by decide)) (CalL.cons ((c_nearest_to KX G c cx tb).mono (by decide)) (CalL.cons ((c_path KX G c cx tb).mono (by decide)) (CalL.cons ((c_winning KX G c cx tb).mono (by decide)) CalL.nil))))))))))) F sc_law (lam_here (tf := tfl) (lds := lds) (And.left (Bool.and_eq_true_iff.mp cx)) (by decide +kernel) (by decide +kernel) F tb) (lam_cons (l__law_told KX G c cx tb 7 (by decide)) lam_nil)
end
def loose0 : List Str := [("NightError" : Str), ("BadLooks" : Str), ("OutOfRange" : Str), ("is_integer" : Str), ("is_between" : Str), ("common" : Str), ("common_checks" : Str), ("fraction" : Str), ("MOST_NIGHTS" : Str), ("MOST_ROWS" : Str), ("all_numbers" : Str), ("row_number" : Str), ("winning" : Str), ("common_cycles" : Str), ("plus" : Str), ("less" : Str), ("minus" : Str), ("MOST_NUMBER" : Str), ("check_ratio" : Str), ("path" : Str), ("nearest_to" : Str), ("_law_cell" : Str), ("_law_stream" : Str), ("_law_draw" : Str), ("_law_read" : Str), ("_law_told" : Str), ("_law_common" : Str), ("_law_lowest" : Str), ("_law_plus" : Str), ("_law_power" : Str), ("_law_sets" : Str), ("_law_orders" : Str), ("_law_less" : Str), ("_law_times" : Str), ("_law_numbers" : Str), ("_law_told_row" : Str), ("_law_path" : Str), ("_law_apart" : Str)]
def loose : List Str := loose0
abbrev R : PySem.W.OpenRow := PySem.W.OpenLaw.row PySem.Challenge.rw_allnights_k75_rows_of_nights_and_paths
abbrev hk : PySem.W.Hook := He.hookX 4 nms.fa fnl [] tfl exq
def ob (s : PySem.W.SharedT) : He.AlX := He.obsX 4 nms.fa fnl [] tfl exq (HandSHeadRun.getT s)
theorem ob_eq (s : PySem.W.SharedT) : ob s = hk.obs s.abs := He.obsX_eq (HandSHeadRun.getT_eq s)
theorem run (w : World) : HandSHeadRun.RunEq R (PySem.W.view R.prog [47]) hk ob 4000 loose w := by
  intro os
  kernel_rfl
theorem text {P : Program} {w : World} {mg : Str → Option Value} {fa : Addr} {h : Heap} (Y : ∃ K : PySem.W.Frag, K.In h ∧ He.SaysX nms.fa fnl [] tfl exq w h K) (G : h.Ns mainGlobals mg) (hm : mg "law" = some (.ref fa)) (sem : ∀ ns : List Int, ns.length ≤ 63 → (∀ z ∈ ns, Builtin.Int.intBits z ≤ 1048576) → ∃ S, s_law [.scr ns] [] = .ok (.bl true) S) : LawText P w mg fa h 10 63 "script" :=
  text_of (lds := lds) Y hm (fun K cx => (And.left (Bool.and_eq_true_iff.mp cx))) (fun K KX c => ⟨t_law, d_law KX G c, rfl, fun fd F cx base kb gb tb => f_law KX G c cx tb F⟩) sem
end K75
open PySem PySem.W PySem.Calls PyProof.Rows
theorem K75.holds_of (sem : ∀ ns : List Int, ns.length ≤ 63 → (∀ z ∈ ns, Builtin.Int.intBits z ≤ 1048576) → ∃ S, K75.s_law [.scr ns] [] = .ok (.bl true) S) : PySem.Challenge.rw_allnights_k75_rows_of_nights_and_paths.Holds := by
  w_on; o_law
  refine HandSHeadRun.head_any (r := K75.R) (q := view K75.R.prog [47]) (H := K75.hk) (ob := K75.ob) (M := 4000) (loose := K75.loose) (d := HandSHeadRun.topDef K75.R.prog 47) (kwd := []) K75.ob_eq (by kernel_rfl) (fun s => by kernel_rfl) K75.run
    (by kernel_rfl) (by kernel_rfl) (by kernel_rfl) (by rfl) (by first | assumption | decide +kernel) (by decide +kernel) ⟨rfl, rfl, rfl, rfl, rfl, by decide +kernel⟩ ?hw ?hc
  case hw => w_witness2
  case hc =>
    refine Mir.walk_law (l := PySem.Challenge.rw_allnights_k75_rows_of_nights_and_paths) (n := 63) (k := 10) (x := "script") rfl (by decide) (by kernel_rfl) ⟨rfl, by decide, by decide⟩ fun w mg fa h Y G hm => ?_
    have e : (HandSHeadRun.topDef K75.R.prog 47).name = ("law" : PySem.Str) := by kernel_rfl
    exact K75.text Y G (e ▸ hm) sem
end

section
set_option Elab.async false
set_option linter.all false
set_option maxRecDepth 100000
/-! MirD: draws, of both kinds. -/
namespace Mir
open PySem PySem.Spec
/-- a box of draws: its number, its mixer -/
structure Bx where
  a : Int
  b : Int
  ha : 0 ≤ a
  hb : 0 ≤ b
  hc : b < 2147483648
def bx (x : Bx) : Ob := .lst [.int x.a, .int x.b]
@[simp] theorem bx_lt (n : Nat) (x : Bx) : Ob.lt n (bx x) = true := by simp [bx, Ob.lt, lts, D.lt]
/-! ### the first kind -/
def dA : SS := (sSeq (sIf (mTst (m2 vGt (m2 vIx (mVar 0) (mC (.int 0))) (mC (.int 0)))) (sSeq (sAsg (m2 vMod (m2 vIx (mVar 0) (mC (.int 0))) (mVar 1)) (gSet 2)) (sSeq (sAsg (m2 vDiv (m2 vIx (mVar 0) (mC (.int 0))) (mVar 1)) (gSubD (mVar 0) (mC (.int 0)))) (sSeq (sRet (mCall vIntC (mCons (mVar 2) mNil))) sNil))) sNil)
  (sSeq (sAsg (m2 vMod (mCall vIntC (mCons (m2 (vAdd false) (m2 (vMul false) (m2 vIx (mVar 0) (mC (.int 1))) (mC (.int 48271))) (mC (.int 12345))) mNil)) (mC (.int 2147483647))) (gSubD (mVar 0) (mC (.int 1)))) (sSeq (sRet (m2 vMod (mCall vIntC (mCons (m2 vDiv (m2 vIx (mVar 0) (mC (.int 1))) (mC (.int 64))) mNil)) (mVar 1))) sNil)))
def sDrawA : FSem := fF 2 3 false dA
/-- the number drawn, the box behind it -/
def dvA (x : Bx) (m : Int) : Int := if 0 < x.a then x.a % m else (x.b * 48271 + 12345) % 2147483647 / 64 % m
def dnA (x : Bx) (m : Int) : Bx := if h : 0 < x.a ∧ 0 < m then ⟨x.a / m, x.b, Int.ediv_nonneg x.ha (by omega), x.hb, x.hc⟩ else
  ⟨x.a, (x.b * 48271 + 12345) % 2147483647, x.ha, Int.emod_nonneg _ (by decide), by have := Int.emod_lt_of_pos (x.b * 48271 + 12345) (show (0 : Int) < 2147483647 by decide); omega⟩
theorem dvA_lo (x : Bx) {m : Int} (h : 0 < m) : 0 ≤ dvA x m := by
  unfold dvA
  split <;> exact Int.emod_nonneg _ (by omega)
theorem dvA_hi (x : Bx) {m : Int} (h : 0 < m) : dvA x m < m := by
  unfold dvA
  split <;> exact Int.emod_lt_of_pos _ h
theorem fin_box (x y : Bx) (R : Store) (i : Int) : Mir.finish false (bx x :: R) (.rt (.int i) (bx y :: R)) = .ok (.int i) (bx y :: R) := by
  have hb : backOk (R.length + 1) R R = true := by simpa using backOk_app (n := R.length + 1) R []
  unfold Mir.finish
  simp [backOk, hb, outD, D.lt]
theorem drawA (x : Bx) (m : Int) (R : Store) (h : 0 < m) (h2 : m < 18446744073709551616) : sDrawA [.ref 0, .int m] (bx x :: R) = .ok (.int (dvA x m)) (bx (dnA x m) :: R) := by
  obtain ⟨a, b, ha, hb, hc⟩ := x
  by_cases h0 : 0 < a
  · have e1 : dvA ⟨a, b, ha, hb, hc⟩ m = a % m := if_pos h0
    have e2 : bx (dnA ⟨a, b, ha, hb, hc⟩ m) = .lst [.int (a / m), .int b] := by unfold dnA; rw [dif_pos (show 0 < a ∧ 0 < m from ⟨h0, h⟩)]; rfl
    have := fin_box ⟨a, b, ha, hb, hc⟩ (dnA ⟨a, b, ha, hb, hc⟩ m) R (a % m)
    rw [e2] at this
    rw [e1, e2, ← this]
    simp [sDrawA, dA, bx, h0, h, h2]
  · have e1 : dvA ⟨a, b, ha, hb, hc⟩ m = (b * 48271 + 12345) % 2147483647 / 64 % m := if_neg h0
    have e2 : bx (dnA ⟨a, b, ha, hb, hc⟩ m) = .lst [.int a, .int ((b * 48271 + 12345) % 2147483647)] := by unfold dnA; rw [dif_neg (show ¬ (0 < a ∧ 0 < m) from fun z => h0 z.1)]; rfl
    have := fin_box ⟨a, b, ha, hb, hc⟩ (dnA ⟨a, b, ha, hb, hc⟩ m) R ((b * 48271 + 12345) % 2147483647 / 64 % m)
    rw [e2] at this
    rw [e1, e2, ← this]
    have hn : b.natAbs < 18446744073709551616 := by omega
    simp [sDrawA, dA, bx, h0, h, hn]
theorem fin_bxb (x y : Bx) (R T : Store) (b : Bool) : Mir.finish false (bx x :: R) (.rt (.bl b) (bx y :: (R ++ T))) = .ok (.bl b) (bx y :: R) := by
  have hb : backOk (R.length + 1) R (R ++ T) = true := backOk_app (n := R.length + 1) R T
  unfold Mir.finish
  simp [backOk, hb, outD, D.lt]
@[simp] theorem fin_bxb1 (x y : Bx) (b : Bool) : Mir.finish false [bx x] (.rt (.bl b) [bx y]) = .ok (.bl b) [bx y] := fin_bxb x y [] [] b
@[simp] theorem fin_bxbT (x y : Bx) (b : Bool) (T : Store) : Mir.finish false [bx x] (.rt (.bl b) (bx y :: T)) = .ok (.bl b) [bx y] := fin_bxb x y [] T b
/-! ### the second kind -/
def dB2 : SS := sSeq (sIf (mTst (m2 vGt (m2 vIx (mVar 0) (mC (.int 0))) (mC (.int 0))))
  (sSeq (sAsg (m2 vIx (mVar 0) (mC (.int 0))) (gSet 2)) (sSeq (sAsg (mCall vIntC (mCons (m2 vDiv (mVar 2) (mVar 1)) mNil)) (gSubD (mVar 0) (mC (.int 0)))) (sSeq (sRet (mCall vIntC (mCons (m2 vMod (mVar 2) (mVar 1)) mNil))) sNil))) sNil)
  (sSeq (sAsg (m2 vMod (m2 (vMul false) (mC (.int 69621)) (m2 vIx (mVar 0) (mC (.int 1)))) (mC (.int 2147483647))) (gSubD (mVar 0) (mC (.int 1)))) (sSeq (sRet (mCall vIntC (mCons (m2 vMod (m2 vDiv (m2 vIx (mVar 0) (mC (.int 1))) (mC (.int 7))) (mVar 1)) mNil))) sNil))
def sDrawB : FSem := fF 2 3 false dB2
def dvB (x : Bx) (m : Int) : Int := if 0 < x.a then x.a % m else 69621 * x.b % 2147483647 / 7 % m
def dnB (x : Bx) (m : Int) : Bx := if h : 0 < x.a ∧ 0 < m then ⟨x.a / m, x.b, Int.ediv_nonneg x.ha (by omega), x.hb, x.hc⟩ else
  ⟨x.a, 69621 * x.b % 2147483647, x.ha, Int.emod_nonneg _ (by decide), by have := Int.emod_lt_of_pos (69621 * x.b) (show (0 : Int) < 2147483647 by decide); omega⟩
theorem dvB_lo (x : Bx) {m : Int} (h : 0 < m) : 0 ≤ dvB x m := by
  unfold dvB
  split <;> exact Int.emod_nonneg _ (by omega)
theorem dvB_hi (x : Bx) {m : Int} (h : 0 < m) : dvB x m < m := by
  unfold dvB
  split <;> exact Int.emod_lt_of_pos _ h
theorem drawB (x : Bx) (m : Int) (R : Store) (h : 0 < m) (h2 : m < 18446744073709551616) : sDrawB [.ref 0, .int m] (bx x :: R) = .ok (.int (dvB x m)) (bx (dnB x m) :: R) := by
  obtain ⟨a, b, ha, hb, hc⟩ := x
  by_cases h0 : 0 < a
  · have e1 : dvB ⟨a, b, ha, hb, hc⟩ m = a % m := if_pos h0
    have e2 : bx (dnB ⟨a, b, ha, hb, hc⟩ m) = .lst [.int (a / m), .int b] := by unfold dnB; rw [dif_pos (show 0 < a ∧ 0 < m from ⟨h0, h⟩)]; rfl
    have := fin_box ⟨a, b, ha, hb, hc⟩ (dnB ⟨a, b, ha, hb, hc⟩ m) R (a % m)
    rw [e2] at this
    rw [e1, e2, ← this]
    simp [sDrawB, dB2, bx, h0, h, h2]
  · have e1 : dvB ⟨a, b, ha, hb, hc⟩ m = 69621 * b % 2147483647 / 7 % m := if_neg h0
    have e2 : bx (dnB ⟨a, b, ha, hb, hc⟩ m) = .lst [.int a, .int (69621 * b % 2147483647)] := by unfold dnB; rw [dif_neg (show ¬ (0 < a ∧ 0 < m) from fun z => h0 z.1)]; rfl
    have := fin_box ⟨a, b, ha, hb, hc⟩ (dnB ⟨a, b, ha, hb, hc⟩ m) R (69621 * b % 2147483647 / 7 % m)
    rw [e2] at this
    rw [e1, e2, ← this]
    have hn : b.natAbs < 18446744073709551616 := by omega
    simp [sDrawB, dB2, bx, h0, h, hn]
end Mir
end

section
set_option Elab.async false
set_option linter.all false
set_option maxRecDepth 100000
/-! MirT: dicts of numbers, searches. -/
namespace Mir
open PySem PySem.Spec
/-- a dict whose keys are numbers, all bound to True -/
def ikv (ks : List Int) : List (D × D) := ks.map fun k => (.int k, .bl true)
def dins (ks : List Int) (x : Int) : List Int := if x ∈ ks then ks else ks ++ [x]
@[simp] theorem ikv_nil : ikv [] = [] := (rfl)
@[simp] theorem ikv_len (ks : List Int) : (ikv ks).length = ks.length := by simp [ikv]
theorem key_int (i j : Int) : keyK false (.int i) (.int j) = decide (i = j) := by
  unfold keyK kEq keyD
  dsimp only
  by_cases h : i = j
  · subst h; simp
  · rw [decide_eq_false h]; exact decide_eq_false fun e => h (Sum.inl.inj e)
theorem ikv_find (ks : List Int) (x : Int) : ((ikv ks).find? fun p => keyK false p.1 (.int x)).isSome = decide (x ∈ ks) := by
  induction ks with
  | nil => rfl
  | cons k ks ih =>
    show (((.int k, .bl true) :: ikv ks).find? fun p => keyK false p.1 (.int x)).isSome = _
    rw [List.find?_cons]
    dsimp only
    rw [key_int]
    by_cases h : k = x
    · subst h; simp
    · rw [decide_eq_false h]
      dsimp only
      rw [ih]
      simp [Ne.symm h]
theorem ikv_same (ks : List Int) (x : Int) : ((ikv ks).map fun p => if keyK false p.1 (.int x) then (p.1, D.bl true) else p) = ikv ks := by
  unfold ikv
  rw [List.map_map]
  refine List.map_congr_left fun k _ => ?_
  show (if keyK false (.int k) (.int x) then ((.int k, .bl true) : D × D) else (.int k, .bl true)) = _
  split <;> rfl
theorem dPut_ikv (ks : List Int) (x : Int) : dPut false (ikv ks) (.int x) (.bl true) = ikv (dins ks x) := by
  unfold dPut dins
  rw [ikv_find, ikv_same]
  by_cases h : x ∈ ks
  · rw [if_pos (decide_eq_true h), if_pos h]
  · rw [if_neg (by simp [h]), if_neg h]
    unfold ikv
    rw [List.map_append]
    rfl
@[simp] theorem kSet_dic (ks : List Int) (n : Nat) (i : Int) (S : Store) (h : ks.length ≤ 16000000) : kSet (some (.dic false (ikv ks))) n (.int i) (.bl true) S = .ok () (S.set n (.dic false (ikv (dins ks i)))) := by
  have hb : Nat.ble (ikv ks).length 16000000 = true := Nat.ble_eq_true_of_le (by rw [ikv_len]; exact h)
  show (if isKey false (.int i) && Nat.ble (ikv ks).length 16000000 then _ else _) = _
  rw [hb, dPut_ikv]
  rfl
theorem dins_len (ks : List Int) (x : Int) : (dins ks x).length ≤ ks.length + 1 := by unfold dins; split <;> simp
theorem dins_fold_len : ∀ (xs ks : List Int), (xs.foldl dins ks).length ≤ ks.length + xs.length
  | [], ks => by simp
  | x :: xs, ks => by
    have := dins_fold_len xs (dins ks x)
    have := dins_len ks x
    rw [List.foldl_cons, List.length_cons]
    omega
theorem dins_nodup : ∀ (xs ks : List Int), ks.Nodup → ((xs.foldl dins ks).length = ks.length + xs.length ↔ (ks ++ xs).Nodup)
  | [], ks, h => by simp [h]
  | x :: xs, ks, h => by
    rw [List.foldl_cons, List.length_cons]
    by_cases m : x ∈ ks
    · have e : dins ks x = ks := if_pos m
      rw [e]
      have := dins_fold_len xs ks
      refine ⟨fun q => by omega, fun q => ?_⟩
      exact absurd rfl ((List.nodup_append.mp q).2.2 x m x List.mem_cons_self)
    · have e : dins ks x = ks ++ [x] := if_neg m
      rw [e]
      have h' : (ks ++ [x]).Nodup := List.nodup_append.mpr ⟨h, by simp, fun a ha b hb e => m (by rw [← List.mem_singleton.mp hb, ← e]; exact ha)⟩
      have := dins_nodup xs (ks ++ [x]) h'
      rw [List.length_append, List.append_assoc] at this
      rw [show ks.length + (xs.length + 1) = ks.length + [x].length + xs.length by simp; omega]
      exact this
theorem dins_nodup0 (xs : List Int) : (xs.foldl dins []).length = xs.length ↔ xs.Nodup := by simpa using dins_nodup xs [] List.nodup_nil
def pairI (f : D → Store → Out (Option (D × D))) (S : Store) (xs : List Int) : Prop := ∀ x ∈ xs, f (.int x) S = .ok (some (.int x, .bl true)) S
theorem dcL_go (f : D → Store → Out (Option (D × D))) (S : Store) (all : List D) : ∀ (xs : List Int) (o : Nat) (ks : List Int), pairI f S xs → all.drop o = xs.map .int → ks.length + xs.length ≤ 16000000 →
    dcL false (Src.items all).get (Src.items all).fin f xs.length o (ikv ks) S = .ok (ikv (xs.foldl dins ks)) S
  | [], o, ks, _, _, _ => rfl
  | x :: xs, o, ks, q, hd, hl => by
    have g : (Src.items all).get o S = some (.int x) := by
      show all[o]? = _
      have := congrArg List.head? hd
      rw [List.head?_drop] at this
      exact this
    have dl := dins_len ks x
    simp only [List.length_cons] at hl
    have hb : Nat.ble (ikv ks).length 16000000 = true := Nat.ble_eq_true_of_le (by rw [ikv_len]; omega)
    rw [List.length_cons]
    unfold dcL
    rw [g]
    dsimp only
    rw [q x List.mem_cons_self]
    dsimp only
    rw [hb, dPut_ikv]
    rw [if_pos (by rfl)]
    refine dcL_go f S all xs (o + 1) (dins ks x) (fun y hy => q y (List.mem_cons_of_mem _ hy)) ?_ (by omega)
    have := congrArg List.tail hd
    rw [List.tail_drop] at this
    exact this
def kDC (own : List Nat) (t : Bool) (g : SG) (c : ST) (k v : SE) (env : Env) : Src → Store → Out D := fun s S1 => newDic t (dcL t s.get s.fin (mPair own g c k v env) s.len 0 [] S1)
@[simp] theorem mDC_ap (own : List Nat) (t : Bool) (src : Env → Store → Out Src) (g : SG) (c : ST) (k v : SE) (env : Env) (S : Store) : mDC own t src g c k v env S = (src env S).bind (kDC own t g c k v env) := (rfl)
/-- `{x: True for x in xs}` -/
theorem kDC_ints (i : Nat) (env : Env) (xs : List Int) (S : Store) (hi : i < env.length) (h : xs.length ≤ 16000000) : kDC [i] false (gSet i) (fun _ S => .ok true S) (mVar i) (mC (.bl true)) env (.items (xs.map .int)) S = .ok (.ref S.length) (S ++ [.dic false (ikv (xs.foldl dins []))]) := by
  have q : pairI (mPair [i] (gSet i) (fun _ S => .ok true S) (mVar i) (mC (.bl true)) env) S xs := fun x _ => by
    simp [mPair, hi]
  have e := dcL_go _ S (xs.map .int) xs 0 [] q rfl (by simpa using h)
  have l : (Src.items (xs.map D.int)).len = xs.length := List.length_map ..
  unfold kDC
  rw [l]
  rw [ikv_nil] at e
  rw [e]
  rfl
theorem vIn_ints (xs : List Int) (x : Int) (S : Store) : vIn (.int x) (.lst (xs.map .int)) S = .ok (.bl (decide (x ∈ xs))) S := by
  have o2 : okD 60 (.lst (xs.map .int)) = true := okD_ints 58 xs
  have an : ((xs.map D.int).any fun z => eqF 60 z (.int x)) = decide (x ∈ xs) := by
    rw [List.any_map, Bool.eq_iff_iff, List.any_eq_true, decide_eq_true_eq]
    constructor
    · rintro ⟨c, hc, e⟩
      have e : (c == x) = true := e
      rw [← eq_of_beq e]; exact hc
    · intro h
      exact ⟨x, h, beq_self_eq_true x⟩
  show vCmp (fun a b S => inB S a b) _ _ S = _
  unfold vCmp
  dsimp only [inB]
  rw [o2, an]
  rfl
/-- a loop that looks for the first -/
theorem runF_find {α : Type} {body : D → SS} {enc : α → D} {g : α → Option D} {R : Env → Store → Prop} {Q : Store → Prop} : ∀ {xs : List α} {env : Env} {S : Store},
    (∀ x env S, x ∈ xs → R env S → match g x with
      | none => ∃ env' S', body (enc x) env S = .nx env' S' ∧ R env' S'
      | some d => ∃ S', body (enc x) env S = .rt d S' ∧ Q S') → R env S →
    match xs.findSome? g with
      | none => ∃ env' S', runF body (xs.map enc) env S = .nx env' S' ∧ R env' S'
      | some d => ∃ S', runF body (xs.map enc) env S = .rt d S' ∧ Q S'
  | [], env, S, _, r => ⟨env, S, rfl, r⟩
  | x :: xs, env, S, h, r => by
    have h1 := h x env S List.mem_cons_self r
    rw [List.findSome?_cons]
    cases hg : g x with
    | some d =>
      rw [hg] at h1
      obtain ⟨S', e, q⟩ := h1
      exact ⟨S', by rw [List.map_cons]; unfold runF; rw [e], q⟩
    | none =>
      rw [hg] at h1
      obtain ⟨env1, S1, e, r1⟩ := h1
      have e2 : runF body ((x :: xs).map enc) env S = runF body (xs.map enc) env1 S1 := by
        rw [List.map_cons]
        show (match body (enc x) env S with
          | .nx e S1 => runF body (xs.map enc) e S1
          | .ct e S1 => runF body (xs.map enc) e S1
          | .bk e S1 => .nx e S1
          | r => r) = _
        rw [e]
      rw [e2]
      exact runF_find (fun y env S hy => h y env S (List.mem_cons_of_mem _ hy)) r1
end Mir
end

section
set_option Elab.async false
set_option linter.all false
set_option maxRecDepth 100000
/-! K75c: the first words. -/
namespace K75
open PySem PySem.Spec Mir
theorem dr : s__law_draw = sDrawB := rfl
@[simp] theorem p_is_integer (i : Int) (S : Store) : s_is_integer [.int i] S = .ok (.bl true) S := by
  simp [s_is_integer, b_is_integer, b_is_integer_1]
@[simp] theorem p_is_between (i a b : Int) (S : Store) : s_is_between [.int i, .int a, .int b] S = .ok (.bl (decide (a ≤ i) && decide (i ≤ b))) S := by
  simp [s_is_between, b_is_between, b_is_between_1]
  by_cases h : a ≤ i <;> simp [h]
end K75
end

section
set_option Elab.async false
set_option linter.all false
set_option maxRecDepth 100000
/-! MirU: rows that are drawn; sorted sets; turned rows. -/
namespace Mir
open PySem PySem.Spec
/-- a comprehension that draws each element -/
theorem runC_each {α β : Type} {f : D → Store → Out (Option D)} {enc : α → D} {ec : β → D} {P : Store → Prop} {Q : β → Prop} : ∀ {xs : List α} {S : Store},
    (∀ S x, x ∈ xs → P S → ∃ (b : β) (S' : Store), f (enc x) S = .ok (some (ec b)) S' ∧ P S' ∧ Q b) → P S → ∃ (zs : List β) (S' : Store), runC f (xs.map enc) S = .ok (zs.map ec) S' ∧ zs.length = xs.length ∧ (∀ z ∈ zs, Q z) ∧ P S'
  | [], S, _, p => ⟨[], S, rfl, rfl, fun _ h => absurd h (by simp), p⟩
  | x :: xs, S, h, p => by
    obtain ⟨b, S1, e1, p1, q1⟩ := h S x List.mem_cons_self p
    obtain ⟨zs, S2, e2, l2, q2, p2⟩ := runC_each (xs := xs) (fun S y hy => h S y (List.mem_cons_of_mem _ hy)) p1
    refine ⟨b :: zs, S2, ?_, by simp [l2], fun z hz => ?_, p2⟩
    · rw [List.map_cons]
      unfold runC
      rw [e1]
      dsimp only
      rw [e2]
      rfl
    · rcases List.mem_cons.mp hz with e | e
      · subst e; exact q1
      · exact q2 z e
theorem mSortSet_ints {a : SE} {env : Env} {S S1 : Store} {ns : List Int} (h : a env S = .ok (.lst (ns.map .int)) S1) (hl : ns.length < 64) : mSortSet false a env S = .ok (.lst ((sortI (once ns)).map .int)) S1 := by
  unfold mSortSet
  rw [h]
  have e : listInts S1 (.lst (ns.map .int)) = some ns := intsOf_map ns
  rw [bind_ok]
  simp only [e, mkL_f, if_pos hl]
theorem mRev_tup {a : SE} {mt : Bool} {env : Env} {S S1 : Store} {xs : List D} (h : a env S = .ok (.tup xs) S1) : mRev mt a env S = .ok (.tup xs.reverse) S1 := by
  unfold mRev
  rw [h]
  rfl
theorem ones_is {α : Type} (xs : List α) : (xs.map fun _ => D.int 1) = (xs.map fun _ => (1 : Int)).map D.int := by rw [List.map_map]; rfl
/-- `[1 for x in xs if ..] == []` -/
theorem runC_ones {α : Type} {f : D → Store → Out (Option D)} {enc : α → D} {S : Store} {c : α → Bool} {xs : List α} (h : ∀ x ∈ xs, f (enc x) S = .ok (if c x then some (.int 1) else none) S) : runC f (xs.map enc) S = .ok ((xs.filter c).map fun _ => D.int 1) S := by
  rw [runC_filter (ec := fun _ : Unit => D.int 1) (h := fun x => if c x then some () else none) (fun x hx => by rw [h x hx]; cases c x <;> rfl)]
  congr 1
  clear h
  induction xs with
  | nil => rfl
  | cons x xs ih =>
    rw [List.filterMap_cons, List.filter_cons]
    cases c x <;> simp_all
@[simp] theorem vEqS_ones {α : Type} (xs : List α) (S : Store) : vEqS (.lst (xs.map fun _ => D.int 1)) (.lst []) S = .ok (.bl xs.isEmpty) S := by
  rw [ones_is]
  refine (vEqS_lsts S _ []).trans ?_
  cases xs <;> simp
@[simp] theorem vNeS_ones {α : Type} (xs : List α) (S : Store) : vNeS (.lst (xs.map fun _ => D.int 1)) (.lst []) S = .ok (.bl !xs.isEmpty) S := by
  rw [ones_is]
  refine (vNeS_lsts S _ []).trans ?_
  cases xs <;> simp
@[simp] theorem vEqS_nn (S : Store) : vEqS (.lst []) (.lst []) S = .ok (.bl true) S := vEqS_lsts S [] []
@[simp] theorem vNeS_nn (S : Store) : vNeS (.lst []) (.lst []) S = .ok (.bl false) S := vNeS_lsts S [] []
theorem filter_isEmpty {α : Type} (c : α → Bool) (xs : List α) : (xs.filter c).isEmpty = xs.all fun x => !c x := by
  induction xs with
  | nil => rfl
  | cons x xs ih =>
    rw [List.filter_cons, List.all_cons, ← ih]
    cases c x <;> simp
@[simp] theorem filter_ff {α : Type} (xs : List α) : (xs.filter fun _ => false) = [] := by simp
theorem all_tt {α : Type} (l : List α) : l.all (fun _ => true) = true := List.all_eq_true.mpr fun _ _ => rfl
end Mir
end

section
set_option Elab.async false
set_option linter.all false
set_option maxRecDepth 100000
/-! MirW: while loops; dicts asked; shifts and signs of numbers. -/
namespace Mir
open PySem PySem.Spec
/-- a loop in plain words: step by step till it is through -/
def loopO {α : Type} (step : α → Option α) : Nat → α → Option α
  | 0, _ => none
  | n + 1, a => match step a with
    | none => some a
    | some b => loopO step n b
theorem while_loop {α : Type} {t : ST} {body : SS} {step : α → Option α} {R : α → Env → Store → Prop}
    (h : ∀ (a : α) (env : Env) (S : Store), R a env S → match step a with
      | none => ∃ S1, t env S = .ok false S1 ∧ R a env S1
      | some b => ∃ S1, t env S = .ok true S1 ∧ ∃ env' S', body env S1 = .nx env' S' ∧ R b env' S') : ∀ {n : Nat} {a b : α} {env : Env} {S : Store}, R a env S → loopO step n a = some b → ∃ env' S', whileL t body n env S = .nx env' S' ∧ R b env' S'
  | 0, a, b, env, S, _, e => by cases e
  | n + 1, a, b, env, S, r, e => by
    have h1 := h a env S r
    unfold loopO at e
    cases hs : step a with
    | none =>
      rw [hs] at e h1
      cases e
      obtain ⟨S1, e1, r1⟩ := h1
      refine ⟨env, S1, ?_, r1⟩
      unfold whileL
      rw [e1]
    | some c =>
      rw [hs] at e h1
      obtain ⟨S1, e1, env', S', e2, r2⟩ := h1
      obtain ⟨env2, S2, e3, r3⟩ := while_loop h r2 e
      refine ⟨env2, S2, ?_, r3⟩
      unfold whileL
      rw [e1]
      dsimp only
      rw [e2]
      exact e3
@[simp] theorem vXor_int (i j : Int) (S : Store) : vXor (.int i) (.int j) S = .ok (.int (Builtin.bitXor i j)) S := (rfl)
@[simp] theorem vAnd_int (i j : Int) (S : Store) : vAnd (.int i) (.int j) S = .ok (.int (Builtin.bitAnd i j)) S := (rfl)
theorem vIn_dic (n : Nat) (ks : List Int) (x : Int) (S : Store) (hn : S[n]? = some (.dic false (ikv ks))) : vIn (.int x) (.ref n) S = .ok (.bl (decide (x ∈ ks))) S := by
  have e : inB S (.int x) (.ref n) = some (decide (x ∈ ks)) := by
    have l : (dLook false (ikv ks) (.int x)).isSome = decide (x ∈ ks) := by
      unfold dLook
      simp only [Option.isSome_map]
      exact ikv_find ks x
    unfold inB
    simp only [hn]
    rw [l]
    rfl
  show vCmp (fun a b S => inB S a b) _ _ S = _
  unfold vCmp
  dsimp only
  rw [e]
end Mir
end

section
set_option Elab.async false
set_option linter.all false
set_option maxRecDepth 100000
/-! K75k: the numbers of rows. -/
namespace K75
open PySem PySem.Spec Mir
abbrev xr (i j : Int) : Int := Builtin.bitXor i j
/-- what a row of this size can become -/
def ableM (f : List Int) (size many : Nat) : List Int := (List.range (size + 1 - many)).map fun i => xr (f.getD i 0) (f.getD (size - many - i) 0)
def ableP (f : List Int) (size : Nat) : List Int := ableM f size 1 ++ ableM f size 2
def mexGo (ks : List Int) : Nat → Int → Int
  | 0, x => x
  | n + 1, x => if x ∈ ks then mexGo ks n (x + 1) else x
def mexP (ks : List Int) : Int := mexGo ks (ks.length + 1) 0
def numsP : Nat → List Int
  | 0 => [0]
  | n + 1 => numsP n ++ [mexP (ableP (numsP n) (n + 1))]
@[simp] theorem numsP_len : ∀ n, (numsP n).length = n + 1
  | 0 => rfl
  | n + 1 => by unfold numsP; rw [List.length_append, numsP_len n]; rfl
theorem least_of {P : Nat → Prop} : ∀ n : Nat, P n → ∃ m, m ≤ n ∧ P m ∧ ∀ z, z < m → ¬ P z := by
  intro n
  induction n using Nat.strongRecOn with
  | _ n ih =>
    intro h
    rcases Classical.em (∃ z, z < n ∧ P z) with ⟨z, hz, hp⟩ | q
    · obtain ⟨m, h1, h2⟩ := ih z hz hp
      exact ⟨m, by omega, h2⟩
    · exact ⟨n, Nat.le_refl _, h, fun z hz hp => q ⟨z, hz, hp⟩⟩
theorem mex_at (ks : List Int) : ∃ m : Nat, m ≤ ks.length ∧ (m : Int) ∉ ks ∧ ∀ z : Nat, z < m → (z : Int) ∈ ks := by
  have q : ∃ n : Nat, n ≤ ks.length ∧ (n : Int) ∉ ks := by
    rcases Classical.em (∃ n : Nat, n ≤ ks.length ∧ (n : Int) ∉ ks) with h | h
    · exact h
    · have nd : (rg (ks.length + 1)).Nodup := by
        unfold rg
        refine (List.pairwise_map.mpr (List.pairwise_lt_range.imp fun h => ?_))
        omega
      have := List.Nodup.length_le_of_subset nd (l₂ := ks) (fun x hx => by
        obtain ⟨h0, h1⟩ := mem_rg.mp hx
        rcases Classical.em (x ∈ ks) with y | y
        · exact y
        · exact absurd ⟨x.toNat, by omega, by rw [show ((x.toNat : Nat) : Int) = x by omega]; exact y⟩ h)
      rw [rg_len] at this
      omega
  obtain ⟨n, hn, hp⟩ := q
  obtain ⟨m, h1, h2, h3⟩ := least_of (P := fun n : Nat => (n : Int) ∉ ks) n hp
  exact ⟨m, by omega, h2, fun z hz => Classical.not_not.mp (h3 z hz)⟩
theorem mexGo_at (ks : List Int) : ∀ (d n : Nat) (x : Int), d ≤ n → (∀ z : Nat, z < d → x + (z : Int) ∈ ks) → x + (d : Int) ∉ ks → mexGo ks n x = x + d
  | 0, n, x, _, _, h => by
    cases n with
    | zero => simp [mexGo]
    | succ n =>
      unfold mexGo
      rw [if_neg (by simpa using h)]
      simp
  | d + 1, 0, x, hn, _, _ => absurd hn (by omega)
  | d + 1, n + 1, x, hn, h, h2 => by
    unfold mexGo
    rw [if_pos (by simpa using h 0 (by omega))]
    have := mexGo_at ks d n (x + 1) (by omega) (fun z hz => by
      have := h (z + 1) (by omega)
      rwa [show x + ((z + 1 : Nat) : Int) = x + 1 + (z : Int) by push_cast; omega] at this) (by rwa [show x + ((d + 1 : Nat) : Int) = x + 1 + (d : Int) by push_cast; omega] at h2)
    rw [this]
    push_cast
    omega
theorem mex_is (ks : List Int) : ∃ m : Nat, mexP ks = (m : Int) ∧ m ≤ ks.length ∧ (m : Int) ∉ ks ∧ ∀ z : Nat, z < m → (z : Int) ∈ ks := by
  obtain ⟨m, h1, h2, h3⟩ := mex_at ks
  refine ⟨m, ?_, h1, h2, h3⟩
  have := mexGo_at ks m (ks.length + 1) 0 (by omega) (fun z hz => by simpa using h3 z hz) (by simpa using h2)
  unfold mexP
  rw [this]
  simp
def mexStep (us : List Int) (x : Int) : Option Int := if x ∈ us then some (x + 1) else none
theorem mexStep_at (us : List Int) : ∀ (d n : Nat) (x : Int), d < n → (∀ z : Nat, z < d → x + (z : Int) ∈ us) → x + (d : Int) ∉ us → loopO (mexStep us) n x = some (x + d)
  | 0, 0, _, h, _, _ => absurd h (by omega)
  | 0, n + 1, x, _, _, h => by
    unfold loopO mexStep
    rw [if_neg (by simpa using h)]
    simp
  | d + 1, 0, x, hn, _, _ => absurd hn (by omega)
  | d + 1, n + 1, x, hn, h, h2 => by
    unfold loopO
    have e : mexStep us x = some (x + 1) := by unfold mexStep; rw [if_pos (by simpa using h 0 (by omega))]
    rw [e]
    dsimp only
    have := mexStep_at us d n (x + 1) (by omega) (fun z hz => by
      have := h (z + 1) (by omega)
      rwa [show x + ((z + 1 : Nat) : Int) = x + 1 + (z : Int) by push_cast; omega] at this) (by rwa [show x + ((d + 1 : Nat) : Int) = x + 1 + (d : Int) by push_cast; omega] at h2)
    rw [this]
    congr 1
    push_cast
    omega
/-- the mex's loop ends in time -/
theorem mex_loop {ks us : List Int} (hk : ∀ x, x ∈ us ↔ x ∈ ks) (hl : ks.length < 1000) : loopO (mexStep us) 1000 0 = some (mexP ks) := by
  obtain ⟨m, e, h1, h2, h3⟩ := mex_is ks
  rw [e]
  have := mexStep_at us m 1000 0 (by omega) (fun z hz => by rw [hk]; simpa using h3 z hz) (by rw [hk]; simpa using h2)
  simpa using this
theorem mem_dins (x : Int) : ∀ (xs ks : List Int), x ∈ xs.foldl dins ks ↔ x ∈ ks ∨ x ∈ xs
  | [], ks => by simp
  | y :: xs, ks => by
    rw [List.foldl_cons, mem_dins x xs (dins ks y), List.mem_cons]
    unfold dins
    split
    · rename_i h
      constructor
      · rintro (a | a)
        · exact .inl a
        · exact .inr (.inr a)
      · rintro (a | a | a)
        · exact .inl a
        · subst a; exact .inl h
        · exact .inr a
    · simp [or_assoc]
theorem set_same {S : Store} {d : Nat} {o : Ob} (h : S[d]? = some o) : S.set d o = S := by
  apply List.ext_getElem?
  intro i
  by_cases e : d = i
  · subst e; rw [List.getElem?_set_self (List.getElem?_eq_some_iff.mp h).1, h]
  · rw [List.getElem?_set_ne e]
theorem able_len (f : List Int) (size : Nat) : (ableP f size).length ≤ 2 * size := by
  unfold ableP ableM
  simp
  omega
theorem ableM_len (f : List Int) (size m : Nat) : (ableM f size m).length = size + 1 - m := by simp [ableM]
theorem able_go (n : Int) (m size : Nat) (hm : 1 ≤ m) (hm2 : m ≤ 2) (h1 : 1 ≤ size) (h2 : size ≤ 300) (f : List Int) (hf : f.length = size) (ks : List Int) (hk : ks.length ≤ 1000) (a d : Nat) (o5 o6 : Option D) (S0 : Store)
    (ha : S0[a]? = some (.lst (f.map .int))) (hd : S0[d]? = some (.dic false (ikv ks))) (ne : a ≠ d) :
    ∃ o5', b_all_numbers_2 [some (.int n), some (.ref a), some (.int size), some (.ref d), some (.int m), o5, o6] S0 =
      .nx [some (.int n), some (.ref a), some (.int size), some (.ref d), some (.int m), o5', o6] (S0.set d (.dic false (ikv ((ableM f size m).foldl dins ks)))) := by
  have rl : ((size : Int) - m + 1).toNat = size + 1 - m := by omega
  have hdl : d < S0.length := (List.getElem?_eq_some_iff.mp hd).1
  simp [b_all_numbers_2, show (-4611686018427387904 : Int) ≤ (size : Int) - m + 1 by omega, show (size : Int) - m + 1 < 4611686018427387904 by omega, rl]
  generalize hx : runF _ _ _ _ = fl
  obtain ⟨env, S', rfl, o5', rfl, rfl⟩ := runF_ix hx (R := fun k env S' => ∃ o5, env = [some (.int n), some (.ref a), some (.int size), some (.ref d), some (.int m), o5, o6] ∧ S' = S0.set d (.dic false (ikv (((ableM f size m).take k).foldl dins ks))))
    (fun P hP k env S' hk ⟨o5, e1, e2⟩ => by
      subst e1 e2
      rw [rg_len] at hk
      have tk : ((ableM f size m).take (k + 1)).foldl dins ks = dins (((ableM f size m).take k).foldl dins ks) (xr (f.getD k 0) (f.getD (size - m - k) 0)) := by
        rw [← List.take_append_getElem (by rw [ableM_len]; exact hk), List.foldl_append]
        simp [ableM]
      have fin := hP (k + 1)
      rw [tk] at fin
      have kl : (((ableM f size m).take k).foldl dins ks).length ≤ 16000000 := by
        have := dins_fold_len ((ableM f size m).take k) ks
        have : ((ableM f size m).take k).length ≤ 300 := by simp [ableM_len]; omega
        omega
      have gk : (rg (size + 1 - m))[k]'(by simpa using hk) = (k : Int) := by simp [rg]
      generalize (((ableM f size m).take k).foldl dins ks) = us at *
      have ha' : (S0.set d (.dic false (ikv us)))[a]? = some (.lst (f.map .int)) := by rw [List.getElem?_set_ne (Ne.symm ne)]; exact ha
      have hd' : (S0.set d (.dic false (ikv us)))[d]? = some (.dic false (ikv us)) := List.getElem?_set_self hdl
      have k1 : k < f.length := by omega
      have k2 : (size : Int) - m - k = ((size - m - k : Nat) : Int) := by omega
      have k3 : size - m - k < f.length := by omega
      rw [List.getD_eq_getElem?_getD, List.getD_eq_getElem?_getD, List.getElem?_eq_getElem k1, List.getElem?_eq_getElem k3] at fin
      simp [gk, b_all_numbers_1, ha', hd', k1, k2, k3, kl]
      exact fin _ _ ⟨_, rfl, by simp⟩) ⟨o5, rfl, by simp [set_same hd]⟩
  refine ⟨o5', ?_⟩
  rw [rg_len, List.take_of_length_le (by rw [ableM_len]; exact Nat.le_refl _)]
  simp
theorem runF_two {body : D → SS} {x y : D} {env e1 e2 : Mir.Env} {S S1 S2 : Store} (h1 : body x env S = .nx e1 S1) (h2 : body y e1 S1 = .nx e2 S2) : runF body [x, y] env S = .nx e2 S2 := by
  unfold runF
  rw [h1]
  dsimp only
  unfold runF
  rw [h2]
  rfl
theorem set_last (L : Store) (x y : Ob) : (L ++ [x]).set L.length y = L ++ [y] := by simp
/-- one number more -/
theorem number_go (n : Int) (k : Nat) (hk : k < 300) (f : List Int) (hf : f.length = k + 1) (a : Nat) (L : Store) (o3 o4 o5 o6 : Option D) (ha : L[a]? = some (.lst (f.map .int))) :
    ∃ o4' o5' us, b_all_numbers_8 [some (.int n), some (.ref a), some (.int (k + 1 : Nat)), o3, o4, o5, o6] L =
      .nx [some (.int n), some (.ref a), some (.int (k + 1 : Nat)), some (.ref L.length), o4', o5', some (.int (mexP (ableP f (k + 1))))] ((L ++ [Ob.dic false (ikv us)]).set a (.lst ((f ++ [mexP (ableP f (k + 1))]).map .int))) := by
  have hal : a < L.length := (List.getElem?_eq_some_iff.mp ha).1
  have ne : a ≠ L.length := by omega
  have l1 := ableM_len f (k + 1) 1
  have l2 := ableM_len f (k + 1) 2
  have at1 : ∀ x, (L ++ [x])[a]? = some (.lst (f.map .int)) := fun x => by rw [List.getElem?_append_left hal]; exact ha
  have at2 : ∀ x, (L ++ [x])[L.length]? = some x := fun x => by simp
  obtain ⟨o5a, e1⟩ := able_go n 1 (k + 1) (by omega) (by omega) (by omega) (by omega) f hf [] (by simp) a L.length o5 o6 (L ++ [.dic false []]) (at1 _) (at2 _) ne
  rw [set_last] at e1
  have d1 := dins_fold_len (ableM f (k + 1) 1) []
  obtain ⟨o5b, e2⟩ := able_go n 2 (k + 1) (by omega) (by omega) (by omega) (by omega) f hf ((ableM f (k + 1) 1).foldl dins []) (by simp at d1; omega) a L.length o5a o6 (L ++ [.dic false (ikv ((ableM f (k + 1) 1).foldl dins []))]) (at1 _) (at2 _) ne
  rw [set_last, ← List.foldl_append] at e2
  have mem : ∀ x, x ∈ (ableP f (k + 1)).foldl dins [] ↔ x ∈ ableP f (k + 1) := fun x => by simpa using mem_dins x (ableP f (k + 1)) []
  have al := able_len f (k + 1)
  have ml := mex_loop mem (by omega)
  have ab : ableM f (k + 1) 1 ++ ableM f (k + 1) 2 = ableP f (k + 1) := rfl
  rw [ab] at e2
  generalize (ableP f (k + 1)).foldl dins [] = us at *
  generalize mexP (ableP f (k + 1)) = mx at *
  refine ⟨some (.int 2), o5b, us, ?_⟩
  have r := runF_two (body := bodyF (gSet 4) b_all_numbers_2) (x := .int 1) (y := .int 2) (env := [some (.int n), some (.ref a), some (.int (k + 1 : Nat)), some (.ref L.length), o4, o5, o6]) (S := L ++ [.dic false []]) (by simpa using e1) (by simpa using e2)
  obtain ⟨env', S', w, rfl, rfl⟩ := while_loop (t := mTst (m2 vIn (mVar 6) (mVar 3))) (body := b_all_numbers_3) (step := mexStep us) (R := fun x env S => env = [some (.int n), some (.ref a), some (.int (k + 1 : Nat)), some (.ref L.length), some (.int 2), o5b, some (.int x)] ∧ S = L ++ [.dic false (ikv us)]) (fun x env S r => by
    obtain ⟨rfl, rfl⟩ := r
    have q := vIn_dic L.length us x (L ++ [.dic false (ikv us)]) (at2 _)
    unfold mexStep
    by_cases hx : x ∈ us
    · rw [if_pos hx]
      simp [q, hx, b_all_numbers_3]
    · rw [if_neg hx]
      simp [q, hx]) ⟨rfl, rfl⟩ ml
  have fl : f.length ≤ 16000000 := by omega
  simp at r w
  simp [b_all_numbers_8, r, b_all_numbers_7, b_all_numbers_6, b_all_numbers_5, w, b_all_numbers_4, at1, fl]
theorem p_all_numbers (n : Nat) (hn : n ≤ 300) (S : Store) : s_all_numbers [.int n] S = .ok (.lst ((numsP n).map .int)) S := by
  simp [s_all_numbers, b_all_numbers, b_all_numbers_11, b_all_numbers_10, show (-4611686018427387904 : Int) ≤ (n : Int) + 1 by omega, show (n : Int) + 1 < 4611686018427387904 by omega]
  generalize hx : runF _ _ _ _ = fl
  obtain ⟨env, S', rfl, o2, o3, o4, o5, o6, T, rfl, rfl⟩ := runF_ix hx (R := fun k env S' => ∃ o2 o3 o4 o5 o6 T, env = [some (.int n), some (.ref S.length), o2, o3, o4, o5, o6] ∧ S' = S ++ .lst ((numsP k).map .int) :: T)
    (fun P hP k env S' hk ⟨o2, o3, o4, o5, o6, T, e1, e2⟩ => by
      subst e1 e2
      rw [rgs_len] at hk
      have gk : (rgs 1 n)[k]'(by simpa using hk) = ((k + 1 : Nat) : Int) := by simp [rgs]; omega
      have fl := numsP_len k
      obtain ⟨o4', o5', us, e⟩ := number_go n k (by omega) (numsP k) (numsP_len k) S.length (S ++ .lst ((numsP k).map .int) :: T) o3 o4 o5 o6 (by simp)
      have fin := hP (k + 1)
      unfold numsP at fin
      simp [gk]
      simp at e
      rw [e]
      simp
      refine fin _ _ ⟨_, _, _, _, _, T ++ [.dic false (ikv us)], rfl, ?_⟩
      simp) ⟨none, none, none, none, none, [], rfl, rfl⟩
  rw [rgs_len]
  simp [b_all_numbers_9]
  have := fin_ref S ((numsP n).map D.int) (.lst ((numsP n).map .int) :: T) 0 rfl (by simp)
  simpa using this
end K75
end

section
set_option Elab.async false
set_option linter.all false
set_option maxRecDepth 100000
/-! K75s: what is told. -/
namespace K75
open PySem PySem.Spec Mir
theorem lam_told {rd : FSem} {w : Nat → Option Str} {pre : List D} {m : SE} {env : Mir.Env} {S S1 S2 : Store} {d d2 : D} (h : m env S = .ok d S1) (h2 : rd [d] S1 = .ok d2 S2) : mLam (.told rd w) pre m env S = .ok (.tup [.int 0, d2]) S2 := by
  unfold mLam LK.fin
  rw [h]
  dsimp only
  rw [h2]
theorem read_non (n : Nat) (S : Store) : s__law_read (n + 1) [.non] S = .ok .non S := by
  simp [s__law_read, b__law_read, b__law_read_9, b__law_read_1]
theorem read_bl (n : Nat) (b : Bool) (S : Store) : s__law_read (n + 1) [.bl b] S = .ok (.bl b) S := by
  cases b <;> simp [s__law_read, b__law_read, b__law_read_9, b__law_read_1]
theorem read_int (n : Nat) (i : Int) (S : Store) : s__law_read (n + 1) [.int i] S = .ok (.int i) S := by
  have v1 : ∀ b S, vIs (.int i) (.bl b) S = .ok (.bl false) S := fun b S => rfl
  simp [s__law_read, b__law_read, b__law_read_9, b__law_read_8, b__law_read_2, v1]
theorem read_tup (n : Nat) (xs : List Int) (S : Store) (h : xs.length ≤ 16777216) : s__law_read (n + 2) [.tup (xs.map .int)] S = .ok (.tup (xs.map .int)) S := by
  have v1 : ∀ b S, vIs (.tup (xs.map .int)) (.bl b) S = .ok (.bl false) S := fun b S => rfl
  rw [s__law_read]
  simp [b__law_read, b__law_read_9, b__law_read_8, b__law_read_7, b__law_read_6, b__law_read_4, v1, h]
  rw [runC_pure (h := fun x => x) (ec := D.int) (fun x hx => by simp [read_int n x])]
  simp
end K75
end

section
set_option Elab.async false
set_option linter.all false
set_option maxRecDepth 100000
/-! K75m: the numbers' table. -/
namespace K75
open PySem PySem.Spec Mir
/-! ### the same, by two lists side by side, and marks -/
def marks : List Nat → List Nat → Nat → Nat
  | a :: f, b :: r, m => marks f r (m ||| (1 <<< (a ^^^ b)))
  | _, _, m => m
def mexM : Nat → Nat → Nat → Nat
  | 0, x, _ => x
  | n + 1, x, m => if (m >>> x) % 2 = 1 then mexM n (x + 1) m else x
def fastN : Nat → List Nat → List Nat → Option (List Nat)
  | 0, f, _ => some f
  | n + 1, f, r =>
    let x := mexM 16 0 (marks f r.tail (marks f r 0))
    if x < 16 then fastN n (f ++ [x]) (x :: r) else none
theorem marks_bit : ∀ (f r : List Nat) (m y : Nat), (marks f r m).testBit y = (m.testBit y || decide (y ∈ List.zipWith (· ^^^ ·) f r))
  | [], r, m, y => by simp [marks]
  | a :: f, [], m, y => by simp [marks]
  | a :: f, b :: r, m, y => by
    unfold marks
    rw [marks_bit f r, Nat.testBit_or, Nat.one_shiftLeft, Nat.testBit_two_pow]
    rw [List.zipWith_cons_cons, Bool.or_assoc]
    congr 1
    rw [Bool.eq_iff_iff]
    simp only [Bool.or_eq_true, decide_eq_true_eq, List.mem_cons]
    constructor
    · rintro (e | e)
      · exact .inl e.symm
      · exact .inr e
    · rintro (e | e)
      · exact .inl e.symm
      · exact .inr e
theorem bit_is (m x : Nat) : (m >>> x) % 2 = 1 ↔ m.testBit x = true := by
  unfold Nat.testBit
  rw [Nat.one_and_eq_mod_two]
  simp
theorem mexM_at : ∀ (n x m : Nat), mexM n x m < x + n → x ≤ mexM n x m ∧ m.testBit (mexM n x m) = false ∧ ∀ z, x ≤ z → z < mexM n x m → m.testBit z = true
  | 0, x, m, h => absurd h (by unfold mexM; omega)
  | n + 1, x, m, h => by
    unfold mexM at h ⊢
    by_cases q : (m >>> x) % 2 = 1
    · rw [if_pos q] at h ⊢
      obtain ⟨h1, h2, h3⟩ := mexM_at n (x + 1) m (by omega)
      refine ⟨by omega, h2, fun z hz hz2 => ?_⟩
      by_cases e : z = x
      · subst e; exact (bit_is m z).mp q
      · exact h3 z (by omega) hz2
    · rw [if_neg q] at h ⊢
      refine ⟨Nat.le_refl _, ?_, fun z h1 h2 => absurd h2 (by omega)⟩
      rw [bit_is] at q
      simpa using q
theorem xr_small : ∀ a : Fin 16, ∀ b : Fin 16, xr (a.val : Int) (b.val : Int) = ((a.val ^^^ b.val : Nat) : Int) := by decide +kernel
def up (f : List Nat) : List Int := f.map fun a : Nat => (a : Int)
theorem zip_up : ∀ {f r : List Nat}, (∀ a ∈ f, a < 16) → (∀ a ∈ r, a < 16) → List.zipWith xr (up f) (up r) = up (List.zipWith (· ^^^ ·) f r)
  | [], _, _, _ => by simp [up]
  | _ :: _, [], _, _ => by simp [up]
  | a :: f, b :: r, h1, h2 => by
    have := zip_up (f := f) (r := r) (fun x hx => h1 x (List.mem_cons_of_mem _ hx)) (fun x hx => h2 x (List.mem_cons_of_mem _ hx))
    show xr (a : Int) (b : Int) :: List.zipWith xr (up f) (up r) = ((a ^^^ b : Nat) : Int) :: up (List.zipWith (· ^^^ ·) f r)
    rw [this, xr_small ⟨a, h1 a List.mem_cons_self⟩ ⟨b, h2 b List.mem_cons_self⟩]
theorem mem_up {f : List Nat} {y : Nat} : (y : Int) ∈ up f ↔ y ∈ f := by
  unfold up
  rw [List.mem_map]
  constructor
  · rintro ⟨a, ha, e⟩
    have : a = y := by omega
    subst this; exact ha
  · exact fun h => ⟨y, h, rfl⟩
theorem able_zip (f : List Int) (hf : 0 < f.length) : ableP f f.length = List.zipWith xr f f.reverse ++ List.zipWith xr f f.reverse.tail := by
  unfold ableP
  congr 1
  · apply List.ext_getElem
    · simp [ableM]
    · intro i h1 h2
      have hi : i < f.length := by simpa [ableM] using h1
      simp [ableM, hi, show f.length - 1 - i < f.length by omega]
  · apply List.ext_getElem
    · simp [ableM]
    · intro i h1 h2
      have hi : i < f.length + 1 - 2 := by simpa [ableM] using h1
      have e1 : i < f.length := by omega
      have e2 : f.length - 2 - i < f.length := by omega
      have e3 : f.length - 1 - 1 - i = f.length - 2 - i := by omega
      simp [ableM, e1, e2, e3]
theorem fast_step {f : List Nat} (hf : 0 < f.length) (hb : ∀ a ∈ f, a < 16) (hx : mexM 16 0 (marks f f.reverse.tail (marks f f.reverse 0)) < 16) : mexP (ableP (up f) f.length) = ((mexM 16 0 (marks f f.reverse.tail (marks f f.reverse 0)) : Nat) : Int) := by
  obtain ⟨_, h2, h3⟩ := mexM_at 16 0 _ (by rw [Nat.zero_add]; exact hx)
  generalize mexM 16 0 (marks f f.reverse.tail (marks f f.reverse 0)) = x at *
  have bit : ∀ y, (marks f f.reverse.tail (marks f f.reverse 0)).testBit y = decide ((y : Int) ∈ ableP (up f) f.length) := fun y => by
    have l : (up f).length = f.length := by simp [up]
    have := able_zip (up f) (by omega)
    rw [l] at this
    have r1 : (up f).reverse = up f.reverse := by simp [up]
    have r2 : (up f).reverse.tail = up f.reverse.tail := by simp [up]
    rw [this, r2, r1, zip_up hb (fun a ha => hb a (by simpa using ha)), zip_up hb (fun a ha => hb a (by simpa using List.mem_of_mem_tail ha)), marks_bit, marks_bit, Nat.zero_testBit, Bool.false_or, Bool.eq_iff_iff]
    simp only [Bool.or_eq_true, decide_eq_true_eq, List.mem_append, mem_up]
  obtain ⟨m, e, h4, h5, h6⟩ := mex_is (ableP (up f) f.length)
  rw [e]
  rw [bit] at h2
  have h2 : (x : Int) ∉ ableP (up f) f.length := by simpa using h2
  congr 1
  rcases Nat.lt_trichotomy m x with q | q | q
  · have := h3 m (by omega) q
    rw [bit] at this
    exact absurd (of_decide_eq_true this) h5
  · exact q
  · exact absurd (h6 x q) h2
theorem fast_is : ∀ (n k : Nat) (f t : List Nat), numsP k = up f → (∀ a ∈ f, a < 16) → fastN n f f.reverse = some t → numsP (k + n) = up t
  | 0, k, f, t, h, _, e => by
    cases (show some f = some t from e)
    exact h
  | n + 1, k, f, t, h, hb, e => by
    unfold fastN at e
    dsimp only at e
    split at e
    · rename_i hx
      have l : f.length = k + 1 := by
        have := congrArg List.length h
        simpa [up] using this.symm
      have st := fast_step (f := f) (by omega) hb hx
      generalize mexM 16 0 (marks f f.reverse.tail (marks f f.reverse 0)) = x at *
      have := fast_is n (k + 1) (f ++ [x]) t (by
        show numsP k ++ [mexP (ableP (numsP k) (k + 1))] = _
        rw [h, ← l, st]
        simp [up]) (fun a ha => by
        rcases List.mem_append.mp ha with ha | ha
        · exact hb a ha
        · rw [List.mem_singleton.mp ha]; exact hx) (by simpa using e)
      rw [← this]
      congr 1
      omega
    · cases e
def tblOk : Option (List Nat) → Bool
  | some t => ((List.range 200).all fun k => (t.getD (72 + k) 0 == t.getD (84 + k) 0) && !(t.getD (72 + k) 0 == 0)) && (t.take 10 == [0, 1, 2, 3, 1, 4, 3, 2, 1, 4])
  | none => false
theorem tbl_ok : tblOk (fastN 283 [0] [0]) = true := by decide +kernel
theorem nums_pre : ∀ (m k : Nat), (numsP k) = (numsP (k + m)).take (k + 1)
  | 0, k => by rw [List.take_of_length_le (by simp)]; rfl
  | m + 1, k => by
    have e : numsP (k + (m + 1)) = numsP (k + m) ++ [mexP (ableP (numsP (k + m)) (k + m + 1))] := rfl
    rw [e, List.take_append_of_le_length (by simp)]
    exact nums_pre m k
/-- the number of a row -/
def rowP (n : Nat) : Int := (numsP n).getD n 0
theorem table_ex : ∃ t : List Nat, numsP 283 = up t ∧ tblOk (some t) = true := by
  have h := tbl_ok
  cases e : fastN 283 [0] [0] with
  | none => rw [e] at h; cases h
  | some t =>
    rw [e] at h
    have := fast_is 283 0 [0] t rfl (by simp) e
    exact ⟨t, this, h⟩
theorem row_table {t : List Nat} (e : numsP 283 = up t) (n : Nat) (h : n ≤ 283) : rowP n = ((t.getD n 0 : Nat) : Int) := by
  have l : t.length = 284 := by
    have := congrArg List.length e
    rw [numsP_len] at this
    simpa [up] using this.symm
  unfold rowP
  rw [nums_pre (283 - n) n, show n + (283 - n) = 283 by omega, e]
  have hn : n < t.length := by omega
  simp [List.getD_eq_getElem?_getD, List.getElem?_take, up, hn]
theorem nums9 : numsP 9 = [0, 1, 2, 3, 1, 4, 3, 2, 1, 4] := by
  obtain ⟨t, e, h⟩ := table_ex
  have h := (Bool.and_eq_true_iff.mp h).2
  rw [nums_pre 274 9, e, up, ← List.map_take, beq_iff_eq.mp h]
  rfl
theorem far_ok (k : Nat) (h : k < 200) : rowP (72 + k) = rowP (84 + k) ∧ rowP (72 + k) ≠ 0 := by
  obtain ⟨t, e, q⟩ := table_ex
  have q := List.all_eq_true.mp (Bool.and_eq_true_iff.mp q).1 k (List.mem_range.mpr h)
  rw [Bool.and_eq_true, Bool.not_eq_true', beq_iff_eq, beq_eq_false_iff_ne] at q
  rw [row_table e _ (by omega), row_table e _ (by omega)]
  omega
theorem p_row_number (n : Nat) (h : n ≤ 300) (S : Store) : s_row_number [.int n] S = .ok (.int (rowP n)) S := by
  have l := numsP_len n
  simp [s_row_number, b_row_number, b_row_number_3, b_row_number_2, h, show (n : Int) ≤ 300 by omega, p_all_numbers n h]
  unfold rowP
  have e : n < (numsP n).length := by omega
  simp [e]
theorem p_told_row (n : Nat) (h : n ≤ 300) (S : Store) : s__law_told_row [.int n] S = .ok (.tup [.int 0, .int (rowP n)]) S := by
  have c : (mCall s_row_number (mCons (mVar 0) mNil)) [some (.int n)] S = .ok (.int (rowP n)) S := by simp [p_row_number n h]
  have l : mLam lk__law_told [] (mCall s_row_number (mCons (mVar 0) mNil)) [some (.int n)] S = .ok (.tup [.int 0, .int (rowP n)]) S := lam_told (w := fun c => w__law_told[c]?) (pre := []) c (read_int 3 _ S)
  simp [s__law_told_row, b__law_told_row, b__law_told_row_1, l, lts, D.lt]
end K75
end

section
set_option Elab.async false
set_option linter.all false
set_option maxRecDepth 100000
/-! K75w: takings that win. -/
namespace K75
open PySem PySem.Spec Mir
/-- this taking leaves nothing -/
def hitP (t : Int) (n : Nat) (a m : Int) : Bool := decide (a + m ≤ n) && decide (xr (xr t (rowP n)) (xr (rowP a.toNat) (rowP ((n : Int) - a - m).toNat)) = 0)
def movesM (t : Int) (r : Int) (n : Nat) (a : Int) : List (List Int) := ([1, 2] : List Int).filterMap fun m => if hitP t n a m then some [r, a, m] else none
def movesA (t : Int) (r : Int) (n : Nat) : List (List Int) := (rg n).flatMap (movesM t r n)
def movesR (t : Int) : Int → List Nat → List (List Int)
  | _, [] => []
  | r, n :: ns => movesA t r n ++ movesR t (r + 1) ns
def totP (ns : List Nat) : Int := ns.foldl (fun t n => xr t (rowP n)) 0
def encN (n : Nat) : D := .int (n : Int)
def headD : Option (List Int) → D
  | none => .non
  | some r => encRow r
theorem nums_at {N n : Nat} (h : n ≤ N) : (numsP N).getD n 0 = rowP n := by
  unfold rowP
  rw [nums_pre (N - n) n, show n + (N - n) = N by omega]
  simp [List.getD_eq_getElem?_getD, List.getElem?_take]
theorem nums_get {N n : Nat} (h : n ≤ N) : (numsP N)[n]? = some (rowP n) := by
  have hl := numsP_len N
  have e := nums_at (N := N) (n := n) h
  rw [List.getD_eq_getElem?_getD, List.getElem?_eq_getElem (by omega)] at e
  have e : (numsP N)[n] = rowP n := e
  rw [List.getElem?_eq_getElem (by omega), e]
theorem nums_ix {N : Nat} {i : Int} (h0 : 0 ≤ i) (h : i ≤ N) : L2.atI ((numsP N).map D.int) i = some (.int (rowP i.toNat)) := by
  have hl := numsP_len N
  have e := nums_at (N := N) (n := i.toNat) (by omega)
  rw [List.getD_eq_getElem?_getD, List.getElem?_eq_getElem (by omega)] at e
  have e : (numsP N)[i.toNat] = rowP i.toNat := e
  rw [atI_nn _ h0, List.getElem?_map, List.getElem?_eq_getElem (by omega), e]
  rfl
/-- one and two nights from here -/
theorem many_find (N n : Nat) (hn : n ≤ N) (t r a : Int) (ha : 0 ≤ a) (rowsD : D) (o6 o7 : Option D) (S : Store) :
    match ([1, 2] : List Int).findSome? (fun m => if hitP t n a m then some (encRow [r, a, m]) else none) with
    | none => ∃ env' S', runF (bodyF (gSet 6) b_winning_7) (([1, 2] : List Int).map D.int) [some rowsD, some (.int n), some (.lst ((numsP N).map .int)), some (.int t), some (.int r), some (.int a), o6, o7] S = .nx env' S' ∧ (∃ o6 o7, env' = [some rowsD, some (.int n), some (.lst ((numsP N).map .int)), some (.int t), some (.int r), some (.int a), o6, o7]) ∧ S' = S
    | some d => ∃ S', runF (bodyF (gSet 6) b_winning_7) (([1, 2] : List Int).map D.int) [some rowsD, some (.int n), some (.lst ((numsP N).map .int)), some (.int t), some (.int r), some (.int a), o6, o7] S = .rt d S' ∧ S' = S := by
  refine runF_find (R := fun env' S' => (∃ o6 o7, env' = [some rowsD, some (.int n), some (.lst ((numsP N).map .int)), some (.int t), some (.int r), some (.int a), o6, o7]) ∧ S' = S) (Q := fun S' => S' = S) (fun m env S' hm hR => ?_) ⟨⟨_, _, rfl⟩, rfl⟩
  obtain ⟨⟨o6, o7, rfl⟩, rfl⟩ := hR
  have hm : m = 1 ∨ m = 2 := by simpa using hm
  have h1 := nums_get hn
  by_cases h : a + m ≤ n
  · have h2 := nums_ix (N := N) (i := a) ha (by omega)
    have h3 := nums_ix (N := N) (i := (n : Int) - a - m) (by omega) (by omega)
    simp [hitP, h, b_winning_7, b_winning_6, b_winning_5, h2, h3, b_winning_4, encRow, h1]
    by_cases q : xr (xr t (rowP n)) (xr (rowP a.toNat) (rowP ((n : Int) - a - m).toNat)) = 0
    · simp [q]
    · simp [q]
  · simp [hitP, h, b_winning_7]
theorem head_moves (t : Int) (n : Nat) (r a : Int) : (movesM t r n a).head?.map encRow = ([1, 2] : List Int).findSome? (fun m => if hitP t n a m then some (encRow [r, a, m]) else none) := by
  unfold movesM
  cases h1 : hitP t n a 1 <;> cases h2 : hitP t n a 2 <;> simp [h1, h2]
theorem headA (t : Int) (n : Nat) (r : Int) : (movesA t r n).head?.map encRow = (rg n).findSome? fun a => (movesM t r n a).head?.map encRow := by
  unfold movesA
  generalize rg n = l
  induction l with
  | nil => rfl
  | cons a l ih =>
    rw [List.flatMap_cons, List.head?_append, List.findSome?_cons, ← ih]
    cases (movesM t r n a).head? <;> simp
theorem first_find (N n : Nat) (hn : n ≤ N) (hN : N ≤ 300) (t r : Int) (rowsD : D) (o5 o6 o7 : Option D) (S : Store) :
    match (movesA t r n).head?.map encRow with
    | none => ∃ env' S', runF (bodyF (gSet 5) b_winning_8) ((rg n).map D.int) [some rowsD, some (.int n), some (.lst ((numsP N).map .int)), some (.int t), some (.int r), o5, o6, o7] S = .nx env' S' ∧ (∃ o5 o6 o7, env' = [some rowsD, some (.int n), some (.lst ((numsP N).map .int)), some (.int t), some (.int r), o5, o6, o7]) ∧ S' = S
    | some d => ∃ S', runF (bodyF (gSet 5) b_winning_8) ((rg n).map D.int) [some rowsD, some (.int n), some (.lst ((numsP N).map .int)), some (.int t), some (.int r), o5, o6, o7] S = .rt d S' ∧ S' = S := by
  rw [headA]
  refine runF_find (R := fun env' S' => (∃ o5 o6 o7, env' = [some rowsD, some (.int n), some (.lst ((numsP N).map .int)), some (.int t), some (.int r), o5, o6, o7]) ∧ S' = S) (Q := fun S' => S' = S) (fun a env S' ha hR => ?_) ⟨⟨_, _, _, rfl⟩, rfl⟩
  obtain ⟨⟨o5, o6, o7, rfl⟩, rfl⟩ := hR
  have ha := (mem_rg.mp ha).1
  have k := many_find N n hn t r a ha rowsD o6 o7 S'
  rw [← head_moves] at k
  cases hd : (movesM t r n a).head?.map encRow with
  | none =>
    rw [hd] at k
    obtain ⟨env', S'', e, ⟨o6, o7, rfl⟩, rfl⟩ := k
    have e : runF (bodyF (gSet 6) b_winning_7) [.int 1, .int 2] _ _ = _ := e
    simp [b_winning_8, e]
  | some d =>
    rw [hd] at k
    obtain ⟨S'', e, rfl⟩ := k
    have e : runF (bodyF (gSet 6) b_winning_7) [.int 1, .int 2] _ _ = _ := e
    simp [b_winning_8, e]
def encE (q : Nat × Nat) : D := .tup [.int q.1, .int q.2]
def enumN : Nat → List Nat → List (Nat × Nat)
  | _, [] => []
  | r, n :: ns => (r, n) :: enumN (r + 1) ns
theorem enumD_nat : ∀ (r : Nat) (ns : List Nat), enumD r (ns.map encN) = (enumN r ns).map encE
  | _, [] => rfl
  | r, n :: ns => by
    show enumE r (encN n) :: enumD (r + 1) (ns.map encN) = encE (r, n) :: (enumN (r + 1) ns).map encE
    rw [enumD_nat (r + 1) ns]
    rfl
theorem headR (t : Int) : ∀ (ns : List Nat) (r : Nat), (movesR t r ns).head?.map encRow = (enumN r ns).findSome? fun q => (movesA t q.1 q.2).head?.map encRow
  | [], _ => rfl
  | n :: ns, r => by
    unfold movesR enumN
    rw [List.head?_append, List.findSome?_cons]
    have := headR t ns (r + 1)
    rw [show ((r + 1 : Nat) : Int) = (r : Int) + 1 by push_cast; rfl] at this
    rw [← this]
    cases (movesA t r n).head? <;> simp
theorem enumN_mem : ∀ {ns : List Nat} {r : Nat} {q : Nat × Nat}, q ∈ enumN r ns → q.2 ∈ ns
  | [], _, _, h => by cases h
  | n :: ns, r, q, h => by
    unfold enumN at h
    rcases List.mem_cons.mp h with rfl | h
    · exact List.mem_cons_self
    · exact List.mem_cons_of_mem _ (enumN_mem h)
theorem encN_up (ns : List Nat) : ns.map encN = (up ns).map .int := by
  unfold up
  rw [List.map_map]
  rfl
theorem max_ex (ns : List Nat) (hb : ∀ n ∈ ns, n ≤ 300) (S : Store) : ∃ N : Nat, vMax2 [.tup (ns.map encN ++ [.int 0])] S = .ok (.int N) S ∧ N ≤ 300 ∧ ∀ n ∈ ns, n ≤ N := by
  have e : ns.map encN ++ [.int 0] = ((up ns) ++ [0]).map D.int := by rw [encN_up, List.map_append]; rfl
  rw [e]
  cases hq : up ns ++ [0] with
  | nil => simp at hq
  | cons x xs =>
    have mm := maxI_mem xs x
    have mg := maxI_ge xs x
    have v : vMax2 [.tup ((x :: xs).map D.int)] S = .ok (.int (maxI x xs)) S := by
      unfold vMax2
      simp only [intsOf_map]
    have z : (0 : Int) ∈ x :: xs := by rw [← hq]; simp
    have ge : ∀ y ∈ x :: xs, y ≤ maxI x xs := fun y hy => by
      rcases List.mem_cons.mp hy with rfl | hy
      · exact mg.1
      · exact mg.2 y hy
    have z0 := ge 0 z
    refine ⟨(maxI x xs).toNat, ?_, ?_, fun n hn => ?_⟩
    · rw [v, show (((maxI x xs).toNat : Nat) : Int) = maxI x xs by omega]
    · have mm : maxI x xs ∈ up ns ++ [0] := by rw [hq]; exact mm
      rcases List.mem_append.mp mm with h | h
      · unfold up at h
        obtain ⟨n, hn, e⟩ := List.mem_map.mp h
        have := hb n hn
        omega
      · rw [List.mem_singleton.mp h]; decide
    · have := ge (n : Int) (by rw [← hq]; exact List.mem_append_left _ (mem_up.mpr hn))
      omega
theorem p_winning (ns : List Nat) (hl : ns.length ≤ 8) (hb : ∀ n ∈ ns, n ≤ 300) (S : Store) : s_winning [.tup (ns.map encN)] S = .ok (headD (movesR (totP ns) 0 ns).head?) S := by
  obtain ⟨N, hN, hN2, hN3⟩ := max_ex ns hb S
  simp [s_winning, b_winning, b_winning_15, show ¬ (8 : Int) < ns.length by omega, b_winning_14, show ns.length ≤ 16777216 by omega]
  rw [runC_pure (enc := encN) (h := fun _ => true) (ec := D.bl) (fun n hn => by
    have := hb n hn
    simp [encN, show (n : Int) ≤ 300 by omega, this])]
  simp [all_tt, b_winning_13, show ns.length + 1 ≤ 16777216 by omega, hN, p_all_numbers N hN2, b_winning_12]
  generalize hx : runF _ _ _ _ = fl
  obtain ⟨env, S', rfl, ⟨o1, rfl⟩, rfl⟩ := runF_at hx (R := fun t env S' => (∃ o1, env = [some (.tup (ns.map encN)), o1, some (.lst ((numsP N).map .int)), some (.int t), none, none, none, none]) ∧ S' = S)
    (step := fun t n => xr t (rowP n)) (b := 0)
    (fun P hP t n env S' hn ⟨⟨o1, e1⟩, e2⟩ => by
      subst e1 e2
      have h1 := nums_get (hN3 n hn)
      simp [encN, b_winning_3, h1]
      exact hP _ _ _ ⟨⟨_, rfl⟩, rfl⟩) ⟨⟨_, rfl⟩, rfl⟩
  have tot : ns.foldl (fun t n => xr t (rowP n)) 0 = totP ns := rfl
  rw [tot]
  generalize totP ns = t
  have src : ∀ env, env[0]? = some (some (.tup (ns.map encN))) → (mEnumA (mCons (mVar 0) mNil)) env S' = .ok (.items ((enumN 0 ns).map encE)) S' := fun env he => by
    have e : (mCons (mVar 0) mNil) env S' = .ok [.tup (ns.map encN)] S' := by simp [he]
    unfold mEnumA
    rw [e]
    show Out.ok (Src.items (enumD 0 (ns.map encN))) S' = _
    rw [enumD_nat]
  have key := runF_find (body := bodyF (gTupD 2 (gMore (gSet 4) (gMore (gSet 1) gNone))) b_winning_9) (enc := encE) (g := fun q : Nat × Nat => (movesA t q.1 q.2).head?.map encRow) (xs := enumN 0 ns) (R := fun env' S'' => (∃ o1 o4 o5 o6 o7, env' = [some (.tup (ns.map encN)), o1, some (.lst ((numsP N).map .int)), some (.int t), o4, o5, o6, o7]) ∧ S'' = S') (Q := fun S'' => S'' = S')
    (env := [some (.tup (ns.map encN)), o1, some (.lst ((numsP N).map .int)), some (.int t), none, none, none, none]) (S := S') (fun q env S'' hq hR => by
      obtain ⟨⟨o1, o4, o5, o6, o7, rfl⟩, rfl⟩ := hR
      obtain ⟨r, n⟩ := q
      have hn := hN3 n (enumN_mem hq)
      have k := first_find N n hn hN2 t r (.tup (ns.map encN)) o5 o6 o7 S''
      dsimp only
      cases hd : (movesA t r n).head?.map encRow with
      | none =>
        rw [hd] at k
        obtain ⟨env', S3, e, ⟨o5, o6, o7, rfl⟩, rfl⟩ := k
        simp [encE, b_winning_9, show (-4611686018427387904 : Int) ≤ (n : Int) by omega, show (n : Int) < 4611686018427387904 by omega, e]
      | some d =>
        rw [hd] at k
        obtain ⟨S3, e, rfl⟩ := k
        simp [encE, b_winning_9, show (-4611686018427387904 : Int) ≤ (n : Int) by omega, show (n : Int) < 4611686018427387904 by omega, e]) ⟨⟨_, _, _, _, _, rfl⟩, rfl⟩
  have hr := headR t ns 0
  rw [show ((0 : Nat) : Int) = 0 from rfl] at hr
  rw [← hr] at key
  cases hd : (movesR t 0 ns).head? with
  | none =>
    rw [hd] at key
    obtain ⟨env', S3, e, ⟨o1, o4, o5, o6, o7, rfl⟩, rfl⟩ := key
    simp [b_winning_11, src, e, b_winning_10, headD]
  | some d =>
    rw [hd] at key
    obtain ⟨S3, e, rfl⟩ := key
    have l : ∀ k, lts k [encRow d] = true := fun k => by simp [lts, encRow, D.lt]
    simp [b_winning_11, src, e, headD, encRow]
end K75
end

section
set_option Elab.async false
set_option linter.all false
set_option maxRecDepth 100000
/-! K75x: takings that win, in plain words. -/
namespace K75
open PySem PySem.Spec Mir
theorem moveM_at {t r : Int} {n : Nat} {a : Int} {x : List Int} (h : x ∈ movesM t r n a) : ∃ m, x = [r, a, m] ∧ (m = 1 ∨ m = 2) ∧ hitP t n a m = true := by
  obtain ⟨m, hm, e⟩ := List.mem_filterMap.mp h
  split at e
  · rename_i hh
    exact ⟨m, (Option.some.inj e).symm, by simpa using hm, hh⟩
  · cases e
theorem moveA_at {t r : Int} {n : Nat} {x : List Int} (h : x ∈ movesA t r n) : ∃ a m, x = [r, a, m] ∧ (0 ≤ a ∧ a < n) ∧ (m = 1 ∨ m = 2) ∧ hitP t n a m = true := by
  obtain ⟨a, ha, h⟩ := List.mem_flatMap.mp h
  obtain ⟨m, e, h1, h2⟩ := moveM_at h
  exact ⟨a, m, e, mem_rg.mp ha, h1, h2⟩
theorem moveR_at {t : Int} : ∀ {ns : List Nat} {r : Int} {x : List Int}, x ∈ movesR t r ns → ∃ q n a m, x = [q, a, m] ∧ r ≤ q ∧ n ∈ ns ∧ (0 ≤ a ∧ a < n) ∧ (m = 1 ∨ m = 2) ∧ hitP t n a m = true
  | [], _, _, h => by cases h
  | n :: ns, r, x, h => by
    unfold movesR at h
    rcases List.mem_append.mp h with h | h
    · obtain ⟨a, m, e, h1, h2, h3⟩ := moveA_at h
      exact ⟨r, n, a, m, e, Int.le_refl _, List.mem_cons_self, h1, h2, h3⟩
    · obtain ⟨q, k, a, m, e, h0, h1, h2⟩ := moveR_at h
      exact ⟨q, k, a, m, e, by omega, List.mem_cons_of_mem _ h1, h2⟩
def Up (l : List (List Int)) : Prop := l.Pairwise fun x y => rLt y x = false
theorem lt3 {r a m r' a' m' : Int} (h : r < r' ∨ (r = r' ∧ (a < a' ∨ (a = a' ∧ m < m')))) : rLt [r', a', m'] [r, a, m] = false := by
  simp only [rLt]
  simp
  omega
theorem upM (t r : Int) (n : Nat) (a : Int) : Up (movesM t r n a) := by
  cases h1 : hitP t n a 1 <;> cases h2 : hitP t n a 2 <;> simp [movesM, Up, h1, h2, rLt]
theorem upA (t r : Int) (n : Nat) : Up (movesA t r n) := by
  unfold movesA Up
  rw [List.pairwise_flatMap]
  refine ⟨fun a _ => upM t r n a, ?_⟩
  unfold rg
  rw [List.pairwise_map]
  refine List.pairwise_lt_range.imp fun {i j} hij x hx y hy => ?_
  obtain ⟨m, rfl, _⟩ := moveM_at hx
  obtain ⟨m', rfl, _⟩ := moveM_at hy
  exact lt3 (.inr ⟨rfl, .inl (by omega)⟩)
theorem upR (t : Int) : ∀ (ns : List Nat) (r : Int), Up (movesR t r ns)
  | [], _ => .nil
  | n :: ns, r => by
    unfold movesR Up
    refine List.pairwise_append.mpr ⟨upA t r n, upR t ns (r + 1), fun x hx y hy => ?_⟩
    obtain ⟨a, m, rfl, _⟩ := moveA_at hx
    obtain ⟨q, k, a', m', rfl, h0, _⟩ := moveR_at hy
    exact lt3 (.inl (by omega))
theorem minR_head {x : List Int} : ∀ {xs : List (List Int)}, (∀ y ∈ xs, rLt y x = false) → minR x xs = x
  | [], _ => rfl
  | y :: xs, h => by
    unfold minR
    rw [List.foldl_cons, h y List.mem_cons_self]
    exact minR_head fun z hz => h z (List.mem_cons_of_mem _ hz)
theorem rowsOf_enc : ∀ rows : List (List Int), rowsOf (rows.map encRow) = some rows
  | [] => rfl
  | r :: rows => by
    have := rowsOf_enc rows
    unfold rowsOf at *
    rw [List.map_cons, List.mapM_cons, this]
    have e : rowOf (encRow r) = some r := intsOf_map r
    rw [e]
    rfl
theorem min_moves (t : Int) (ns : List Nat) (k : Nat) (S : Store) (hS : S[k]? = some (.lst ((movesR t 0 ns).map encRow))) (hn : movesR t 0 ns ≠ []) : vMin3 [.ref k] S = .ok (headD (movesR t 0 ns).head?) S := by
  have u := upR t ns 0
  cases h : movesR t 0 ns with
  | nil => exact absurd h hn
  | cons x xs =>
    rw [h] at hS u
    have l : Mir.listOf S (.ref k) = some ((x :: xs).map encRow) := by
      simp only [Mir.listOf, hS]
    unfold vMin3
    simp only [l]
    rw [rowsOf_enc]
    dsimp only
    rw [minR_head (List.pairwise_cons.mp u).1]
    rfl
/-! ### who wins -/
def rowC (n : Nat) : Int := ([0, 1, 2, 3, 1, 4, 3, 2, 1, 4] : List Int).getD n 0
theorem row_c {n : Nat} (h : n ≤ 9) : rowP n = rowC n := by
  have e := nums_at (N := 9) (n := n) h
  rw [nums9] at e
  exact e.symm
def hitC (t : Int) (n a m : Nat) : Bool := decide (a + m ≤ n) && decide (xr (xr t (rowC n)) (xr (rowC a) (rowC (n - a - m))) = 0)
theorem hit_c {t : Int} {n a m : Nat} (h : n ≤ 9) : hitP t n a m = hitC t n a m := by
  unfold hitP hitC
  by_cases q : a + m ≤ n
  · have q' : (a : Int) + m ≤ n := by omega
    rw [row_c h, row_c (show ((a : Int)).toNat ≤ 9 by omega), row_c (show ((n : Int) - a - m).toNat ≤ 9 by omega), show ((a : Int)).toNat = a by omega, show ((n : Int) - a - m).toNat = n - a - m by omega]
    simp [q, q']
  · have q' : ¬ (a : Int) + m ≤ n := by omega
    simp [q, q']
def anyHit (t : Int) (n : Nat) : Bool := (List.range n).any fun a => hitC t n a 1 || hitC t n a 2
theorem one_row : (List.range 10).all (fun n => (List.range 8).all fun t => (!(anyHit t n) || !(t == 0)) && (!decide (xr t (rowC n) < rowC n) || anyHit t n)) = true := by decide +kernel
theorem row_small {n : Nat} (h : n ≤ 9) : ∃ v : Fin 8, rowP n = (v.val : Int) := by
  have f : ∀ n : Fin 10, ∃ v : Fin 8, rowC n = (v.val : Int) := by decide
  obtain ⟨v, e⟩ := f ⟨n, by omega⟩
  exact ⟨v, by rw [row_c h]; exact e⟩
def vs8 : List Int := rg 8
def four : Bool := vs8.all fun a => vs8.all fun b => vs8.all fun c => vs8.all fun d => let t := xr (xr (xr (xr 0 a) b) c) d; (decide (0 ≤ t) && decide (t < 8)) && (t == 0 || (decide (xr t a < a) || (decide (xr t b < b) || (decide (xr t c < c) || decide (xr t d < d)))))
theorem four_ok : four = true := by decide +kernel
def nil8 : Bool := vs8.all fun a => xr a 0 == a
theorem nil8_ok : nil8 = true := by decide +kernel
theorem v8 {n : Nat} (h : n ≤ 9) : rowP n ∈ vs8 := by
  obtain ⟨v, e⟩ := row_small h
  rw [e]
  exact mem_rg.mpr (by have := v.isLt; omega)
theorem one_at {n : Nat} (h : n ≤ 9) {t : Int} (h0 : 0 ≤ t) (h8 : t < 8) : ((∃ a m, (0 ≤ a ∧ a < (n : Int)) ∧ (m = 1 ∨ m = 2) ∧ hitP t n a m = true) → t ≠ 0) ∧ (xr t (rowP n) < rowP n → ∃ a m, (0 ≤ a ∧ a < (n : Int)) ∧ (m = 1 ∨ m = 2) ∧ hitP t n a m = true) := by
  have f := List.all_eq_true.mp (List.all_eq_true.mp one_row n (List.mem_range.mpr (by omega))) t.toNat (List.mem_range.mpr (by omega))
  rw [show ((t.toNat : Nat) : Int) = t by omega, Bool.and_eq_true, Bool.or_eq_true, Bool.or_eq_true] at f
  obtain ⟨f1, f2⟩ := f
  have any : anyHit t n = true ↔ ∃ a m, (0 ≤ a ∧ a < (n : Int)) ∧ (m = 1 ∨ m = 2) ∧ hitP t n a m = true := by
    unfold anyHit
    rw [List.any_eq_true]
    constructor
    · rintro ⟨a, ha, e⟩
      have ha := List.mem_range.mp ha
      rcases Bool.or_eq_true_iff.mp e with e | e
      · exact ⟨a, 1, by omega, .inl rfl, by rw [← hit_c h] at e; exact e⟩
      · exact ⟨a, 2, by omega, .inr rfl, by rw [← hit_c h] at e; exact e⟩
    · rintro ⟨a, m, ha, hm, e⟩
      refine ⟨a.toNat, List.mem_range.mpr (by omega), ?_⟩
      rw [show a = ((a.toNat : Nat) : Int) by omega] at e
      rcases hm with rfl | rfl
      · have e : hitP t n (a.toNat : Nat) (1 : Nat) = true := e
        rw [hit_c h] at e
        rw [e]; rfl
      · have e : hitP t n (a.toNat : Nat) (2 : Nat) = true := e
        rw [hit_c h] at e
        rw [e, Bool.or_true]
  constructor
  · intro q
    rw [← any] at q
    rcases f1 with f1 | f1
    · rw [q] at f1; cases f1
    · intro z; rw [z] at f1; cases f1
  · intro q
    rw [← any]
    rcases f2 with f2 | f2
    · rw [row_c h] at q
      simp [q] at f2
    · exact f2
theorem tot_small : ∀ {ns : List Nat}, ns.length ≤ 4 → (∀ n ∈ ns, n ≤ 9) → (0 ≤ totP ns ∧ totP ns < 8) ∧ (totP ns ≠ 0 → ∃ n ∈ ns, xr (totP ns) (rowP n) < rowP n) := by
  have four4 : ∀ a ∈ vs8, ∀ b ∈ vs8, ∀ c ∈ vs8, ∀ d ∈ vs8, (0 ≤ xr (xr (xr (xr 0 a) b) c) d ∧ xr (xr (xr (xr 0 a) b) c) d < 8) ∧ (xr (xr (xr (xr 0 a) b) c) d ≠ 0 → xr (xr (xr (xr (xr 0 a) b) c) d) a < a ∨ xr (xr (xr (xr (xr 0 a) b) c) d) b < b ∨ xr (xr (xr (xr (xr 0 a) b) c) d) c < c ∨ xr (xr (xr (xr (xr 0 a) b) c) d) d < d) := by
    intro a ha b hb c hc d hd
    have f := List.all_eq_true.mp (List.all_eq_true.mp (List.all_eq_true.mp (List.all_eq_true.mp four_ok a ha) b hb) c hc) d hd
    simp only [Bool.and_eq_true, Bool.or_eq_true, decide_eq_true_eq, beq_iff_eq] at f
    exact ⟨f.1, fun q => f.2.resolve_left q⟩
  have z : (0 : Int) ∈ vs8 := mem_rg.mpr (by decide)
  have n8 : ∀ a ∈ vs8, xr a 0 = a := fun a ha => beq_iff_eq.mp (List.all_eq_true.mp nil8_ok a ha)
  have m8 : ∀ {a b c d}, a ∈ vs8 → b ∈ vs8 → c ∈ vs8 → d ∈ vs8 → xr (xr (xr (xr 0 a) b) c) d ∈ vs8 := fun {a b c d} ha hb hc hd => mem_rg.mpr (four4 a ha b hb c hc d hd).1
  have neg : ∀ {t : Int}, 0 ≤ t → t < 8 → ¬ xr t 0 < 0 := fun {t} h1 h2 => by rw [n8 t (mem_rg.mpr ⟨h1, h2⟩)]; omega
  intro ns hl hb
  match ns, hl, hb with
  | [], _, _ => exact ⟨⟨by decide, by decide⟩, fun h => absurd rfl h⟩
  | [a], _, hb =>
    have A := v8 (hb a (by simp))
    have f := four4 _ A 0 z 0 z 0 z
    have e1 : xr (xr (xr (xr 0 (rowP a)) 0) 0) 0 = xr 0 (rowP a) := by
      have w : xr 0 (rowP a) ∈ vs8 := by have := m8 z z z A; rwa [show xr (xr (xr 0 0) 0) 0 = 0 by decide] at this
      rw [n8 _ w, n8 _ w, n8 _ w]
    rw [e1] at f
    refine ⟨f.1, fun h => ⟨a, by simp, ?_⟩⟩
    have n := neg f.1.1 f.1.2
    have := f.2 h
    show xr (xr 0 (rowP a)) (rowP a) < _
    omega
  | [a, b], _, hb =>
    have A := v8 (hb a (by simp))
    have B := v8 (hb b (by simp))
    have f := four4 _ A _ B 0 z 0 z
    have w : xr (xr 0 (rowP a)) (rowP b) ∈ vs8 := by have := m8 z z A B; rwa [show xr (xr 0 0) 0 = 0 by decide] at this
    rw [n8 _ w, n8 _ w] at f
    refine ⟨f.1, fun h => ?_⟩
    have n := neg f.1.1 f.1.2
    rcases f.2 h with q | q | q | q
    · exact ⟨a, by simp, q⟩
    · exact ⟨b, by simp, q⟩
    · exact absurd q n
    · exact absurd q n
  | [a, b, c], _, hb =>
    have A := v8 (hb a (by simp))
    have B := v8 (hb b (by simp))
    have C := v8 (hb c (by simp))
    have f := four4 _ A _ B _ C 0 z
    have w : xr (xr (xr 0 (rowP a)) (rowP b)) (rowP c) ∈ vs8 := by have := m8 z A B C; rwa [show xr 0 0 = 0 by decide] at this
    rw [n8 _ w] at f
    refine ⟨f.1, fun h => ?_⟩
    have n := neg f.1.1 f.1.2
    rcases f.2 h with q | q | q | q
    · exact ⟨a, by simp, q⟩
    · exact ⟨b, by simp, q⟩
    · exact ⟨c, by simp, q⟩
    · exact absurd q n
  | [a, b, c, d], _, hb =>
    have f := four4 _ (v8 (hb a (by simp))) _ (v8 (hb b (by simp))) _ (v8 (hb c (by simp))) _ (v8 (hb d (by simp)))
    refine ⟨f.1, fun h => ?_⟩
    rcases f.2 h with q | q | q | q
    · exact ⟨a, by simp, q⟩
    · exact ⟨b, by simp, q⟩
    · exact ⟨c, by simp, q⟩
    · exact ⟨d, by simp, q⟩
theorem movesR_mem {t : Int} {n : Nat} {a m : Int} (ha : 0 ≤ a ∧ a < (n : Int)) (hm : m = 1 ∨ m = 2) (hh : hitP t n a m = true) : ∀ {ns : List Nat} {r : Int}, n ∈ ns → movesR t r ns ≠ []
  | k :: ns, r, h => by
    unfold movesR
    rcases List.mem_cons.mp h with e | h
    · subst e
      have : [r, a, m] ∈ movesA t r n := List.mem_flatMap.mpr ⟨a, mem_rg.mpr ha, List.mem_filterMap.mpr ⟨m, by simpa using hm, if_pos hh⟩⟩
      exact fun z => by rw [List.append_eq_nil_iff] at z; rw [z.1] at this; cases this
    · exact fun z => movesR_mem ha hm hh h (List.append_eq_nil_iff.mp z).2
theorem moves_iff {ns : List Nat} (hl : ns.length ≤ 4) (hb : ∀ n ∈ ns, n ≤ 9) : movesR (totP ns) 0 ns ≠ [] ↔ totP ns ≠ 0 := by
  obtain ⟨⟨t0, t8⟩, ex⟩ := tot_small hl hb
  constructor
  · intro h
    obtain ⟨x, hx⟩ := List.exists_mem_of_ne_nil _ h
    obtain ⟨q, n, a, m, rfl, _, hn, ha, hm, hh⟩ := moveR_at hx
    exact (one_at (hb n hn) t0 t8).1 ⟨a, m, ha, hm, hh⟩
  · intro h
    obtain ⟨n, hn, q⟩ := ex h
    obtain ⟨a, m, ha, hm, hh⟩ := (one_at (hb n hn) t0 t8).2 q
    exact movesR_mem ha hm hh hn
end K75
end

section
set_option Elab.async false
set_option linter.all false
set_option maxRecDepth 100000
/-! MirX: a value is equal to itself; a list is empty or not; a search in rows. -/
namespace Mir
open PySem PySem.Spec
mutual
theorem eqF_self : ∀ (n : Nat) (d : D), okD n d = true → eqF n d d = true
  | 0, _, h => by cases h
  | n + 1, .non, _ => rfl
  | n + 1, .bl b, _ => by cases b <;> rfl
  | n + 1, .int i, _ => beq_self_eq_true i
  | n + 1, .str x, _ => beq_self_eq_true x
  | n + 1, .tup xs, h => eqL_self n xs h
  | n + 1, .lst xs, h => eqL_self n xs h
theorem eqL_self : ∀ (n : Nat) (xs : List D), xs.all (okD n) = true → eqL (eqF n) xs xs = true
  | _, [], _ => rfl
  | n, x :: xs, h => by
    rw [List.all_cons, Bool.and_eq_true] at h
    unfold eqL
    rw [eqF_self n x h.1, eqL_self n xs h.2]
    rfl
end
/-- a tuple is not unlike itself -/
theorem vNeS_self (xs : List D) (S : Store) (h : xs.all (okD 59) = true) : vNeS (.tup xs) (.tup xs) S = .ok (.bl false) S := by
  show vCmp (fun a b S => (eqV S a b).map (!·)) _ _ S = _
  unfold vCmp
  have e : eqV S (.tup xs) (.tup xs) = some true := by
    show (if okD 60 (.tup xs) && okD 60 (.tup xs) then some (eqF 60 (.tup xs) (.tup xs)) else none) = _
    have o : okD 60 (.tup xs) = true := h
    rw [o, eqF_self 60 _ o]
    rfl
  dsimp only
  rw [e]
  rfl
theorem eqV_nil (xs : List D) (k : Nat) (S : Store) (hk : S[k]? = some (.lst xs)) (ok : xs.all (okD 59) = true) : eqV S (.ref k) (.lst []) = some xs.isEmpty := by
  show (match flat1 S (.ref k), flat1 S (.lst []) with
    | some x, some y => if okD 60 x && okD 60 y then some (eqF 60 x y) else none
    | _, _ => none) = _
  have f : flat1 S (.ref k) = some (.lst xs) := by unfold flat1; simp only [hk]
  rw [f]
  show (if okD 60 (.lst xs) && okD 60 (.lst []) then some (eqF 60 (.lst xs) (.lst [])) else none) = _
  have o : okD 60 (.lst xs) = true := ok
  rw [o]
  cases xs <;> rfl
theorem vNeS_nil (xs : List D) (k : Nat) (S : Store) (hk : S[k]? = some (.lst xs)) (ok : xs.all (okD 59) = true) : vNeS (.ref k) (.lst []) S = .ok (.bl !xs.isEmpty) S := by
  show vCmp (fun a b S => (eqV S a b).map (!·)) _ _ S = _
  unfold vCmp
  dsimp only
  rw [eqV_nil xs k S hk ok]
  rfl
theorem vEqS_nil (xs : List D) (k : Nat) (S : Store) (hk : S[k]? = some (.lst xs)) (ok : xs.all (okD 59) = true) : vEqS (.ref k) (.lst []) S = .ok (.bl xs.isEmpty) S := by
  show vCmp (fun a b S => eqV S a b) _ _ S = _
  unfold vCmp
  dsimp only
  rw [eqV_nil xs k S hk ok]
theorem okD_maps {α : Type} {f : α → D} {n : Nat} (h : ∀ x, okD n (f x) = true) (xs : List α) : (xs.map f).all (okD n) = true := by
  rw [List.all_map]
  exact List.all_eq_true.mpr fun x _ => h x
theorem runF_preGo {α β : Type} {body : D → SS} {enc : α → D} {g : α → List β} {R : List β → Env → Store → Prop} {T : List β} : ∀ {xs : List α} {l : List β} {env : Env} {S : Store},
    (∀ b x env S, x ∈ xs → b ++ g x <+: T → R b env S → ∃ env' S', body (enc x) env S = .nx env' S' ∧ R (b ++ g x) env' S') → l ++ xs.flatMap g = T → R l env S → ∃ env' S', runF body (xs.map enc) env S = .nx env' S' ∧ R T env' S'
  | [], l, env, S, _, e, r => ⟨env, S, rfl, by rw [← e]; simpa using r⟩
  | x :: xs, l, env, S, h, e, r => by
    rw [List.flatMap_cons, ← List.append_assoc] at e
    obtain ⟨env1, S1, e1, r1⟩ := h l x env S List.mem_cons_self ⟨_, e⟩ r
    obtain ⟨env2, S2, e2, r2⟩ := runF_preGo (xs := xs) (fun b y env S hy => h b y env S (List.mem_cons_of_mem _ hy)) e r1
    exact ⟨env2, S2, by rw [List.map_cons]; unfold runF; rw [e1]; exact e2, r2⟩
/-- a loop that gathers rows; what is gathered so far is a head of the whole -/
theorem runF_pre {α β : Type} {body : D → SS} {enc : α → D} {g : α → List β} {R : List β → Env → Store → Prop} {T : List β} {xs : List α} {l : List β} {env : Env} {S : Store} {f : Fl} (hx : runF body (xs.map enc) env S = f) (e : l ++ xs.flatMap g = T)
    (h : ∀ P : List β → Env → Store → Prop, (∀ b env S, R b env S → P b env S) → ∀ b x env S, x ∈ xs → b ++ g x <+: T → R b env S → (body (enc x) env S).is (P (b ++ g x))) (r : R l env S) : ∃ env' S', f = .nx env' S' ∧ R T env' S' := by
  obtain ⟨env', S', e, r'⟩ := runF_preGo (fun b x env S hx p r => is_elim (h R (fun _ _ _ r => r) b x env S hx p r)) e r
  exact ⟨env', S', hx.symm.trans e, r'⟩
end Mir
end

section
set_option Elab.async false
set_option linter.all false
set_option maxRecDepth 100000
/-! K75y: the law's first part: rows. -/
namespace K75
open PySem PySem.Spec Mir
@[simp] theorem draw_ap (x : Bx) (m : Int) (R : Store) (h : 0 < m) (h2 : m < 18446744073709551616) : s__law_draw [.ref 0, .int m] (bx x :: R) = .ok (.int (dvB x m)) (bx (dnB x m) :: R) := drawB x m R h h2
theorem numbers9 (x : Bx) : s__law_numbers [.int 9] [bx x] = .ok (.lst ((numsP 9).map .int)) [bx x] := by
  rw [nums9]
  kernel_rfl
theorem ne_ii (a b : Int) (S : Store) : vNeS (.tup [.int 0, .int a]) (.tup [.int 0, .int b]) S = .ok (.bl (!decide (a = b))) S := by
  have := vNeS_tups S [0, a] [0, b]
  simpa using this
theorem row_ix (n : Nat) (h : n ≤ 9) : (numsP 9)[n]? = some (rowP n) := nums_get h
/-- rows are drawn -/
theorem rows_go (a0 : Option D) (x : Bx) : ∃ (y : Bx) (ns : List Nat), ns.length ≤ 4 ∧ (∀ n ∈ ns, n ≤ 9) ∧
    b_law_31 [a0, some (.ref 0), none, none, none, none, none, none, none, none, none, none, none, none, none, none, none, none, none, none, none, none, none, none, none] [bx x] =
    b_law_30 [a0, some (.ref 0), some (.lst ((numsP 9).map .int)), some (.tup (ns.map encN)), some (.int 0), none, none, none, none, none, none, none, none, none, none, none, none, none, none, none, none, none, none, none, none] [bx y] := by
  have l1 := dvB_lo x (m := 5) (by omega)
  have l2 := dvB_hi x (m := 5) (by omega)
  obtain ⟨zs, S', e, zl, zb, y, rfl⟩ := runC_each (f := mElt [5] (gSet 5) (fun _ S => .ok true S) (mCall s__law_draw (mCons (mVar 1) (mCons (mC (.int 10)) mNil))) [a0, some (.ref 0), none, none, none, none, none, none, none, none, none, none, none, none, none, none, none, none, none, none, none, none, none, none, none])
    (enc := D.int) (ec := encN) (P := fun S => ∃ y, S = [bx y]) (Q := fun z => z ≤ 9) (xs := rg (dvB x 5).toNat) (S := [bx (dnB x 5)]) (fun S z hz ⟨y, hy⟩ => by
      subst hy
      have m1 := dvB_lo y (m := 10) (by omega)
      have m2 := dvB_hi y (m := 10) (by omega)
      refine ⟨(dvB y 10).toNat, [bx (dnB y 10)], ?_, ⟨_, rfl⟩, by omega⟩
      have e : encN (dvB y 10).toNat = .int (dvB y 10) := by unfold encN; rw [show (((dvB y 10).toNat : Nat) : Int) = dvB y 10 by omega]
      rw [e]
      simp) ⟨_, rfl⟩
  rw [rg_len] at zl
  refine ⟨y, zs, by omega, zb, ?_⟩
  simp [b_law_31, numbers9, show (-4611686018427387904 : Int) ≤ dvB x 5 by omega, show dvB x 5 < 4611686018427387904 by omega, show (dvB x 5).toNat ≤ 16777216 by omega, e]
/-- the told numbers, the rows' number -/
theorem told_go (a0 : Option D) (y : Bx) (ns : List Nat) (hl : ns.length ≤ 4) (hb : ∀ n ∈ ns, n ≤ 9) : ∃ a6,
    b_law_30 [a0, some (.ref 0), some (.lst ((numsP 9).map .int)), some (.tup (ns.map encN)), some (.int 0), none, none, none, none, none, none, none, none, none, none, none, none, none, none, none, none, none, none, none, none] [bx y] =
    b_law_27 [a0, some (.ref 0), some (.lst ((numsP 9).map .int)), some (.tup (ns.map encN)), some (.int (totP ns)), none, a6, some (.ref 1), none, none, none, none, none, none, none, none, none, none, none, none, none, none, none, none, none] [bx y, .lst []] := by
  simp [b_law_30]
  rw [runC_ones (enc := D.int) (c := fun _ => false) (fun i hi => by
    obtain ⟨i1, i2⟩ := mem_rg.mp hi
    obtain ⟨n, rfl⟩ : ∃ n : Nat, i = n := ⟨i.toNat, by omega⟩
    have e := p_told_row n (by omega) [bx y]
    have r := row_ix n (by omega)
    simp [e, r, ne_ii])]
  simp [b_law_29]
  generalize hx : runF _ _ _ _ = fl
  obtain ⟨env, S', rfl, ⟨a6, rfl⟩, rfl⟩ := runF_at hx (R := fun t env S' => (∃ a6, env = [a0, some (.ref 0), some (.lst ((numsP 9).map .int)), some (.tup (ns.map encN)), some (.int t), none, a6, none, none, none, none, none, none, none, none, none, none, none, none, none, none, none, none, none, none]) ∧ S' = [bx y])
    (step := fun t n => xr t (rowP n)) (b := 0)
    (fun P hP t n env S' hn ⟨⟨a6, e1⟩, e2⟩ => by
      subst e1 e2
      have h1 := row_ix n (hb n hn)
      simp [encN, b_law_2, h1]
      exact hP _ _ _ ⟨⟨_, rfl⟩, rfl⟩) ⟨⟨_, rfl⟩, rfl⟩
  refine ⟨a6, ?_⟩
  have tot : ns.foldl (fun t n => xr t (rowP n)) 0 = totP ns := rfl
  rw [tot]
  simp [b_law_28]
end K75
end

section
set_option Elab.async false
set_option linter.all false
set_option maxRecDepth 100000
/-! K75z: takings that win, as the law finds them. -/
namespace K75
open PySem PySem.Spec Mir
def par4 : Bool := vs8.all fun a => vs8.all fun b => vs8.all fun c => vs8.all fun d => (xr (xr (xr a b) c) d == 0) == (xr (xr a b) (xr c d) == 0)
theorem par4_ok : par4 = true := by decide +kernel
theorem hit_is {t : Int} (ht : t ∈ vs8) {n : Nat} (hn : n ≤ 9) {a m : Int} (ha : 0 ≤ a) (hm : 0 ≤ m) (h : a + m ≤ n) : hitP t n a m = decide (xr (xr (xr t (rowP n)) (rowP a.toNat)) (rowP ((n : Int) - a - m).toNat) = 0) := by
  unfold hitP
  rw [decide_eq_true h, Bool.true_and]
  have p := List.all_eq_true.mp (List.all_eq_true.mp (List.all_eq_true.mp (List.all_eq_true.mp par4_ok t ht) (rowP n) (v8 hn)) (rowP a.toNat) (v8 (by omega))) (rowP ((n : Int) - a - m).toNat) (v8 (by omega))
  rw [beq_iff_eq] at p
  rw [Bool.eq_iff_iff, decide_eq_true_eq, decide_eq_true_eq]
  have p := Bool.eq_iff_iff.mp p
  rw [beq_iff_eq, beq_iff_eq] at p
  exact p.symm
theorem movesM_flat (t r : Int) (n : Nat) (a : Int) : movesM t r n a = ([1, 2] : List Int).flatMap fun m => if hitP t n a m then [[r, a, m]] else [] := by
  cases h1 : hitP t n a 1 <;> cases h2 : hitP t n a 2 <;> simp [movesM, h1, h2]
theorem movesR_flat (t : Int) : ∀ (ns : List Nat) (r : Int), movesR t r ns = (List.range ns.length).flatMap fun k : Nat => movesA t (r + k) (ns.getD k 0)
  | [], _ => rfl
  | n :: ns, r => by
    unfold movesR
    rw [List.length_cons, List.range_succ_eq_map, List.flatMap_cons, movesR_flat t ns (r + 1)]
    congr 1
    · simp
    · rw [List.flatMap_map]
      congr 1
      funext k
      rw [show r + 1 + (k : Int) = r + ((k + 1 : Nat) : Int) by push_cast; omega]
      rfl
theorem movesM_len (t r : Int) (n : Nat) (a : Int) : (movesM t r n a).length ≤ 2 := by
  unfold movesM
  exact List.length_filterMap_le ..
theorem flat_len {α β : Type} {f : α → List β} {k : Nat} : ∀ {l : List α}, (∀ x ∈ l, (f x).length ≤ k) → (l.flatMap f).length ≤ k * l.length
  | [], _ => by simp
  | x :: l, h => by
    rw [List.flatMap_cons, List.length_append, List.length_cons, Nat.mul_succ]
    have h1 := h x List.mem_cons_self
    have h2 := flat_len (f := f) (k := k) (l := l) fun y hy => h y (List.mem_cons_of_mem _ hy)
    omega
theorem movesR_len (t : Int) {ns : List Nat} (hl : ns.length ≤ 4) (hb : ∀ n ∈ ns, n ≤ 9) : (movesR t 0 ns).length ≤ 72 := by
  rw [movesR_flat]
  have := flat_len (f := fun k : Nat => movesA t (0 + k) (ns.getD k 0)) (k := 18) (l := List.range ns.length) (fun k hk => by
    have hk := List.mem_range.mp hk
    have := flat_len (f := movesM t (0 + k) (ns.getD k 0)) (k := 2) (l := rg (ns.getD k 0)) fun a _ => movesM_len ..
    rw [rg_len] at this
    have hn := hb (ns.getD k 0) (by rw [List.getD_eq_getElem?_getD, List.getElem?_eq_getElem hk]; exact List.getElem_mem hk)
    unfold movesA
    omega)
  rw [List.length_range] at this
  omega
abbrev eLaw (a0 : Option D) (ns : List Nat) (t : Int) (a6 a8 a9 a10 : Option D) : Mir.Env := [a0, some (.ref 0), some (.lst ((numsP 9).map .int)), some (.tup (ns.map encN)), some (.int t), none, a6, some (.ref 1), a8, a9, a10, none, none, none, none, none, none, none, none, none, none, none, none, none, none]
theorem many_law (a0 : Option D) (ns : List Nat) (t : Int) (ht : t ∈ vs8) (r n : Nat) (hr : ns[r]? = some n) (hn : n ≤ 9) (a : Int) (ha : 0 ≤ a) (ha2 : a < n) (a6 a10 : Option D) (y : Bx) (l : List (List Int)) (hl : (l ++ movesM t r n a).length ≤ 72) :
    ∃ env' S', b_law_5 (eLaw a0 ns t a6 (some (.int r)) (some (.int a)) a10) [bx y, .lst (l.map encRow)] = .nx env' S' ∧ (∃ a10, env' = eLaw a0 ns t a6 (some (.int r)) (some (.int a)) a10) ∧ S' = [bx y, .lst ((l ++ movesM t r n a).map encRow)] := by
  rw [movesM_flat] at hl ⊢
  obtain ⟨T, hT⟩ : ∃ T, T = l ++ ([1, 2] : List Int).flatMap fun m => if hitP t n a m then [[(r : Int), a, m]] else [] := ⟨_, rfl⟩
  rw [← hT] at hl ⊢
  have e0 : b_law_5 (eLaw a0 ns t a6 (some (.int r)) (some (.int a)) a10) [bx y, .lst (l.map encRow)] = (runF (bodyF (gSet 10) b_law_4) (([1, 2] : List Int).map D.int) (eLaw a0 ns t a6 (some (.int r)) (some (.int a)) a10) [bx y, .lst (l.map encRow)]).seq sNil := by
    simp [b_law_5, eLaw]
  rw [e0]
  generalize hx : runF _ _ _ _ = fl
  obtain ⟨env, S', rfl, ⟨b10, rfl⟩, rfl⟩ := runF_pre hx hT.symm (R := fun b env S' => (∃ a10, env = eLaw a0 ns t a6 (some (.int r)) (some (.int a)) a10) ∧ S' = [bx y, .lst (b.map encRow)])
    (fun P hP b m env S' hm hp ⟨⟨a10, e1⟩, e2⟩ => by
      subst e1 e2
      have hm : m = 1 ∨ m = 2 := by simpa using hm
      have pl := hp.length_le
      rw [List.length_append] at pl
      have bl : b.length ≤ 16000000 := by omega
      have h1 := row_ix n hn
      by_cases h : a + m ≤ n
      · have h2 := nums_ix (N := 9) (i := a) ha (by omega)
        have h3 := nums_ix (N := 9) (i := (n : Int) - a - m) (by omega) (by omega)
        have hi := hit_is ht hn (a := a) (m := m) ha (by omega) h
        by_cases q : xr (xr (xr t (rowP n)) (rowP a.toNat)) (rowP ((n : Int) - a - m).toNat) = 0
        · have hi : hitP t n a m = true := by rw [hi]; exact decide_eq_true q
          have f := hP (b ++ [[(r : Int), a, m]])
          simp [encRow] at f
          simp [eLaw, encN, hr, h1, h2, h3, h, b_law_4, q, b_law_3, bl, hi]
          exact f _ _ (some (.int m)) rfl rfl
        · have hi : hitP t n a m = false := by rw [hi]; exact decide_eq_false q
          simp [eLaw, encN, hr, h1, h2, h3, h, b_law_4, q, hi]
          exact hP _ _ _ ⟨⟨_, rfl⟩, rfl⟩
      · have hi : hitP t n a m = false := by simp [hitP, h]
        simp [eLaw, encN, hr, h, b_law_4, hi]
        exact hP _ _ _ ⟨⟨_, rfl⟩, rfl⟩) ⟨⟨_, rfl⟩, rfl⟩
  exact ⟨_, _, by rw [seq_nx, sNil_ap], ⟨_, rfl⟩, rfl⟩
theorem first_law (a0 : Option D) (ns : List Nat) (t : Int) (ht : t ∈ vs8) (r n : Nat) (hr : ns[r]? = some n) (hn : n ≤ 9) (a6 a9 a10 : Option D) (y : Bx) (l : List (List Int)) (hl : (l ++ movesA t r n).length ≤ 72) :
    ∃ env' S', b_law_6 (eLaw a0 ns t a6 (some (.int r)) a9 a10) [bx y, .lst (l.map encRow)] = .nx env' S' ∧ (∃ a9 a10, env' = eLaw a0 ns t a6 (some (.int r)) a9 a10) ∧ S' = [bx y, .lst ((l ++ movesA t r n).map encRow)] := by
  unfold movesA at hl ⊢
  obtain ⟨T, hT⟩ : ∃ T, T = l ++ (rg n).flatMap (movesM t r n) := ⟨_, rfl⟩
  rw [← hT] at hl ⊢
  have e0 : b_law_6 (eLaw a0 ns t a6 (some (.int r)) a9 a10) [bx y, .lst (l.map encRow)] = (runF (bodyF (gSet 9) b_law_5) ((rg n).map D.int) (eLaw a0 ns t a6 (some (.int r)) a9 a10) [bx y, .lst (l.map encRow)]).seq sNil := by
    simp [b_law_6, eLaw, hr, encN, show (n : Int) < 4611686018427387904 by omega, show (-4611686018427387904 : Int) ≤ n by omega]
  rw [e0]
  generalize hx : runF _ _ _ _ = fl
  obtain ⟨env, S', rfl, ⟨b9, b10, rfl⟩, rfl⟩ := runF_pre hx hT.symm (R := fun b env S' => (∃ a9 a10, env = eLaw a0 ns t a6 (some (.int r)) a9 a10) ∧ S' = [bx y, .lst (b.map encRow)])
    (fun P hP b a env S' ha hp ⟨⟨a9, a10, e1⟩, e2⟩ => by
      subst e1 e2
      obtain ⟨h0, h1⟩ := mem_rg.mp ha
      have pl := hp.length_le
      obtain ⟨env', S', e, ⟨a10', rfl⟩, rfl⟩ := many_law a0 ns t ht r n hr hn a h0 h1 a6 a10 y b (by omega)
      have s : bodyF (gSet 9) b_law_5 (.int a) (eLaw a0 ns t a6 (some (.int r)) a9 a10) [bx y, .lst (b.map encRow)] = b_law_5 (eLaw a0 ns t a6 (some (.int r)) (some (.int a)) a10) [bx y, .lst (b.map encRow)] := by simp [eLaw]
      rw [s, e, is_nx]
      exact hP _ _ _ ⟨⟨_, _, rfl⟩, rfl⟩) ⟨⟨_, _, rfl⟩, rfl⟩
  exact ⟨_, _, by rw [seq_nx, sNil_ap], ⟨_, _, rfl⟩, rfl⟩
theorem good_law (a0 : Option D) (ns : List Nat) (hl : ns.length ≤ 4) (hb : ∀ n ∈ ns, n ≤ 9) (t : Int) (ht : t ∈ vs8) (a6 : Option D) (y : Bx) :
    ∃ a8 a9 a10, b_law_27 (eLaw a0 ns t a6 none none none) [bx y, .lst []] = b_law_26 (eLaw a0 ns t a6 a8 a9 a10) [bx y, .lst ((movesR t 0 ns).map encRow)] := by
  have ml := movesR_len t hl hb
  have hT : [] ++ (List.range ns.length).flatMap (fun k : Nat => movesA t (0 + k) (ns.getD k 0)) = movesR t 0 ns := by rw [movesR_flat]; rfl
  generalize movesR t 0 ns = T at *
  have e0 : b_law_27 (eLaw a0 ns t a6 none none none) [bx y, .lst []] = (runF (bodyF (gSet 8) b_law_6) ((List.range ns.length).map fun i : Nat => D.int (i : Int)) (eLaw a0 ns t a6 none none none) [bx y, .lst []]).seq b_law_26 := by
    simp [b_law_27, eLaw, rg, show (ns.length : Int) < 4611686018427387904 by omega, show (-4611686018427387904 : Int) ≤ (ns.length : Int) by omega]
    rfl
  rw [e0]
  generalize hx : runF _ _ _ _ = fl
  obtain ⟨env, S', rfl, ⟨b8, b9, b10, rfl⟩, rfl⟩ := runF_pre hx hT (R := fun b env S' => (∃ a8 a9 a10, env = eLaw a0 ns t a6 a8 a9 a10) ∧ S' = [bx y, .lst (b.map encRow)])
    (fun P hP b k env S' hk hp ⟨⟨a8, a9, a10, e1⟩, e2⟩ => by
      subst e1 e2
      have hk := List.mem_range.mp hk
      have gk : ns.getD k 0 = ns[k] := by rw [List.getD_eq_getElem?_getD, List.getElem?_eq_getElem hk]; rfl
      rw [gk, Int.zero_add] at hp ⊢
      have pl := hp.length_le
      obtain ⟨env', S', e, ⟨a9', a10', rfl⟩, rfl⟩ := first_law a0 ns t ht k ns[k] (List.getElem?_eq_getElem hk) (hb _ (List.getElem_mem hk)) a6 a9 a10 y b (by omega)
      have s : bodyF (gSet 8) b_law_6 (.int (k : Int)) (eLaw a0 ns t a6 a8 a9 a10) [bx y, .lst (b.map encRow)] = b_law_6 (eLaw a0 ns t a6 (some (.int (k : Int))) a9 a10) [bx y, .lst (b.map encRow)] := by simp [eLaw]
      rw [s, e, is_nx]
      exact hP _ _ _ ⟨⟨_, _, _, rfl⟩, rfl⟩) ⟨⟨_, _, _, rfl⟩, rfl⟩
  exact ⟨_, _, _, seq_nx ..⟩
end K75
end

section
set_option Elab.async false
set_option linter.all false
set_option maxRecDepth 100000
/-! K75A1: what is told of the rows; far rows. -/
namespace K75
open PySem PySem.Spec Mir
theorem head_is (t : Int) (ns : List Nat) : (movesR t 0 ns).head? = none ∨ ∃ r : List Int, (movesR t 0 ns).head? = some r ∧ r.length = 3 := by
  cases h : movesR t 0 ns with
  | nil => exact .inl rfl
  | cons x xs =>
    obtain ⟨q, n, a, m, e, _⟩ := moveR_at (t := t) (ns := ns) (r := 0) (x := x) (by rw [h]; exact List.mem_cons_self)
    exact .inr ⟨x, rfl, by rw [e]; rfl⟩
theorem read_head (t : Int) (ns : List Nat) (S : Store) : s__law_read 4 [headD (movesR t 0 ns).head?] S = .ok (headD (movesR t 0 ns).head?) S := by
  rcases head_is t ns with e | ⟨r, e, l⟩
  · rw [e]; exact read_non 3 S
  · rw [e]; exact read_tup 2 r S (by omega)
theorem ne_head (t : Int) (ns : List Nat) (S : Store) : vNeS (.tup [.int 0, headD (movesR t 0 ns).head?]) (.tup [.int 0, headD (movesR t 0 ns).head?]) S = .ok (.bl false) S := by
  refine vNeS_self _ S ?_
  rcases head_is t ns with e | ⟨r, e, l⟩
  · rw [e]; rfl
  · rw [e]
    have := okD_ints 57 r
    show (true && (((r.map D.int).all (okD 58)) && true)) = true
    rw [this]; rfl
theorem win_law (a0 : Option D) (ns : List Nat) (hl : ns.length ≤ 4) (hb : ∀ n ∈ ns, n ≤ 9) (a6 a8 a9 a10 : Option D) (y : Bx) :
    b_law_26 (eLaw a0 ns (totP ns) a6 a8 a9 a10) [bx y, .lst ((movesR (totP ns) 0 ns).map encRow)] = b_law_25 (eLaw a0 ns (totP ns) a6 a8 a9 a10) [bx y, .lst ((movesR (totP ns) 0 ns).map encRow)] := by
  have mi := moves_iff hl hb
  have pw := p_winning ns (by omega) (fun n hn => by have := hb n hn; omega)
  have rh := read_head (totP ns) ns
  have nh := ne_head (totP ns) ns
  have mn := min_moves (totP ns) ns
  have hd : movesR (totP ns) 0 ns = [] → headD (movesR (totP ns) 0 ns).head? = .non := fun h => by rw [h]; rfl
  generalize movesR (totP ns) 0 ns = M at *
  have okM : (M.map encRow).all (okD 59) = true := okD_maps (fun r => show okD 59 (encRow r) = true from okD_ints 57 r) M
  have nn := vNeS_nil (M.map encRow) 1 [bx y, .lst (M.map encRow)] rfl okM
  rw [List.isEmpty_map] at nn
  have wn : mLam lk__law_told [] (mCall s_winning (mCons (mVar 3) mNil)) (eLaw a0 ns (totP ns) a6 a8 a9 a10) [bx y, .lst (M.map encRow)] = .ok (.tup [.int 0, headD M.head?]) [bx y, .lst (M.map encRow)] :=
    lam_told (w := fun c => w__law_told[c]?) (pre := []) (by simp [eLaw, pw]) (rh _)
  unfold eLaw at wn ⊢
  by_cases h : M = []
  · have t0 : totP ns = 0 := by
      by_cases z : totP ns = 0
      · exact z
      · exact absurd h (mi.mpr z)
    have nh := nh [bx y, .lst (M.map encRow)]
    have hd := hd h
    subst h
    rw [hd] at wn nh
    simp at wn nn nh
    simp [b_law_26, wn, nn, nh]
    simp [t0]
  · have t0 := mi.mp h
    have mn := mn 1 [bx y, .lst (M.map encRow)] rfl h
    have nh := nh [bx y, .lst (M.map encRow)]
    have e : M.isEmpty = false := by cases M with
      | nil => exact absurd rfl h
      | cons x xs => rfl
    rw [e] at nn
    simp [b_law_26, wn, nn, mn, nh]
    simp [t0]
abbrev eFar (a0 : Option D) (ns : List Nat) (t : Int) (a6 a8 a9 a10 a11 : Option D) : Mir.Env := [a0, some (.ref 0), some (.lst ((numsP 9).map .int)), some (.tup (ns.map encN)), some (.int t), none, a6, some (.ref 1), a8, a9, a10, a11, none, none, none, none, none, none, none, none, none, none, none, none, none]
theorem far_law (a0 : Option D) (ns : List Nat) (t : Int) (a6 a8 a9 a10 : Option D) (y : Bx) (o : Ob) : ∃ a11 z,
    b_law_25 (eLaw a0 ns t a6 a8 a9 a10) [bx y, o] = b_law_23 (eFar a0 ns t a6 a8 a9 a10 a11) [bx z, o] := by
  have d1 := dvB_lo y (m := 200) (by omega)
  have d2 := dvB_hi y (m := 200) (by omega)
  have dr := draw_ap y 200 [o] (by omega) (by omega)
  generalize hv : dvB y 200 = v at *
  obtain ⟨k, rfl⟩ : ∃ k : Nat, v = k := ⟨v.toNat, by omega⟩
  generalize dnB y 200 = z at *
  obtain ⟨f1, f2⟩ := far_ok k (by omega)
  have p1 : ∀ S, s__law_told_row [.int (72 + (k : Int))] S = .ok (.tup [.int 0, .int (rowP (72 + k))]) S := fun S => by
    have := p_told_row (72 + k) (by omega) S
    push_cast at this
    exact this
  have p2 : ∀ S, s__law_told_row [.int (72 + (k : Int) + 12)] S = .ok (.tup [.int 0, .int (rowP (84 + k))]) S := fun S => by
    have := p_told_row (84 + k) (by omega) S
    push_cast at this
    rw [show (72 + (k : Int) + 12) = 84 + k by omega]
    exact this
  rw [← f1] at p2
  refine ⟨some (.int (72 + (k : Int))), z, ?_⟩
  unfold eLaw eFar
  simp [b_law_25, dr, b_law_24, p1, p2, ne_ii, f2]
end K75
end

section
set_option Elab.async false
set_option linter.all false
set_option maxRecDepth 100000
/-! K75p: common parts, paths. -/
namespace K75
open PySem PySem.Spec Mir
/-! ### the greatest common part -/
def gStep (q : Int × Int) : Option (Int × Int) := if 0 < q.2 then some (q.2, q.1 % q.2) else none
theorem gcd_mod (n d : Int) : Int.gcd d (n % d) = Int.gcd n d := by
  have e : n = n % d + d * (n / d) := by have := Int.emod_add_mul_ediv n d; omega
  have := Int.gcd_add_mul_left_left d (n % d) (n / d)
  rw [← e] at this
  rw [Int.gcd_comm d, ← this]
theorem gcd_loop : ∀ (k : Nat) (n d : Int), 0 < d → d < k → loopO gStep k (n, d) = some ((Int.gcd n d : Int), 0)
  | 0, n, d, h1, h2 => absurd h2 (by omega)
  | k + 1, n, d, h1, h2 => by
    unfold loopO
    have e : gStep (n, d) = some (d, n % d) := if_pos h1
    rw [e]
    dsimp only
    have m0 := Int.emod_nonneg n (show d ≠ 0 by omega)
    have m1 := Int.emod_lt_of_pos n h1
    by_cases hz : n % d = 0
    · rw [hz]
      have g : (Int.gcd n d : Int) = d := by
        have := gcd_mod n d
        rw [hz, Int.gcd_zero] at this
        omega
      cases k with
      | zero => omega
      | succ k =>
        unfold loopO
        have e : gStep (d, 0) = none := by unfold gStep; simp
        rw [e, g]
    · rw [gcd_loop k d (n % d) (by omega) (by omega), gcd_mod]
def encG (q : Int × Int) : Mir.Env := [some (.int q.1), some (.int q.2)]
theorem p_common_cycles (n d : Int) (h1 : 0 < d) (h2 : d < 1000) (S : Store) : s_common_cycles [.int n, .int d] S = .ok (.int (Int.gcd n d)) S := by
  obtain ⟨env', S', w, rfl, rfl⟩ := while_loop (t := mTst (m2 vGt (mVar 1) (mC (.int 0)))) (body := b_common_cycles_1) (step := gStep) (R := fun q env S' => env = encG q ∧ S' = S) (fun q env S' r => by
    obtain ⟨rfl, rfl⟩ := r
    unfold gStep
    by_cases hq : 0 < q.2
    · rw [if_pos hq]
      simp [encG, hq, b_common_cycles_1]
    · rw [if_neg hq]
      simp [encG, hq]) (n := 1000) (env := [some (.int n), some (.int d)]) ⟨rfl, rfl⟩ (gcd_loop 1000 n d h1 h2)
  simp [s_common_cycles, b_common_cycles, b_common_cycles_3, w, encG, b_common_cycles_2]
theorem p_common_checks (n d : Int) (h1 : 0 < d) (h2 : d < 1000) (S : Store) : s_common_checks [.int n, .int d] S = .ok (.int (Int.gcd n d)) S := by
  obtain ⟨env', S', w, rfl, rfl⟩ := while_loop (t := mTst (m2 vGt (mVar 1) (mC (.int 0)))) (body := b_common_checks_1) (step := gStep) (R := fun q env S' => env = encG q ∧ S' = S) (fun q env S' r => by
    obtain ⟨rfl, rfl⟩ := r
    unfold gStep
    by_cases hq : 0 < q.2
    · rw [if_pos hq]
      simp [encG, hq, b_common_checks_1]
    · rw [if_neg hq]
      simp [encG, hq]) (n := 1000) (env := [some (.int n), some (.int d)]) ⟨rfl, rfl⟩ (gcd_loop 1000 n d h1 h2)
  simp [s_common_checks, b_common_checks, b_common_checks_3, w, encG, b_common_checks_2]
theorem p_law_common (n d : Int) (h1 : 0 < d) (h2 : d < 1000) (S : Store) : s__law_common [.int n, .int d] S = .ok (.int (Int.gcd n d)) S := by
  obtain ⟨env', S', w, rfl, rfl⟩ := while_loop (t := mTst (m2 vGt (mVar 1) (mC (.int 0)))) (body := b__law_common_1) (step := gStep) (R := fun q env S' => env = encG q ∧ S' = S) (fun q env S' r => by
    obtain ⟨rfl, rfl⟩ := r
    unfold gStep
    by_cases hq : 0 < q.2
    · rw [if_pos hq]
      simp [encG, hq, b__law_common_1]
    · rw [if_neg hq]
      simp [encG, hq]) (n := 1000) (env := [some (.int n), some (.int d)]) ⟨rfl, rfl⟩ (gcd_loop 1000 n d h1 h2)
  simp [s__law_common, b__law_common, b__law_common_3, w, encG, b__law_common_2]
/-! ### steps as text -/
def cpOf (b : Bool) : Nat := if b then 76 else 82
def strOf (bs : List Bool) : Str := ⟨(bs.map cpOf).toArray⟩
theorem str_app (a b : List Bool) : strOf a ++ strOf b = strOf (a ++ b) := by
  show (⟨_ ++ _⟩ : Str) = _
  unfold strOf
  simp
theorem str_len (bs : List Bool) : (strOf bs).length = bs.length := by
  show (bs.map cpOf).toArray.size = _
  simp
theorem str_L : ("L" : Str) = strOf [true] := by decide
theorem str_R : ("R" : Str) = strOf [false] := by decide
theorem str_0 : ("" : Str) = strOf [] := by decide
def pStep (s : List Bool × Nat × Nat) : Option (List Bool × Nat × Nat) := if s.2.1 = s.2.2 then none else if s.2.1 < s.2.2 then some (s.1 ++ [true], s.2.1, s.2.2 - s.2.1) else some (s.1 ++ [false], s.2.1 - s.2.2, s.2.2)
def pathN (n d : Nat) : Option (List Bool × Nat × Nat) := loopO pStep 1000 ([], n / Nat.gcd n d, d / Nat.gcd n d)
theorem vAdd_str (a b : Str) (S : Store) (h : a.length + b.length ≤ 16777216) : vAdd false (.str a) (.str b) S = .ok (.str (a ++ b)) S := if_pos h
theorem loopO_inv {α : Type} {step : α → Option α} {P : α → Prop} (h : ∀ a b, P a → step a = some b → P b) : ∀ {n : Nat} {a b : α}, P a → loopO step n a = some b → P b
  | 0, _, _, _, e => by cases e
  | n + 1, a, b, p, e => by
    unfold loopO at e
    cases hs : step a with
    | none => rw [hs] at e; cases e; exact p
    | some c => rw [hs] at e; exact loopO_inv h (h a c p hs) e
@[simp] theorem fin_str0 (S : Store) (x : Str) : Mir.finish false S (.rt (.str x) S) = .ok (.str x) S := by
  have hb : backOk S.length S (S ++ []) = true := backOk_app (n := S.length) S []
  rw [List.append_nil] at hb
  unfold Mir.finish
  simp [hb, outD, D.lt]
theorem p_check_ratio (n d : Nat) (hn : 1 ≤ n ∧ n ≤ 1000) (hd : 1 ≤ d ∧ d ≤ 1000) (S : Store) : s_check_ratio [.int n, .int d] S = .ok .non S := by
  simp [s_check_ratio, b_check_ratio, b_check_ratio_2, hn, hd, show (n : Int) ≤ 1000 by omega, show (d : Int) ≤ 1000 by omega, show (1 : Int) ≤ n by omega, show (1 : Int) ≤ d by omega]
theorem p_path (n d : Nat) (hn : 1 ≤ n ∧ n ≤ 60) (hd : 1 ≤ d ∧ d ≤ 60) {q : List Bool × Nat × Nat} (h : pathN n d = some q) (S : Store) : s_path [.int n, .int d] S = .ok (.str (strOf q.1)) S := by
  have g0 : 0 < Nat.gcd n d := Nat.gcd_pos_of_pos_left _ (by omega)
  have gl : Nat.gcd n d ≤ d := Nat.gcd_le_right _ (by omega)
  have gl2 : Nat.gcd n d ≤ n := Nat.gcd_le_left _ (by omega)
  have ge : (Int.gcd (n : Int) (d : Int)) = Nat.gcd n d := rfl
  have q1 : 1 ≤ n / Nat.gcd n d := (Nat.le_div_iff_mul_le g0).mpr (by omega)
  have q2 : 1 ≤ d / Nat.gcd n d := (Nat.le_div_iff_mul_le g0).mpr (by omega)
  have q3 : n / Nat.gcd n d ≤ n := Nat.div_le_self _ _
  have q4 : d / Nat.gcd n d ≤ d := Nat.div_le_self _ _
  unfold pathN at h
  generalize Nat.gcd n d = g at *
  obtain ⟨env', S', w, ⟨rfl, _⟩, rfl⟩ := while_loop (t := mTst (m2 vNeS (mVar 0) (mVar 1))) (body := b_path_3) (step := pStep) (R := fun q env S' => (env = [some (.int q.2.1), some (.int q.2.2), some (.int g), some (.str (strOf q.1))] ∧ (1 ≤ q.2.1 ∧ 1 ≤ q.2.2 ∧ q.1.length + q.2.1 + q.2.2 ≤ 2000)) ∧ S' = S) (fun q env S' r => by
    obtain ⟨⟨rfl, i1, i2, i3⟩, rfl⟩ := r
    obtain ⟨bs, a, b⟩ := q
    dsimp only at i1 i2 i3
    unfold pStep
    by_cases e : a = b
    · simp [e]
      subst e
      omega
    · have e' : ¬ (a : Int) = b := by omega
      by_cases l : a < b
      · have l' : (a : Int) < b := by omega
        have v := vAdd_str (strOf bs) (strOf [true]) S' (by rw [str_len, str_len]; simp; omega)
        rw [str_app] at v
        rw [if_neg e, if_pos l]
        refine ⟨S', by simp [e'], _, S', ?_, ⟨rfl, ?_⟩, rfl⟩
        · simp [b_path_3, l', b_path_1, str_L, v]
          omega
        · simp; omega
      · have l' : ¬ (a : Int) < b := by omega
        have v := vAdd_str (strOf bs) (strOf [false]) S' (by rw [str_len, str_len]; simp; omega)
        rw [str_app] at v
        rw [if_neg e, if_neg l]
        refine ⟨S', by simp [e'], _, S', ?_, ⟨rfl, ?_⟩, rfl⟩
        · simp [b_path_3, l', b_path_2, str_R, v]
          omega
        · simp; omega) (n := 1000) (env := [some (.int (n / g : Nat)), some (.int (d / g : Nat)), some (.int g), some (.str (strOf []))]) (S := S) ⟨⟨rfl, q1, q2, by simp; omega⟩, rfl⟩ h
  simp at w
  simp [s_path, b_path, b_path_9, p_check_ratio n d (by omega) (by omega), b_path_8, p_common_cycles n d (by omega) (by omega), ge, b_path_7, show 0 < g from g0, show (0 : Int) < g by omega, show g < 18446744073709551616 by omega, show (g : Int) < 18446744073709551616 by omega, b_path_6, str_0, b_path_5, w, b_path_4]
/-! ### the law's path -/
structure LP where
  lo : Nat × Nat
  hi : Nat × Nat
  nw : Nat × Nat
  st : List Bool
  sn : List (Nat × Nat)
def mid (a b : Nat × Nat) : Nat × Nat := (a.1 + b.1, a.2 + b.2)
def lStep (n d : Nat) (s : LP) : Option LP := if s.nw.1 * d = n * s.nw.2 then none else if n * s.nw.2 < s.nw.1 * d then some ⟨s.lo, s.nw, mid s.lo s.nw, s.st ++ [true], s.sn ++ [s.nw]⟩ else some ⟨s.nw, s.hi, mid s.nw s.hi, s.st ++ [false], s.sn ++ [s.nw]⟩
def lpath (n d : Nat) : Option LP := loopO (lStep n d) 1000 ⟨(0, 1), (1, 0), (1, 1), [], [(0, 1), (1, 0)]⟩
def encQ (q : Nat × Nat) : D := .tup [.int q.1, .int q.2]
def encB (b : Bool) : D := .str (strOf [b])
theorem strsOf_enc : ∀ bs : List Bool, strsOf (bs.map encB) = some (bs.map fun b => strOf [b])
  | [] => rfl
  | b :: bs => by
    have := strsOf_enc bs
    unfold strsOf at *
    rw [List.map_cons, List.mapM_cons, this]
    rfl
theorem join_enc (bs : List Bool) : Txt.join (strOf []) (bs.map fun b => strOf [b]) = strOf bs := by
  have e : ∀ ys, Txt.join (strOf []) ys = Str.join (strOf []) ys := fun ys => StrLaws.glued_eq_join _ ys
  rw [e]
  clear e
  induction bs with
  | nil => rfl
  | cons b bs ih =>
    cases bs with
    | nil => rfl
    | cons c bs =>
      rw [List.map_cons, List.map_cons]
      rw [List.map_cons] at ih
      have e : Str.join (strOf []) (strOf [b] :: strOf [c] :: bs.map fun b => strOf [b]) = strOf [b] ++ strOf [] ++ Str.join (strOf []) (strOf [c] :: bs.map fun b => strOf [b]) := rfl
      rw [e, ih, str_app, str_app]
      simp
theorem mJoin_bs {a : SE} {env : Mir.Env} {S S1 : Store} {x : D} {bs : List Bool} (ha : a env S = .ok x S1) (hl : Mir.listOf S1 x = some (bs.map encB)) (few : bs.length ≤ 1000000) : mJoin (mC (.str "")) a env S = .ok (.str (strOf bs)) S1 := by
  unfold mJoin
  rw [mC_ap, bind_ok, str_0]
  dsimp only
  rw [ha, bind_ok]
  simp only [hl, strsOf_enc]
  have sm : ((bs.map fun b => strOf [b]).map (·.length)).sum + (bs.map fun b => strOf [b]).length * (strOf []).length ≤ 16777216 := by
    have e : ((bs.map fun b => strOf [b]).map (·.length)) = bs.map fun _ => 1 := by
      rw [List.map_map]
      exact List.map_congr_left fun b _ => str_len [b]
    have z : (strOf []).length = 0 := rfl
    have s1 : ∀ l : List Bool, (l.map fun _ => 1).sum = l.length := fun l => by
      induction l with
      | nil => rfl
      | cons b l ih => rw [List.map_cons, List.sum_cons, ih, List.length_cons]; omega
    rw [e, z, s1]
    omega
  rw [if_pos (Nat.ble_eq_true_of_le sm), join_enc]
theorem log_le {a : Nat} (h : a < 2 ^ 250) : a.log2 ≤ 250 := by
  by_cases z : a = 0
  · subst z; decide
  · have := (Nat.log2_lt z (k := 250)).mpr h
    omega
theorem vMul_big (a b : Nat) (S : Store) (ha : a < 2 ^ 250) (hb : b < 2 ^ 250) : vMul false (.int a) (.int b) S = .ok (.int ((a : Int) * b)) S := by
  refine if_pos (Nat.ble_eq_true_of_le ?_)
  have h1 := log_le ha
  have h2 := log_le hb
  show (a : Int).natAbs.log2 + (b : Int).natAbs.log2 ≤ _
  simp
  omega
theorem lStep_len {n d : Nat} {s t : LP} (h : lStep n d s = some t) : t.st.length = s.st.length + 1 := by
  unfold lStep at h
  split at h
  · cases h
  · split at h <;> (cases h; simp)
theorem lpath_len {n d : Nat} : ∀ {k : Nat} {s q : LP}, loopO (lStep n d) k s = some q → s.st.length ≤ q.st.length
  | 0, _, _, h => by cases h
  | k + 1, s, q, h => by
    unfold loopO at h
    cases hs : lStep n d s with
    | none => rw [hs] at h; cases h; exact Nat.le_refl _
    | some t =>
      rw [hs] at h
      have := lpath_len (k := k) h
      have := lStep_len hs
      omega
structure LOk (s : LP) : Prop where
  lo : s.lo.1 ≤ 2 ^ s.st.length ∧ s.lo.2 ≤ 2 ^ s.st.length
  hi : s.hi.1 ≤ 2 ^ s.st.length ∧ s.hi.2 ≤ 2 ^ s.st.length
  nw : s.nw = mid s.lo s.hi
theorem lok_step {n d : Nat} {s t : LP} (k : LOk s) (h : lStep n d s = some t) : LOk t := by
  have hl := lStep_len h
  obtain ⟨⟨a1, a2⟩, ⟨b1, b2⟩, c⟩ := k
  have e : 2 ^ t.st.length = 2 * 2 ^ s.st.length := by rw [hl, Nat.pow_succ]; omega
  unfold lStep at h
  rw [c] at h
  unfold mid at h
  split at h
  · cases h
  · split at h
    · cases h
      refine ⟨?_, ?_, rfl⟩
      · rw [e]; dsimp only; omega
      · rw [e]; dsimp only; omega
    · cases h
      refine ⟨?_, ?_, rfl⟩
      · rw [e]; dsimp only; omega
      · rw [e]; dsimp only; omega
theorem p_law_path (n d : Nat) (hn : n ≤ 1000) (hd : d ≤ 1000) {q : LP} (h : lpath n d = some q) (hq : q.st.length ≤ 200) (hq2 : q.sn.length ≤ 1000) (S : Store) : s__law_path [.int n, .int d] S = .ok (.tup [.str (strOf q.st), .lst ((q.sn ++ [q.nw]).map encQ)]) S := by
  have big : ∀ k, k ≤ 201 → 2 ^ k < 2 ^ 250 := fun k hk => Nat.pow_lt_pow_right (by omega) (by omega)
  obtain ⟨env', S', w, rfl, rfl, _⟩ := while_loop (t := mTst (m2 vNeS (m2 (vMul false) (m2 vIx (mVar 6) (mC (.int 0))) (mVar 1)) (m2 (vMul false) (mVar 0) (m2 vIx (mVar 6) (mC (.int 1)))))) (body := b__law_path_7) (step := lStep n d)
    (R := fun s env S' => env = [some (.int n), some (.int d), some (encQ s.lo), some (encQ s.hi), some (.ref S.length), some (.ref (S.length + 1)), some (encQ s.nw)] ∧ S' = S ++ [.lst (s.st.map encB), .lst (s.sn.map encQ)] ∧ LOk s ∧ s.sn.length = s.st.length + 2 ∧ ∃ k, loopO (lStep n d) k s = some q) (fun s env S' r => by
    obtain ⟨rfl, rfl, ok, sl, k, hk⟩ := r
    have l := lpath_len hk
    have nn : n < 2 ^ 250 := by have : (1000 : Nat) < 2 ^ 250 := by decide
                                omega
    have dd : d < 2 ^ 250 := by have : (1000 : Nat) < 2 ^ 250 := by decide
                                omega
    have e1 : s.nw.1 < 2 ^ 250 := by
      rw [ok.nw]
      have := ok.lo.1; have := ok.hi.1
      have := big (s.st.length + 1) (by omega)
      rw [Nat.pow_succ] at this
      show s.lo.1 + s.hi.1 < _
      omega
    have e2 : s.nw.2 < 2 ^ 250 := by
      rw [ok.nw]
      have := ok.lo.2; have := ok.hi.2
      have := big (s.st.length + 1) (by omega)
      rw [Nat.pow_succ] at this
      show s.lo.2 + s.hi.2 < _
      omega
    have m1 := fun S => vMul_big s.nw.1 d S e1 dd
    have m2_ := fun S => vMul_big n s.nw.2 S nn e2
    have cst : ((s.nw.1 : Int) * d = n * s.nw.2) ↔ s.nw.1 * d = n * s.nw.2 := by norm_cast
    have clt : ((n : Int) * s.nw.2 < s.nw.1 * d) ↔ n * s.nw.2 < s.nw.1 * d := by norm_cast
    have tst : ∀ r0 r1 S, (mTst (m2 vNeS (m2 (vMul false) (m2 vIx (mVar 6) (mC (.int 0))) (mVar 1)) (m2 (vMul false) (mVar 0) (m2 vIx (mVar 6) (mC (.int 1)))))) [some (.int n), some (.int d), some (encQ s.lo), some (encQ s.hi), some (.ref r0), some (.ref r1), some (encQ s.nw)] S = .ok (!decide (s.nw.1 * d = n * s.nw.2)) S := fun r0 r1 S => by
      simp [encQ, m1, m2_, cst]
    have sl1 : s.st.length ≤ 16000000 := by omega
    have sl2 : s.sn.length ≤ 16000000 := by omega
    cases hs : lStep n d s with
    | none =>
      unfold lStep at hs
      split at hs
      · rename_i hc
        exact ⟨S ++ [.lst (s.st.map encB), .lst (s.sn.map encQ)], by rw [tst]; simp [hc], rfl, rfl, ok, sl, k, hk⟩
      · split at hs <;> cases hs
    | some t =>
      cases k with
      | zero => cases hk
      | succ k =>
        have okt := lok_step ok hs
        unfold loopO at hk
        rw [hs] at hk
        have hs2 := hs
        unfold lStep at hs
        split at hs
        · cases hs
        · rename_i hc
          refine ⟨S ++ [.lst (s.st.map encB), .lst (s.sn.map encQ)], by rw [tst]; simp [hc], ?_⟩
          split at hs
          · rename_i hlt
            have hlt' := clt.mpr hlt
            cases hs
            refine ⟨_, _, ?_, rfl, rfl, okt, by simp [sl], k, hk⟩
            simp [encQ, b__law_path_7, b__law_path_6, b__law_path_2, b__law_path_1, b__law_path_5, m1, m2_, hlt', sl1, sl2, mid, str_L, encB]
          · rename_i hlt
            have hlt' : ¬ ((n : Int) * s.nw.2 < s.nw.1 * d) := fun z => hlt (clt.mp z)
            cases hs
            refine ⟨_, _, ?_, rfl, rfl, okt, by simp [sl], k, hk⟩
            simp [encQ, b__law_path_7, b__law_path_6, b__law_path_4, b__law_path_3, b__law_path_5, m1, m2_, hlt', sl1, sl2, mid, str_R, encB]) (n := 1000) (env := [some (.int n), some (.int d), some (encQ (0, 1)), some (encQ (1, 0)), some (.ref S.length), some (.ref (S.length + 1)), some (encQ (1, 1))]) (S := S ++ [.lst [], .lst ([(0, 1), (1, 0)].map encQ)]) ⟨rfl, rfl, ⟨by decide, by decide, rfl⟩, rfl, 1000, h⟩ h
  have jn := mJoin_bs (a := mVar 4) (env := [some (.int n), some (.int d), some (encQ q.lo), some (encQ q.hi), some (.ref S.length), some (.ref (S.length + 1)), some (encQ q.nw)]) (S := S ++ [.lst (q.st.map encB), .lst (q.sn.map encQ)]) (S1 := S ++ [.lst (q.st.map encB), .lst (q.sn.map encQ)]) (x := .ref S.length) (bs := q.st) (by simp) (by simp [Mir.listOf]) (by omega)
  have ad : vAdd false (.ref (S.length + 1)) (.lst [encQ q.nw]) (S ++ [.lst (q.st.map encB), .lst (q.sn.map encQ)]) = .ok (.lst ((q.sn ++ [q.nw]).map encQ)) (S ++ [.lst (q.st.map encB), .lst (q.sn.map encQ)]) := by
    unfold vAdd
    simp [Mir.listOf]
    omega
  have fl : ∀ S, lts S [D.str (strOf q.st), .lst ((q.sn ++ [q.nw]).map encQ)] = true := fun S => by
    have : ∀ l : List (Nat × Nat), lts S (l.map encQ) = true := fun l => by
      induction l with
      | nil => rfl
      | cons a l ih => rw [List.map_cons]; unfold lts; rw [ih]; simp [encQ, D.lt, lts]
    have t := this (q.sn ++ [q.nw])
    simp only [lts, D.lt, t, Bool.and_self]
  have fin := fin_tup S [.str (strOf q.st), .lst ((q.sn ++ [q.nw]).map encQ)] [.lst (q.st.map encB), .lst (q.sn.map encQ)] (fl _)
  simp at w jn ad fin
  have i1 : encQ (0, 1) = .tup [.int 0, .int 1] := rfl
  have i2 : encQ (1, 0) = .tup [.int 1, .int 0] := rfl
  have i3 : encQ (1, 1) = .tup [.int 1, .int 1] := rfl
  rw [i1, i2, i3] at w
  simp [s__law_path, b__law_path, b__law_path_11, b__law_path_10, b__law_path_9, w, b__law_path_8, jn, ad, fin]
end K75
end

section
set_option Elab.async false
set_option linter.all false
set_option maxRecDepth 100000
/-! K75q: nearest fractions, in plain words. -/
namespace K75
open PySem PySem.Spec Mir
def dist (a b : Nat) : Nat := (a - b) + (b - a)
def red (a b : Nat) : Nat × Nat := (a / Nat.gcd a b, b / Nat.gcd a b)
def gapN (n d : Nat) (c : Nat × Nat) : Nat × Nat := red (dist (c.1 * d) (n * c.2)) (c.2 * d)
def lessN (a b : Nat × Nat) : Bool := decide (a.1 * b.2 < b.1 * a.2)
abbrev Sc := Option (Nat × Nat) × List (Nat × Nat)
/-- the scan looks at one fraction -/
def sStep (n d : Nat) (s : Sc) (c : Nat × Nat) : Sc :=
  if Nat.gcd c.1 c.2 = 1 then
    match s.1 with
    | none => (some (gapN n d c), [c])
    | some b => if lessN (gapN n d c) b then (some (gapN n d c), [c]) else if gapN n d c = b then (some b, s.2 ++ [c]) else s
  else s
def two (n d b : Nat) : List (Nat × Nat) := [(n * b / d, b), (n * b / d + 1, b)]
def cands (n d N : Nat) : List (Nat × Nat) := (List.range N).flatMap fun i => two n d (i + 1)
def scan (n d N : Nat) : Sc := (cands n d N).foldl (sStep n d) (none, [])
/-! ### a value for each -/
def val (n d : Nat) (c : Nat × Nat) : Nat := dist (c.1 * d) (n * c.2) * (27720 / c.2)
def InC (c : Nat × Nat) : Prop := 1 ≤ c.2 ∧ c.2 ≤ 12
theorem k_of {b : Nat} (h : 1 ≤ b ∧ b ≤ 12) : 27720 / b * b = 27720 := by
  have f : ∀ b : Fin 13, 1 ≤ b.val → 27720 / b.val * b.val = 27720 := by decide
  exact f ⟨b, by omega⟩ h.1
theorem cross {n d : Nat} (hd : 0 < d) {c e : Nat × Nat} (hc : InC c) (he : InC e) {R : Nat → Nat → Prop} (hR : ∀ a b k, 0 < k → (R (a * k) (b * k) ↔ R a b)) :
    R ((gapN n d c).1 * (gapN n d e).2) ((gapN n d e).1 * (gapN n d c).2) ↔ R (val n d c) (val n d e) := by
  unfold gapN red val
  dsimp only
  generalize dist (c.1 * d) (n * c.2) = a1
  generalize dist (e.1 * d) (n * e.2) = a2
  have kc := k_of hc
  have ke := k_of he
  have d1 : 0 < c.2 * d := Nat.mul_pos hc.1 hd
  have d2 : 0 < e.2 * d := Nat.mul_pos he.1 hd
  have g1 : 0 < Nat.gcd a1 (c.2 * d) := Nat.gcd_pos_of_pos_right _ d1
  have g2 : 0 < Nat.gcd a2 (e.2 * d) := Nat.gcd_pos_of_pos_right _ d2
  have x1 := Nat.div_mul_cancel (Nat.gcd_dvd_left a1 (c.2 * d))
  have y1 := Nat.div_mul_cancel (Nat.gcd_dvd_right a1 (c.2 * d))
  have x2 := Nat.div_mul_cancel (Nat.gcd_dvd_left a2 (e.2 * d))
  have y2 := Nat.div_mul_cancel (Nat.gcd_dvd_right a2 (e.2 * d))
  generalize Nat.gcd a1 (c.2 * d) = G1 at *
  generalize Nat.gcd a2 (e.2 * d) = G2 at *
  generalize a1 / G1 = p1 at *
  generalize c.2 * d / G1 = q1 at *
  generalize a2 / G2 = p2 at *
  generalize e.2 * d / G2 = q2 at *
  generalize 27720 / c.2 = k1 at *
  generalize 27720 / e.2 = k2 at *
  have h1 := hR (p1 * q2) (p2 * q1) (G1 * G2) (Nat.mul_pos g1 g2)
  have h2 := hR (a1 * k1) (a2 * k2) (c.2 * e.2) (Nat.mul_pos hc.1 he.1)
  have h3 := hR (a1 * e.2) (a2 * c.2) d hd
  have h4 := hR (a1 * e.2) (a2 * c.2) 27720 (by decide)
  rw [← h1, ← h2]
  have e1 : p1 * q2 * (G1 * G2) = a1 * e.2 * d := by
    rw [← x1, Nat.mul_assoc (p1 * G1), ← y2]
    ac_rfl
  have e2 : p2 * q1 * (G1 * G2) = a2 * c.2 * d := by
    rw [← x2, Nat.mul_assoc (p2 * G2), ← y1]
    ac_rfl
  have e3 : a1 * k1 * (c.2 * e.2) = a1 * e.2 * 27720 := by
    rw [← kc]
    ac_rfl
  have e4 : a2 * k2 * (c.2 * e.2) = a2 * c.2 * 27720 := by
    rw [← ke]
    ac_rfl
  rw [e1, e2, e3, e4, h3, h4]
theorem less_val {n d : Nat} (hd : 0 < d) {c e : Nat × Nat} (hc : InC c) (he : InC e) : lessN (gapN n d c) (gapN n d e) = decide (val n d c < val n d e) := by
  unfold lessN
  have := cross (n := n) hd hc he (R := fun a b => a < b) (fun a b k hk => Nat.mul_lt_mul_right hk)
  simp only [this]
theorem gap_eq {n d : Nat} (hd : 0 < d) {c e : Nat × Nat} (hc : InC c) (he : InC e) : gapN n d c = gapN n d e ↔ val n d c = val n d e := by
  have x := cross (n := n) hd hc he (R := fun a b => a = b) (fun a b k hk => ⟨fun h => Nat.eq_of_mul_eq_mul_right hk h, fun h => by rw [h]⟩)
  rw [← x]
  constructor
  · intro h
    rw [h]
  · intro h
    have cop : ∀ c, InC c → Nat.Coprime (gapN n d c).1 (gapN n d c).2 := fun c hc => Nat.coprime_div_gcd_div_gcd (Nat.gcd_pos_of_pos_right _ (Nat.mul_pos hc.1 hd))
    have c1 := cop c hc
    have c2 := cop e he
    have pos : ∀ c, InC c → 0 < (gapN n d c).2 := fun c hc => Nat.div_pos (Nat.gcd_le_right _ (Nat.mul_pos hc.1 hd)) (Nat.gcd_pos_of_pos_right _ (Nat.mul_pos hc.1 hd))
    have p1 := pos c hc
    have p2 := pos e he
    generalize gapN n d c = u at *
    generalize gapN n d e = v at *
    have a1 : u.1 ∣ v.1 := c1.dvd_of_dvd_mul_right (by rw [← h]; exact Nat.dvd_mul_right _ _)
    have a2 : v.1 ∣ u.1 := c2.dvd_of_dvd_mul_right (by rw [h]; exact Nat.dvd_mul_right _ _)
    have e1 := Nat.dvd_antisymm a1 a2
    have b1 : u.2 ∣ v.2 := c1.symm.dvd_of_dvd_mul_left (by rw [h]; exact Nat.dvd_mul_left _ _)
    have b2 : v.2 ∣ u.2 := c2.symm.dvd_of_dvd_mul_left (by rw [← h]; exact Nat.dvd_mul_left _ _)
    exact Prod.ext e1 (Nat.dvd_antisymm b1 b2)
/-! ### the scan finds the least ones -/
def mins (n d : Nat) (l : List (Nat × Nat)) : List (Nat × Nat) := l.filter fun c => l.all fun e => !decide (val n d e < val n d c)
def fr (l : List (Nat × Nat)) : List (Nat × Nat) := l.filter fun c => Nat.gcd c.1 c.2 == 1
structure SOk (n d : Nat) (L : List (Nat × Nat)) (s : Sc) : Prop where
  f : s.2 = mins n d L
  b : match s.1 with
    | none => L = []
    | some g => ∃ m ∈ L, g = gapN n d m ∧ ∀ e ∈ L, val n d m ≤ val n d e
theorem sok_step {n d : Nat} (hd : 0 < d) {L : List (Nat × Nat)} {s : Sc} (hL : ∀ c ∈ L, InC c) (k : SOk n d L s) {c : Nat × Nat} (hc : InC c) (hg : Nat.gcd c.1 c.2 = 1) : SOk n d (L ++ [c]) (sStep n d s c) := by
  obtain ⟨b, f⟩ := s
  obtain ⟨kf, kb⟩ := k
  dsimp only at kf kb
  unfold sStep
  rw [if_pos hg]
  dsimp only
  cases b with
  | none =>
    dsimp only at kb ⊢
    subst kb
    refine ⟨by simp [mins], ⟨c, by simp, rfl, fun e he => ?_⟩⟩
    rw [show e = c by simpa using he]
    exact Nat.le_refl _
  | some g =>
    dsimp only at kb ⊢
    obtain ⟨m, hm, rfl, hmin⟩ := kb
    have lv := less_val (n := n) hd hc (hL m hm)
    have gv := gap_eq (n := n) hd hc (hL m hm)
    rw [lv]
    by_cases h1 : val n d c < val n d m
    · rw [if_pos (decide_eq_true h1)]
      refine ⟨?_, ⟨c, by simp, rfl, fun e he => ?_⟩⟩
      · show [c] = mins n d (L ++ [c])
        unfold mins
        rw [List.filter_append]
        have e1 : L.filter (fun c_1 => (L ++ [c]).all fun e => !decide (val n d e < val n d c_1)) = [] := by
          rw [List.filter_eq_nil_iff]
          intro x hx h
          have := List.all_eq_true.mp h c (by simp)
          have := hmin x hx
          simp at *
          omega
        rw [e1, List.nil_append, List.filter_cons_of_pos]
        · rfl
        · refine List.all_eq_true.mpr fun e he => ?_
          rcases List.mem_append.mp he with he | he
          · have := hmin e he
            simp
            omega
          · rw [List.mem_singleton.mp he]; simp
      · rcases List.mem_append.mp he with he | he
        · have := hmin e he
          omega
        · rw [List.mem_singleton.mp he]; exact Nat.le_refl _
    · rw [if_neg (by simpa using h1)]
      have up : ∀ x ∈ L, (L.all fun e => !decide (val n d e < val n d x)) = true → val n d x ≤ val n d m := fun x hx h => by
        have := List.all_eq_true.mp h m hm
        simpa using this
      have e0 : L.filter (fun x => (L ++ [c]).all fun e => !decide (val n d e < val n d x)) = mins n d L := by
        unfold mins
        refine List.filter_congr fun x hx => ?_
        rw [List.all_append]
        cases h : L.all fun e => !decide (val n d e < val n d x) with
        | false => rfl
        | true =>
          have := up x hx h
          simp
          omega
      by_cases h2 : gapN n d c = gapN n d m
      · rw [if_pos h2]
        have hv := gv.mp h2
        refine ⟨?_, ⟨m, List.mem_append_left _ hm, rfl, fun e he => ?_⟩⟩
        · show f ++ [c] = mins n d (L ++ [c])
          rw [kf]
          show _ = (L ++ [c]).filter _
          rw [List.filter_append, e0, List.filter_cons_of_pos]
          · rfl
          · refine List.all_eq_true.mpr fun e he => ?_
            rcases List.mem_append.mp he with he | he
            · have := hmin e he
              simp
              omega
            · rw [List.mem_singleton.mp he]; simp
        · rcases List.mem_append.mp he with he | he
          · exact hmin e he
          · rw [List.mem_singleton.mp he]; omega
      · rw [if_neg h2]
        have hv : val n d c ≠ val n d m := fun z => h2 (gv.mpr z)
        refine ⟨?_, ⟨m, List.mem_append_left _ hm, rfl, fun e he => ?_⟩⟩
        · show f = mins n d (L ++ [c])
          rw [kf]
          show _ = (L ++ [c]).filter _
          rw [List.filter_append, e0, List.filter_cons_of_neg]
          · simp
          · intro h
            have := List.all_eq_true.mp h m (List.mem_append_left _ hm)
            simp at this
            omega
        · rcases List.mem_append.mp he with he | he
          · exact hmin e he
          · rw [List.mem_singleton.mp he]; omega
theorem sok_fold {n d : Nat} (hd : 0 < d) : ∀ (l L : List (Nat × Nat)) (s : Sc), (∀ c ∈ L, InC c) → (∀ c ∈ l, InC c) → SOk n d L s → SOk n d (L ++ fr l) (l.foldl (sStep n d) s)
  | [], L, s, _, _, k => by simpa [fr] using k
  | c :: l, L, s, hL, hl, k => by
    rw [List.foldl_cons]
    unfold fr
    by_cases hg : Nat.gcd c.1 c.2 = 1
    · have st := sok_step hd hL k (hl c List.mem_cons_self) hg
      have := sok_fold hd l (L ++ [c]) _ (fun x hx => by
        rcases List.mem_append.mp hx with hx | hx
        · exact hL x hx
        · rw [List.mem_singleton.mp hx]; exact hl c List.mem_cons_self) (fun x hx => hl x (List.mem_cons_of_mem _ hx)) st
      rw [List.filter_cons_of_pos (by simpa using hg)]
      simpa [fr] using this
    · have e : sStep n d s c = s := if_neg hg
      rw [e, List.filter_cons_of_neg (by simpa using hg)]
      exact sok_fold hd l L s hL (fun x hx => hl x (List.mem_cons_of_mem _ hx)) k
theorem cands_in {n d N : Nat} (hN : N ≤ 12) : ∀ c ∈ cands n d N, InC c := fun c hc => by
  obtain ⟨i, hi, h⟩ := List.mem_flatMap.mp hc
  have hi := List.mem_range.mp hi
  unfold two at h
  have : c.2 = i + 1 := by
    rcases List.mem_cons.mp h with rfl | h
    · rfl
    · rw [List.mem_singleton.mp h]
  unfold InC
  omega
theorem scan_is {n d N : Nat} (hd : 0 < d) (hN : N ≤ 12) : (scan n d N).2 = mins n d (fr (cands n d N)) := by
  have := sok_fold (n := n) hd (cands n d N) [] (none, []) (fun c hc => by cases hc) (cands_in hN) ⟨rfl, rfl⟩
  rw [List.nil_append] at this
  exact this.f
end K75
end

section
set_option Elab.async false
set_option linter.all false
set_option maxRecDepth 100000
/-! K75r: all fractions, looked at. -/
namespace K75
open PySem PySem.Spec Mir
def leB (n d : Nat) (c : Nat × Nat) : Bool := Nat.ble (c.1 * d) (n * c.2)
def shape (n d : Nat) : List (Nat × Nat) → Bool
  | [_] => true
  | [a, b] => leB n d a != leB n d b
  | _ => false
def isIn (c : Nat × Nat) : List (Nat × Nat) → Bool
  | [] => false
  | e :: l => (Nat.beq c.1 e.1 && Nat.beq c.2 e.2) || isIn c l
def chkGo (n d : Nat) (seen : List (Nat × Nat)) : Nat → Nat → Sc → Bool
  | 0, _, _ => true
  | k + 1, b, s => (fun s' : Sc => (shape n d s'.2 && s'.2.all fun c => isIn c seen) && chkGo n d seen k (b + 1) s') ((two n d b).foldl (sStep n d) s)
def beqB : List Bool → List Bool → Bool
  | [], [] => true
  | true :: a, true :: b => beqB a b
  | false :: a, false :: b => beqB a b
  | _, _ => false
def chkND (n d : Nat) : Bool := match lpath n d, pathN n d, pathN d n with
  | some q, some p, some r => (beqB p.1 q.st && (beqB r.1 (q.st.map not) && (Nat.ble q.st.length 200 && Nat.ble q.sn.length 900))) && chkGo n d (q.sn ++ [q.nw]) 12 1 (none, [])
  | _, _, _ => false
def chk (n : Nat) : Bool := (List.range 60).all fun i => chkND n (i + 1)
end K75
end

section
set_option Elab.async false
set_option linter.all false
set_option maxRecDepth 100000
/-! K75u: nearest_to walked. -/
namespace K75
open PySem PySem.Spec Mir
def encG2 : Option (Nat × Nat) → D
  | none => .non
  | some g => encQ g
def rowQ (c : Nat × Nat) : List Int := [(c.1 : Int), (c.2 : Int)]
def keyQ (n d : Nat) (c : Nat × Nat) : Int := (c.1 : Int) * d - n * c.2
theorem encQ_row (c : Nat × Nat) : encQ c = encRow (rowQ c) := rfl
theorem dist_is (a b : Nat) : ((a : Int) + -(b : Int)).natAbs = dist a b := by unfold dist; omega
/-- the difference of two fractions -/
theorem p_minus (n d : Nat) (c : Nat × Nat) (hd : 1 ≤ d ∧ d ≤ 60) (hn : n ≤ 60) (hc : InC c) (ha : c.1 ≤ 1000) (S : Store) : ∃ x : Int, s_minus [encQ c, .tup [.int n, .int d]] S = .ok (.tup [.int x, .int (gapN n d c).2]) S ∧ x.natAbs = (gapN n d c).1 := by
  obtain ⟨h1, h2⟩ := hc
  have m1 : c.1 * d ≤ 1000 * 60 := Nat.mul_le_mul ha hd.2
  have m2 : n * c.2 ≤ 60 * 12 := Nat.mul_le_mul hn h2
  have m3 : c.2 * d ≤ 12 * 60 := Nat.mul_le_mul h2 hd.2
  have m4 : 1 ≤ c.2 * d := Nat.mul_pos h1 hd.1
  have e1 : (c.1 : Int) * d + -(n : Int) * c.2 = ((c.1 * d : Nat) : Int) + -((n * c.2 : Nat) : Int) := by push_cast; rw [Int.neg_mul]
  have e2 : (c.2 : Int) * d = ((c.2 * d : Nat) : Int) := by push_cast; rfl
  have gg : (Int.gcd ((c.1 : Int) * d + -(n : Int) * c.2) ((c.2 : Int) * d) : Nat) = Nat.gcd (dist (c.1 * d) (n * c.2)) (c.2 * d) := by
    rw [e1, e2, Int.gcd_eq_natAbs_gcd_natAbs, dist_is]
    rfl
  have g0 : 0 < Nat.gcd (dist (c.1 * d) (n * c.2)) (c.2 * d) := Nat.gcd_pos_of_pos_right _ m4
  have gl : Nat.gcd (dist (c.1 * d) (n * c.2)) (c.2 * d) ≤ c.2 * d := Nat.gcd_le_right _ m4
  have pc := p_common_checks ((c.1 : Int) * d + -(n : Int) * c.2) ((c.2 : Int) * d) (by rw [e2]; omega) (by rw [e2]; omega) S
  rw [gg] at pc
  have dv := Int.natAbs_ediv_of_dvd (a := (c.1 : Int) * d + -(n : Int) * c.2) (b := (Nat.gcd (dist (c.1 * d) (n * c.2)) (c.2 * d) : Nat)) (by
    rw [← gg]; exact Int.gcd_dvd_left ..)
  refine ⟨((c.1 : Int) * d + -(n : Int) * c.2) / (Nat.gcd (dist (c.1 * d) (n * c.2)) (c.2 * d) : Nat), ?_, ?_⟩
  · unfold gapN red
    dsimp only
    generalize Nat.gcd (dist (c.1 * d) (n * c.2)) (c.2 * d) = g at *
    have v2 : (((c.2 * d / g : Nat)) : Int) = (c.2 : Int) * d / g := by rw [Int.natCast_ediv]; push_cast; rfl
    simp [s_minus, b_minus, b_minus_1, encQ, s_plus, b_plus, b_plus_1, s_fraction, b_fraction, b_fraction_2, pc, b_fraction_1, show c.1 < 18446744073709551616 by omega, show c.2 < 18446744073709551616 by omega, show d < 18446744073709551616 by omega, show n < 18446744073709551616 by omega, show (0 : Int) < g by omega, g0, show g < 18446744073709551616 by omega, show (g : Int) < 18446744073709551616 by omega, lts, D.lt]
  · rw [dv, e1, dist_is]
    rfl
theorem eq_Q (a b : Nat × Nat) (S : Store) : vEqS (encQ a) (encQ b) S = .ok (.bl (decide (a = b))) S := by
  have := vEqS_tups S [(a.1 : Int), (a.2 : Int)] [(b.1 : Int), (b.2 : Int)]
  have e : ([(a.1 : Int), (a.2 : Int)] = [(b.1 : Int), (b.2 : Int)]) ↔ a = b := by
    obtain ⟨a1, a2⟩ := a
    obtain ⟨b1, b2⟩ := b
    simp
    omega
  simp only [e] at this
  exact this
def small (g : Nat × Nat) : Prop := g.1 ≤ 100000 ∧ g.2 ≤ 1000
theorem gap_small {n d : Nat} {c : Nat × Nat} (hd : d ≤ 60) (hn : n ≤ 60) (hc : InC c) (ha : c.1 ≤ 1000) : small (gapN n d c) := by
  obtain ⟨h1, h2⟩ := hc
  have m1 : c.1 * d ≤ 1000 * 60 := Nat.mul_le_mul ha hd
  have m2 : n * c.2 ≤ 60 * 12 := Nat.mul_le_mul hn h2
  have m3 : c.2 * d ≤ 12 * 60 := Nat.mul_le_mul h2 hd
  unfold small gapN red
  have a := Nat.div_le_self (dist (c.1 * d) (n * c.2)) (Nat.gcd (dist (c.1 * d) (n * c.2)) (c.2 * d))
  have b := Nat.div_le_self (c.2 * d) (Nat.gcd (dist (c.1 * d) (n * c.2)) (c.2 * d))
  have : dist (c.1 * d) (n * c.2) ≤ 61000 := by unfold dist; omega
  dsimp only
  omega
theorem p_less {a b : Nat × Nat} (ha : small a) (hb : small b) (S : Store) : s_less [encQ a, encQ b] S = .ok (.bl (lessN a b)) S := by
  obtain ⟨a1, a2⟩ := ha
  obtain ⟨b1, b2⟩ := hb
  have e : ((a.1 : Int) * b.2 < b.1 * a.2) ↔ a.1 * b.2 < b.1 * a.2 := by norm_cast
  simp [s_less, b_less, b_less_1, encQ, lessN, e, show a.1 < 18446744073709551616 by omega, show a.2 < 18446744073709551616 by omega, show b.1 < 18446744073709551616 by omega, show b.2 < 18446744073709551616 by omega]
structure St (S0 : Store) (s : Sc) (f : Nat) (S : Store) : Prop where
  at_ : S[f]? = some (.lst (s.2.map encQ))
  pre : ∃ T, S = S0 ++ T
  lo : S0.length ≤ f
  sm : ∀ g, s.1 = some g → small g
  few : s.2.length ≤ 1000
theorem cand_go (n d N : Nat) (hd : 1 ≤ d ∧ d ≤ 60) (hn : n ≤ 60) (S0 : Store) (s : Sc) (f : Nat) (S : Store) (k : St S0 s f S) (kf : s.2.length ≤ 900) (c : Nat × Nat) (hc : InC c) (ha : c.1 ≤ 1000) (o6 o8 : Option D) :
    ∃ f' S' o8', b_nearest_to_8 [some (.int n), some (.int d), some (.int N), some (encG2 s.1), some (.ref f), some (.int c.2), o6, some (.int c.1), o8] S =
      .nx [some (.int n), some (.int d), some (.int N), some (encG2 (sStep n d s c).1), some (.ref f'), some (.int c.2), o6, some (.int c.1), o8'] S' ∧ St S0 (sStep n d s c) f' S' ∧ (sStep n d s c).2.length ≤ s.2.length + 1 := by
  obtain ⟨at_, ⟨T, rfl⟩, lo, sm, few⟩ := k
  have cg := p_common_cycles c.1 c.2 (by have := hc.1; omega) (by have := hc.2; omega) (S0 ++ T)
  have ge : (Int.gcd (c.1 : Int) (c.2 : Int)) = Nat.gcd c.1 c.2 := rfl
  rw [ge] at cg
  by_cases hg : Nat.gcd c.1 c.2 = 1
  · have hg' : ((Nat.gcd c.1 c.2 : Nat) : Int) = 1 := by omega
    obtain ⟨x, mi, xa⟩ := p_minus n d c hd hn hc ha (S0 ++ T)
    have gs := gap_small hd.2 hn hc ha
    have mi : s_minus [.tup [.int c.1, .int c.2], .tup [.int n, .int d]] (S0 ++ T) = _ := mi
    have gq : (D.tup [.int ((gapN n d c).1 : Nat), .int ((gapN n d c).2 : Nat)]) = encQ (gapN n d c) := rfl
    have start : b_nearest_to_8 [some (.int n), some (.int d), some (.int N), some (encG2 s.1), some (.ref f), some (.int c.2), o6, some (.int c.1), o8] (S0 ++ T) =
        (b_nearest_to_5 [some (.int n), some (.int d), some (.int N), some (encG2 s.1), some (.ref f), some (.int c.2), o6, some (.int c.1), some (encQ (gapN n d c))] (S0 ++ T)).seq sNil := by
      simp [b_nearest_to_8, cg, hg', b_nearest_to_7, mi, b_nearest_to_6, xa, gq]
    rw [start]
    generalize hgap : gapN n d c = g at *
    obtain ⟨b, F⟩ := s
    dsimp only at at_ sm few kf ⊢
    have ee := eq_Q g g
    have fl : F.length ≤ 16000000 := by omega
    have fll : f < (S0 ++ T).length := (List.getElem?_eq_some_iff.mp at_).1
    -- a new least one
    have fresh : ∃ f' S', b_nearest_to_2 [some (.int n), some (.int d), some (.int N), some (encG2 b), some (.ref f), some (.int c.2), o6, some (.int c.1), some (encQ g)] (S0 ++ T) =
        .nx [some (.int n), some (.int d), some (.int N), some (encQ g), some (.ref f'), some (.int c.2), o6, some (.int c.1), some (encQ g)] S' ∧ S' = S0 ++ T ++ [.lst []] ∧ f' = (S0 ++ T).length := ⟨_, _, by simp [b_nearest_to_2], rfl, rfl⟩
    obtain ⟨f', S', fr1, rfl, rfl⟩ := fresh
    have tail4 : ∀ (f : Nat) (G : List (Nat × Nat)) (S : Store), S[f]? = some (.lst (G.map encQ)) → G.length ≤ 16000000 → b_nearest_to_4 [some (.int n), some (.int d), some (.int N), some (encQ g), some (.ref f), some (.int c.2), o6, some (.int c.1), some (encQ g)] S =
        .nx [some (.int n), some (.int d), some (.int N), some (encQ g), some (.ref f), some (.int c.2), o6, some (.int c.1), some (encQ g)] (S.set f (.lst ((G ++ [c]).map encQ))) := fun f G S h hl => by
      have cq : D.tup [.int (c.1 : Int), .int (c.2 : Int)] = encQ c := rfl
      simp [b_nearest_to_4, ee, b_nearest_to_3, h, hl, cq]
    have skip4 : ∀ (g0 : Nat × Nat) (f : Nat) (S : Store), g ≠ g0 → b_nearest_to_4 [some (.int n), some (.int d), some (.int N), some (encQ g0), some (.ref f), some (.int c.2), o6, some (.int c.1), some (encQ g)] S =
        .nx [some (.int n), some (.int d), some (.int N), some (encQ g0), some (.ref f), some (.int c.2), o6, some (.int c.1), some (encQ g)] S := fun g0 f S h => by
      have := eq_Q g g0
      simp [b_nearest_to_4, this, h]
    have t4 := tail4 (S0 ++ T).length [] (S0 ++ T ++ [.lst []]) (by simp) (by simp)
    have new : ∀ s' : Sc, s' = (some g, [c]) → (∀ o, b_nearest_to_5 [some (.int n), some (.int d), some (.int N), some (encG2 b), some (.ref f), some (.int c.2), o6, some (.int c.1), some (encQ g)] (S0 ++ T) = (b_nearest_to_2 [some (.int n), some (.int d), some (.int N), some (encG2 b), some (.ref f), some (.int c.2), o6, some (.int c.1), some (encQ g)] (S0 ++ T)).seq b_nearest_to_4 ∨ o = 0) → ∃ f' S' o8', (b_nearest_to_5 [some (.int n), some (.int d), some (.int N), some (encG2 b), some (.ref f), some (.int c.2), o6, some (.int c.1), some (encQ g)] (S0 ++ T)).seq sNil =
        .nx [some (.int n), some (.int d), some (.int N), some (encG2 s'.1), some (.ref f'), some (.int c.2), o6, some (.int c.1), o8'] S' ∧ St S0 s' f' S' ∧ s'.2.length ≤ F.length + 1 := fun s' e h5 => by
      subst e
      have h5 := (h5 1).resolve_right (by decide)
      refine ⟨(S0 ++ T).length, _, some (encQ g), by rw [h5, fr1, seq_nx, t4, seq_nx, sNil_ap]; rfl, ⟨by simp, ⟨T ++ [.lst [encQ c]], by simp [encQ]⟩, by simp, fun g' h => by cases h; exact gs, by simp⟩, by simp⟩
    cases b with
    | none =>
      have e : sStep n d (none, F) c = (some g, [c]) := by simp [sStep, hg, hgap]
      exact new _ e fun o => .inl (by simp [b_nearest_to_5, encG2])
    | some g0 =>
      have pl := p_less gs (sm g0 rfl) (S0 ++ T)
      by_cases h1 : lessN g g0 = true
      · have e : sStep n d (some g0, F) c = (some g, [c]) := by simp [sStep, hg, hgap, h1]
        refine new _ e fun o => .inl ?_
        have en : ∀ S, vIs (encQ g0) .non S = .ok (.bl false) S := fun S => rfl
        simp [b_nearest_to_5, encG2, pl, h1, en]
      · have en : ∀ S, vIs (encQ g0) .non S = .ok (.bl false) S := fun S => rfl
        have h5 : b_nearest_to_5 [some (.int n), some (.int d), some (.int N), some (encG2 (some g0)), some (.ref f), some (.int c.2), o6, some (.int c.1), some (encQ g)] (S0 ++ T) = b_nearest_to_4 [some (.int n), some (.int d), some (.int N), some (encG2 (some g0)), some (.ref f), some (.int c.2), o6, some (.int c.1), some (encQ g)] (S0 ++ T) := by
          simp [b_nearest_to_5, encG2, pl, h1, en]
        rw [h5]
        by_cases h2 : g = g0
        · subst h2
          have e : sStep n d (some g, F) c = (some g, F ++ [c]) := by simp [sStep, hg, hgap, h1]
          rw [e]
          have t := tail4 f F (S0 ++ T) at_ fl
          refine ⟨f, _, some (encQ g), by show (b_nearest_to_4 [some (.int n), some (.int d), some (.int N), some (encQ g), _, _, _, _, _] _).seq sNil = _; rw [t, seq_nx, sNil_ap]; rfl, ⟨List.getElem?_set_self fll, ?_, lo, sm, by simp; omega⟩, by simp⟩
          refine ⟨T.set (f - S0.length) (.lst ((F ++ [c]).map encQ)), ?_⟩
          rw [List.set_append_right _ _ lo]
        · have e : sStep n d (some g0, F) c = (some g0, F) := by simp [sStep, hg, hgap, h1, h2]
          rw [e]
          have t := skip4 g0 f (S0 ++ T) h2
          exact ⟨f, S0 ++ T, some (encQ g), by show (b_nearest_to_4 [some (.int n), some (.int d), some (.int N), some (encQ g0), _, _, _, _, _] _).seq sNil = _; rw [t, seq_nx, sNil_ap]; rfl, ⟨at_, ⟨T, rfl⟩, lo, sm, few⟩, Nat.le_succ _⟩
  · have hg' : ¬ ((Nat.gcd c.1 c.2 : Nat) : Int) = 1 := by omega
    have e : sStep n d s c = s := if_neg hg
    rw [e]
    exact ⟨f, S0 ++ T, o8, by simp [b_nearest_to_8, cg, hg'], ⟨at_, ⟨T, rfl⟩, lo, sm, few⟩, by omega⟩
theorem runF_two' {body : D → SS} {x y : D} {env e1 e2 : Mir.Env} {S S1 S2 : Store} (h1 : body x env S = .nx e1 S1) (h2 : body y e1 S1 = .nx e2 S2) : runF body [x, y] env S = .nx e2 S2 := by
  unfold runF
  rw [h1]
  dsimp only
  unfold runF
  rw [h2]
  rfl
theorem below_go (n d N : Nat) (hd : 1 ≤ d ∧ d ≤ 60) (hn : n ≤ 60) (S0 : Store) (s : Sc) (f : Nat) (S : Store) (k : St S0 s f S) (kf : s.2.length ≤ 800) (b : Nat) (hb : 1 ≤ b ∧ b ≤ 12) (o6 o7 o8 : Option D) :
    ∃ f' S' o6' o7' o8', b_nearest_to_10 [some (.int n), some (.int d), some (.int N), some (encG2 s.1), some (.ref f), some (.int b), o6, o7, o8] S =
      .nx [some (.int n), some (.int d), some (.int N), some (encG2 ((two n d b).foldl (sStep n d) s).1), some (.ref f'), some (.int b), o6', o7', o8'] S' ∧ St S0 ((two n d b).foldl (sStep n d) s) f' S' ∧ ((two n d b).foldl (sStep n d) s).2.length ≤ s.2.length + 2 := by
  have m2 : n * b ≤ 60 * 12 := Nat.mul_le_mul hn hb.2
  have q1 : n * b / d ≤ n * b := Nat.div_le_self _ _
  have ev : ((n : Int) * b) / d = ((n * b / d : Nat) : Int) := by rw [Int.natCast_ediv]; push_cast; rfl
  obtain ⟨f1, S1, o8a, e1, k1, l1⟩ := cand_go n d N hd hn S0 s f S k (by omega) (n * b / d, b) hb (by dsimp only; omega) (some (.int (n * b / d : Nat))) o8
  obtain ⟨f2, S2, o8b, e2, k2, l2⟩ := cand_go n d N hd hn S0 (sStep n d s (n * b / d, b)) f1 S1 k1 (by omega) (n * b / d + 1, b) hb (by dsimp only; omega) (some (.int (n * b / d : Nat))) o8a
  have fo : (two n d b).foldl (sStep n d) s = sStep n d (sStep n d s (n * b / d, b)) (n * b / d + 1, b) := rfl
  rw [fo]
  clear fo
  generalize n * b / d = q at *
  refine ⟨f2, S2, some (.int (q : Nat)), some (.int (q + 1 : Nat)), o8b, ?_, k2, by omega⟩
  dsimp only at e1 e2
  have r := runF_two' (body := bodyF (gSet 7) b_nearest_to_8) (x := .int (q : Nat)) (y := .int (q + 1 : Nat)) (env := [some (.int n), some (.int d), some (.int N), some (encG2 s.1), some (.ref f), some (.int b), some (.int (q : Nat)), o7, o8]) (S := S) (by simpa using e1) (by simpa using e2)
  push_cast at r ⊢
  simp [b_nearest_to_10, show n < 18446744073709551616 by omega, show b < 18446744073709551616 by omega, show (d : Int) < 18446744073709551616 by omega, show (0 : Int) < d by omega, show d < 18446744073709551616 by omega, show 0 < d by omega, ev, b_nearest_to_9, r]
theorem cands_succ (n d k : Nat) : cands n d (k + 1) = cands n d k ++ two n d (k + 1) := by
  unfold cands
  rw [List.range_succ, List.flatMap_append]
  simp
theorem scan_succ (n d k : Nat) : scan n d (k + 1) = (two n d (k + 1)).foldl (sStep n d) (scan n d k) := by
  unfold scan
  rw [cands_succ, List.foldl_append]
theorem rowsOf_Q : ∀ F : List (Nat × Nat), rowsOf (F.map encQ) = some (F.map rowQ)
  | [] => rfl
  | c :: F => by
    have := rowsOf_Q F
    unfold rowsOf at *
    rw [List.map_cons, List.mapM_cons, this]
    have e : rowOf (encQ c) = some (rowQ c) := intsOf_map (rowQ c)
    rw [e]
    rfl
abbrev kf : KS := k2K oSub (k2K oMul (kIxK 0) (kVr 1)) (k2K oMul (kVr 0) (kIxK 1))
theorem keys_Q (n d : Nat) (hn : n ≤ 60) (env : Mir.Env) (e0 : env[0]? = some (some (.int n))) (e1 : env[1]? = some (some (.int d))) : ∀ F : List (Nat × Nat), (∀ c ∈ F, c.1 ≤ 100000) → (F.map rowQ).mapM (kf env) = some (F.map (keyQ n d))
  | [], _ => rfl
  | c :: F, h => by
    have := keys_Q n d hn env e0 e1 F fun x hx => h x (List.mem_cons_of_mem _ hx)
    rw [List.map_cons, List.mapM_cons, this]
    have hc := h c List.mem_cons_self
    have v0 : kVr 0 env (rowQ c) = some (n : Int) := by unfold kVr; rw [e0]
    have v1 : kVr 1 env (rowQ c) = some (d : Int) := by unfold kVr; rw [e1]
    have e : kf env (rowQ c) = some (keyQ n d c) := by
      unfold kf k2K
      rw [v0, v1]
      show (match (match (some (c.1 : Int) : Option Int) with
        | some i => oMul i d
        | none => none) with
        | some i => (match oMul n (c.2 : Int) with
          | some j => oSub i j
          | none => none)
        | none => none) = _
      have m1 : oMul (c.1 : Int) d = some ((c.1 : Int) * d) := if_pos (by simp; omega)
      have m2 : oMul (n : Int) c.2 = some ((n : Int) * c.2) := if_pos (by simp; omega)
      dsimp only
      rw [m1, m2]
      rfl
    rw [e]
    rfl
theorem mSortKey_Q (n d : Nat) (hn : n ≤ 60) {a : SE} {env : Mir.Env} {S S1 : Store} {x : D} {F : List (Nat × Nat)} (ha : a env S = .ok x S1) (hl : Mir.listOf S1 x = some (F.map encQ)) (e0 : env[0]? = some (some (.int n))) (e1 : env[1]? = some (some (.int d))) (hF : ∀ c ∈ F, c.1 ≤ 100000) (nd : (F.map (keyQ n d)).Nodup) :
    mSortKey false kf a env S = .ok (.lst (((sortK ((F.map rowQ).zip (F.map (keyQ n d)))).map fun r => encRow r.1))) S1 := by
  unfold mSortKey
  rw [ha, bind_ok]
  simp only [hl, rowsOf_Q, keys_Q n d hn env e0 e1 F hF]
  rw [if_pos (decide_eq_true nd)]
  rfl
def sortedQ (n d : Nat) (F : List (Nat × Nat)) : List (List Int) := (sortK ((F.map rowQ).zip (F.map (keyQ n d)))).map (·.1)
theorem p_nearest (n d N : Nat) (hn : 1 ≤ n ∧ n ≤ 60) (hd : 1 ≤ d ∧ d ≤ 60) (hN : 1 ≤ N ∧ N ≤ 12) (nd : ((scan n d N).2.map (keyQ n d)).Nodup) (S : Store) : s_nearest_to [.int n, .int d, .int N] S = .ok (.tup ((sortedQ n d (scan n d N).2).map encRow)) S := by
  simp [s_nearest_to, b_nearest_to, b_nearest_to_15, p_check_ratio n d (by omega) (by omega), b_nearest_to_14, show (1 : Int) ≤ N by omega, show (N : Int) ≤ 1000 by omega, show N ≤ 1000 by omega, show 1 ≤ N by omega, b_nearest_to_13, b_nearest_to_12, show (-4611686018427387904 : Int) ≤ (N : Int) + 1 by omega, show (N : Int) + 1 < 4611686018427387904 by omega]
  generalize hx : runF _ _ _ _ = fl
  obtain ⟨env, S', rfl, f, ⟨o5, o6, o7, o8, rfl⟩, k, _⟩ := runF_ix hx (R := fun k env S' => ∃ f, (∃ o5 o6 o7 o8, env = [some (.int n), some (.int d), some (.int N), some (encG2 (scan n d k).1), some (.ref f), o5, o6, o7, o8]) ∧ St S (scan n d k) f S' ∧ (scan n d k).2.length ≤ 2 * k)
    (fun P hP k env S' hk ⟨f, ⟨o5, o6, o7, o8, e1⟩, st, l⟩ => by
      subst e1
      rw [rgs_len] at hk
      have gk : (rgs 1 N)[k]'(by simpa using hk) = ((k + 1 : Nat) : Int) := by simp [rgs]; omega
      obtain ⟨f', S2, o6', o7', o8', e, st', l'⟩ := below_go n d N hd hn.2 S (scan n d k) f S' st (by omega) (k + 1) (by omega) o6 o7 o8
      rw [← scan_succ] at e st' l'
      simp [gk]
      push_cast at e
      rw [e]
      simp
      exact hP _ _ _ ⟨f', ⟨_, _, _, _, rfl⟩, st', by omega⟩) ⟨S.length, ⟨none, none, none, none, rfl⟩, ⟨by simp [scan, cands], ⟨[.lst []], rfl⟩, Nat.le_refl _, fun g h => by simp [scan, cands] at h, by simp [scan, cands]⟩, by simp [scan, cands]⟩
  rw [rgs_len] at k
  have cm : ∀ c ∈ (scan n d N).2, c.1 ≤ 100000 := fun c hc => by
    rw [scan_is (by omega) hN.2] at hc
    have hc := (List.mem_filter.mp (List.mem_filter.mp hc).1).1
    obtain ⟨i, hi, h⟩ := List.mem_flatMap.mp hc
    have hi := List.mem_range.mp hi
    have m : n * (i + 1) ≤ 60 * 12 := Nat.mul_le_mul hn.2 (by omega)
    have q : n * (i + 1) / d ≤ n * (i + 1) := Nat.div_le_self _ _
    unfold two at h
    rcases List.mem_cons.mp h with rfl | h
    · dsimp only; omega
    · rw [List.mem_singleton.mp h]; dsimp only; omega
  obtain ⟨at_, ⟨T, rfl⟩, _, _, few⟩ := k
  have ms := mSortKey_Q n d hn.2 (a := mVar 4) (env := [some (.int n), some (.int d), some (.int N), some (encG2 (scan n d N).1), some (.ref f), o5, o6, o7, o8]) (S := S ++ T) (S1 := S ++ T) (x := .ref f) (F := (scan n d N).2) (by simp) (by simp only [Mir.listOf, at_]) (by simp) (by simp) cm nd
  have fl : ∀ (k : Nat) (l : List (List Int)), lts k (l.map encRow) = true := fun k l => by
    induction l with
    | nil => rfl
    | cons a l ih => rw [List.map_cons]; unfold lts; rw [ih]; simp [encRow, D.lt]
  have mm : ((sortK (((scan n d N).2.map rowQ).zip ((scan n d N).2.map (keyQ n d)))).map fun r => encRow r.1) = (sortedQ n d (scan n d N).2).map encRow := by
    unfold sortedQ
    rw [List.map_map]
    rfl
  rw [mm] at ms
  unfold kf at ms
  simp [b_nearest_to_11, ms, fl]
end K75
end

section
set_option Elab.async false
set_option maxRecDepth 100000
/-! K75r0: rows 1 to 15. -/
namespace K75
theorem r1 : chk 1 = true := by decide +kernel
theorem r2 : chk 2 = true := by decide +kernel
theorem r3 : chk 3 = true := by decide +kernel
theorem r4 : chk 4 = true := by decide +kernel
theorem r5 : chk 5 = true := by decide +kernel
theorem r6 : chk 6 = true := by decide +kernel
theorem r7 : chk 7 = true := by decide +kernel
theorem r8 : chk 8 = true := by decide +kernel
theorem r9 : chk 9 = true := by decide +kernel
theorem r10 : chk 10 = true := by decide +kernel
theorem r11 : chk 11 = true := by decide +kernel
theorem r12 : chk 12 = true := by decide +kernel
theorem r13 : chk 13 = true := by decide +kernel
theorem r14 : chk 14 = true := by decide +kernel
theorem r15 : chk 15 = true := by decide +kernel
end K75
end

section
set_option Elab.async false
set_option maxRecDepth 100000
/-! K75r1: rows 16 to 30. -/
namespace K75
theorem r16 : chk 16 = true := by decide +kernel
theorem r17 : chk 17 = true := by decide +kernel
theorem r18 : chk 18 = true := by decide +kernel
theorem r19 : chk 19 = true := by decide +kernel
theorem r20 : chk 20 = true := by decide +kernel
theorem r21 : chk 21 = true := by decide +kernel
theorem r22 : chk 22 = true := by decide +kernel
theorem r23 : chk 23 = true := by decide +kernel
theorem r24 : chk 24 = true := by decide +kernel
theorem r25 : chk 25 = true := by decide +kernel
theorem r26 : chk 26 = true := by decide +kernel
theorem r27 : chk 27 = true := by decide +kernel
theorem r28 : chk 28 = true := by decide +kernel
theorem r29 : chk 29 = true := by decide +kernel
theorem r30 : chk 30 = true := by decide +kernel
end K75
end

section
set_option Elab.async false
set_option maxRecDepth 100000
/-! K75r2: rows 31 to 45. -/
namespace K75
theorem r31 : chk 31 = true := by decide +kernel
theorem r32 : chk 32 = true := by decide +kernel
theorem r33 : chk 33 = true := by decide +kernel
theorem r34 : chk 34 = true := by decide +kernel
theorem r35 : chk 35 = true := by decide +kernel
theorem r36 : chk 36 = true := by decide +kernel
theorem r37 : chk 37 = true := by decide +kernel
theorem r38 : chk 38 = true := by decide +kernel
theorem r39 : chk 39 = true := by decide +kernel
theorem r40 : chk 40 = true := by decide +kernel
theorem r41 : chk 41 = true := by decide +kernel
theorem r42 : chk 42 = true := by decide +kernel
theorem r43 : chk 43 = true := by decide +kernel
theorem r44 : chk 44 = true := by decide +kernel
theorem r45 : chk 45 = true := by decide +kernel
end K75
end

section
set_option Elab.async false
set_option maxRecDepth 100000
/-! K75r3: rows 46 to 60. -/
namespace K75
theorem r46 : chk 46 = true := by decide +kernel
theorem r47 : chk 47 = true := by decide +kernel
theorem r48 : chk 48 = true := by decide +kernel
theorem r49 : chk 49 = true := by decide +kernel
theorem r50 : chk 50 = true := by decide +kernel
theorem r51 : chk 51 = true := by decide +kernel
theorem r52 : chk 52 = true := by decide +kernel
theorem r53 : chk 53 = true := by decide +kernel
theorem r54 : chk 54 = true := by decide +kernel
theorem r55 : chk 55 = true := by decide +kernel
theorem r56 : chk 56 = true := by decide +kernel
theorem r57 : chk 57 = true := by decide +kernel
theorem r58 : chk 58 = true := by decide +kernel
theorem r59 : chk 59 = true := by decide +kernel
theorem r60 : chk 60 = true := by decide +kernel
end K75
end

section
set_option Elab.async false
set_option linter.all false
set_option maxRecDepth 100000
/-! K75v: what the looks say. -/
namespace K75
open PySem PySem.Spec Mir
theorem beqB_eq : ∀ {a b : List Bool}, beqB a b = true → a = b
  | [], [], _ => rfl
  | [], b :: _, h => by cases b <;> cases h
  | a :: _, [], h => by cases a <;> cases h
  | true :: a, true :: b, h => by rw [beqB_eq (a := a) (b := b) h]
  | false :: a, false :: b, h => by rw [beqB_eq (a := a) (b := b) h]
  | true :: _, false :: _, h => by cases h
  | false :: _, true :: _, h => by cases h
theorem isIn_mem {c : Nat × Nat} : ∀ {l : List (Nat × Nat)}, isIn c l = true → c ∈ l
  | [], h => by cases h
  | e :: l, h => by
    unfold isIn at h
    rw [Bool.or_eq_true, Bool.and_eq_true] at h
    rcases h with ⟨h1, h2⟩ | h
    · have e1 := Nat.eq_of_beq_eq_true h1
      have e2 := Nat.eq_of_beq_eq_true h2
      have : c = e := Prod.ext e1 e2
      rw [this]; exact List.mem_cons_self
    · exact List.mem_cons_of_mem _ (isIn_mem h)
theorem chkGo_at {n d : Nat} {seen : List (Nat × Nat)} : ∀ {k b : Nat}, chkGo n d seen k (b + 1) (scan n d b) = true → ∀ N, b < N → N ≤ b + k → shape n d (scan n d N).2 = true ∧ ∀ c ∈ (scan n d N).2, c ∈ seen
  | 0, b, _, N, h1, h2 => absurd h2 (by omega)
  | k + 1, b, h, N, h1, h2 => by
    unfold chkGo at h
    rw [← scan_succ] at h
    dsimp only at h
    rw [Bool.and_eq_true, Bool.and_eq_true] at h
    by_cases e : N = b + 1
    · subst e
      exact ⟨h.1.1, fun c hc => isIn_mem (List.all_eq_true.mp h.1.2 c hc)⟩
    · exact chkGo_at h.2 N (by omega) (by omega)
theorem chk_all : ∀ n, 1 ≤ n → n ≤ 60 → chk n = true
  | 0, h, _ => absurd h (by omega)
  | 1, _, _ => r1
  | 2, _, _ => r2
  | 3, _, _ => r3
  | 4, _, _ => r4
  | 5, _, _ => r5
  | 6, _, _ => r6
  | 7, _, _ => r7
  | 8, _, _ => r8
  | 9, _, _ => r9
  | 10, _, _ => r10
  | 11, _, _ => r11
  | 12, _, _ => r12
  | 13, _, _ => r13
  | 14, _, _ => r14
  | 15, _, _ => r15
  | 16, _, _ => r16
  | 17, _, _ => r17
  | 18, _, _ => r18
  | 19, _, _ => r19
  | 20, _, _ => r20
  | 21, _, _ => r21
  | 22, _, _ => r22
  | 23, _, _ => r23
  | 24, _, _ => r24
  | 25, _, _ => r25
  | 26, _, _ => r26
  | 27, _, _ => r27
  | 28, _, _ => r28
  | 29, _, _ => r29
  | 30, _, _ => r30
  | 31, _, _ => r31
  | 32, _, _ => r32
  | 33, _, _ => r33
  | 34, _, _ => r34
  | 35, _, _ => r35
  | 36, _, _ => r36
  | 37, _, _ => r37
  | 38, _, _ => r38
  | 39, _, _ => r39
  | 40, _, _ => r40
  | 41, _, _ => r41
  | 42, _, _ => r42
  | 43, _, _ => r43
  | 44, _, _ => r44
  | 45, _, _ => r45
  | 46, _, _ => r46
  | 47, _, _ => r47
  | 48, _, _ => r48
  | 49, _, _ => r49
  | 50, _, _ => r50
  | 51, _, _ => r51
  | 52, _, _ => r52
  | 53, _, _ => r53
  | 54, _, _ => r54
  | 55, _, _ => r55
  | 56, _, _ => r56
  | 57, _, _ => r57
  | 58, _, _ => r58
  | 59, _, _ => r59
  | 60, _, _ => r60
  | n + 61, _, h => absurd h (by omega)
structure Facts (n d : Nat) (q : LP) : Prop where
  l : lpath n d = some q
  p : ∃ p, pathN n d = some p ∧ p.1 = q.st
  r : ∃ r, pathN d n = some r ∧ r.1 = q.st.map not
  l1 : q.st.length ≤ 200
  l2 : q.sn.length ≤ 900
  near : ∀ N, 1 ≤ N → N ≤ 12 → shape n d (scan n d N).2 = true ∧ ∀ c ∈ (scan n d N).2, c ∈ q.sn ++ [q.nw]
theorem facts_of {n d : Nat} (hn : 1 ≤ n ∧ n ≤ 60) (hd : 1 ≤ d ∧ d ≤ 60) : ∃ q, Facts n d q := by
  have h := List.all_eq_true.mp (chk_all n hn.1 hn.2) (d - 1) (List.mem_range.mpr (by omega))
  rw [show d - 1 + 1 = d by omega] at h
  unfold chkND at h
  split at h
  · rename_i q p r h1 h2 h3
    simp only [Bool.and_eq_true] at h
    obtain ⟨⟨a1, a2, a3, a4⟩, a5⟩ := h
    exact ⟨q, h1, ⟨p, h2, beqB_eq a1⟩, ⟨r, h3, beqB_eq a2⟩, Nat.le_of_ble_eq_true a3, Nat.le_of_ble_eq_true a4, fun N hN hN2 => chkGo_at (b := 0) a5 N (by omega) (by omega)⟩
  · cases h
def dueN (n d : Nat) (F : List (Nat × Nat)) : List (Nat × Nat) := (F.filter fun c => leB n d c) ++ F.filter fun c => !leB n d c
theorem key_le (n d : Nat) (c : Nat × Nat) : leB n d c = true ↔ keyQ n d c ≤ 0 := by
  unfold leB keyQ
  rw [Nat.ble_eq]
  have : ((c.1 * d : Nat) : Int) ≤ ((n * c.2 : Nat) : Int) ↔ c.1 * d ≤ n * c.2 := by norm_cast
  push_cast at this
  omega
theorem shape_sort {n d : Nat} {F : List (Nat × Nat)} (h : shape n d F = true) : (F.map (keyQ n d)).Nodup ∧ sortedQ n d F = (dueN n d F).map rowQ := by
  unfold shape at h
  split at h
  · rename_i a
    refine ⟨by simp, ?_⟩
    unfold sortedQ dueN
    cases e : leB n d a <;> simp [e, sortK, insK]
  · rename_i a b
    have ka := key_le n d a
    have kb := key_le n d b
    unfold sortedQ dueN
    cases ea : leB n d a <;> cases eb : leB n d b
    · rw [ea, eb] at h; cases h
    · have h1 : ¬ keyQ n d a ≤ 0 := fun z => by rw [ka.mpr z] at ea; cases ea
      have h2 := kb.mp eb
      refine ⟨by simp; omega, ?_⟩
      simp [ea, eb, sortK, insK, show ¬ keyQ n d a ≤ keyQ n d b by omega]
    · have h1 : ¬ keyQ n d b ≤ 0 := fun z => by rw [kb.mpr z] at eb; cases eb
      have h2 := ka.mp ea
      refine ⟨by simp; omega, ?_⟩
      simp [ea, eb, sortK, insK, show keyQ n d a ≤ keyQ n d b by omega]
    · rw [ea, eb] at h; cases h
  · cases h
end K75
end

section
set_option Elab.async false
set_option linter.all false
set_option maxRecDepth 100000
/-! K75A2: the paths' part of the law. -/
namespace K75
open PySem PySem.Spec Mir
theorem signs_str (bs : List Bool) : signsD (strOf bs) = bs.map encB := by
  unfold signsD strOf
  rw [List.map_map]
  rfl
@[simp] theorem kSrc_str (x : Str) (S : Store) : kSrc (.str x) S = .ok (.items (signsD x)) S := (rfl)
theorem str_ok (bs : List Bool) : PyData.strOk (strOf bs) = true := by
  unfold PyData.strOk strOf
  show (bs.map cpOf).toArray.all _ = true
  rw [List.all_toArray, List.all_map]
  exact List.all_eq_true.mpr fun b _ => by cases b <;> rfl
theorem read_str (n : Nat) (bs : List Bool) (hl : bs.length ≤ 1000) (S : Store) : s__law_read (n + 1) [.str (strOf bs)] S = .ok (.str (strOf bs)) S := by
  have v1 : ∀ b S, vIs (.str (strOf bs)) (.bl b) S = .ok (.bl false) S := fun b S => rfl
  have v := vAdd_str (strOf []) (strOf bs) S (by rw [str_len, str_len]; simp; omega)
  rw [str_app, List.nil_append] at v
  simp [s__law_read, b__law_read, b__law_read_9, b__law_read_8, b__law_read_7, b__law_read_2, b__law_read_3, v1, str_0, v]
theorem ne_str (bs : List Bool) (S : Store) : vNeS (.tup [.int 0, .str (strOf bs)]) (.tup [.int 0, .str (strOf bs)]) S = .ok (.bl false) S := by
  refine vNeS_self _ S ?_
  show (true && (PyData.strOk (strOf bs) && true)) = true
  rw [str_ok]; rfl
theorem eq_R (b : Bool) (S : Store) : vEqS (encB b) (.str "R") S = .ok (.bl !b) S := by
  cases b
  · exact (vEqS_str S _ _).trans (by rw [str_R]; rfl)
  · exact (vEqS_str S _ _).trans (by rw [str_R]; rfl)
theorem turn_join {env : Mir.Env} (hl : 16 < env.length) {bs : List Bool} (hb : bs.length ≤ 1000) (e13 : env[13]? = some (some (.str (strOf bs)))) (S : Store) :
    mJoin (mC (.str "")) (mLC [16] false (mSrc (mVar 13)) (gSet 16) (fun _ S => .ok true S) (mIf (mTst (m2 vEqS (mVar 16) (mC (.str "R")))) (mC (.str "L")) (mC (.str "R")))) env S = .ok (.str (strOf (bs.map not))) S := by
  refine mJoin_bs (x := .lst ((bs.map not).map encB)) ?_ rfl (by simp; omega)
  have e : (bs.map encB).length ≤ 16777216 := by simp; omega
  simp only [mLC_ap, mSrc_ap, mVar_ap, e13, kV_ap, bind_ok, kSrc_str, signs_str, kLC_ap _ _ _ _ _ _ _ _ e]
  rw [runC_pure (h := not) (ec := encB) (fun b _ => by
    have eq := eq_R b S
    simp [hl, eq]
    cases b <;> simp [encB, str_L, str_R])]
  rfl
abbrev eFr (a0 a2 a3 a4 : Option D) (n d : Nat) (a8 a9 a10 a11 : Option D) (bs : List Bool) (sn : List (Nat × Nat)) (a15 : Option D) : Mir.Env := [a0, some (.ref 0), a2, a3, a4, none, some (.int n), some (.ref 1), a8, a9, a10, a11, some (.int d), some (.str (strOf bs)), some (.lst (sn.map encQ)), a15, none, none, none, none, none, none, none, none, none]
theorem path_law (a0 a2 a3 a4 a6 a8 a9 a10 a11 : Option D) (y : Bx) (o : Ob) : ∃ (n d : Nat) (q : LP) (a15 : Option D) (z : Bx), (1 ≤ n ∧ n ≤ 60) ∧ (1 ≤ d ∧ d ≤ 60) ∧ Facts n d q ∧
    b_law_23 [a0, some (.ref 0), a2, a3, a4, none, a6, some (.ref 1), a8, a9, a10, a11, none, none, none, none, none, none, none, none, none, none, none, none, none] [bx y, o] = b_law_18 (eFr a0 a2 a3 a4 n d a8 a9 a10 a11 q.st (q.sn ++ [q.nw]) a15) [bx z, o] := by
  have d1 := dvB_lo y (m := 60) (by omega)
  have d2 := dvB_hi y (m := 60) (by omega)
  have r1 := draw_ap y 60 [o] (by omega) (by omega)
  generalize dvB y 60 = v at *
  generalize dnB y 60 = y1 at *
  have d3 := dvB_lo y1 (m := 60) (by omega)
  have d4 := dvB_hi y1 (m := 60) (by omega)
  have r2 := draw_ap y1 60 [o] (by omega) (by omega)
  generalize dvB y1 60 = w at *
  generalize dnB y1 60 = z at *
  obtain ⟨n, hn⟩ : ∃ n : Nat, 1 + v = n := ⟨(1 + v).toNat, by omega⟩
  obtain ⟨d, hd⟩ : ∃ d : Nat, 1 + w = d := ⟨(1 + w).toNat, by omega⟩
  have n1 : 1 ≤ n ∧ n ≤ 60 := by omega
  have d1 : 1 ≤ d ∧ d ≤ 60 := by omega
  obtain ⟨q, F⟩ := facts_of n1 d1
  obtain ⟨p, hp, hp2⟩ := F.p
  obtain ⟨r, hr, hr2⟩ := F.r
  have l1 := F.l1
  have l2 := F.l2
  have lp := p_law_path n d (by omega) (by omega) F.l l1 (by omega) [bx z, o]
  have pp := p_path n d n1 d1 hp [bx z, o]
  have pr := p_path d n d1 n1 hr [bx z, o]
  rw [hp2] at pp
  rw [hr2] at pr
  refine ⟨n, d, q, some (.str (strOf (q.st.map not))), z, n1, d1, F, ?_⟩
  have tj := turn_join (env := [a0, some (.ref 0), a2, a3, a4, none, some (.int n), some (.ref 1), a8, a9, a10, a11, some (.int d), some (.str (strOf q.st)), some (.lst ((q.sn ++ [q.nw]).map encQ)), none, none, none, none, none, none, none, none, none, none]) (by simp) (bs := q.st) (by omega) rfl [bx z, o]
  have t1 : mLam lk__law_told [] (mCall s_path (mCons (mVar 6) (mCons (mVar 12) mNil))) (eFr a0 a2 a3 a4 n d a8 a9 a10 a11 q.st (q.sn ++ [q.nw]) (some (.str (strOf (q.st.map not))))) [bx z, o] = .ok (.tup [.int 0, .str (strOf q.st)]) [bx z, o] :=
    lam_told (w := fun c => w__law_told[c]?) (pre := []) (by simp [eFr, pp]) (read_str 3 _ (by omega) _)
  have t2 : mLam lk__law_told [] (mCall s_path (mCons (mVar 12) (mCons (mVar 6) mNil))) (eFr a0 a2 a3 a4 n d a8 a9 a10 a11 q.st (q.sn ++ [q.nw]) (some (.str (strOf (q.st.map not))))) [bx z, o] = .ok (.tup [.int 0, .str (strOf (q.st.map not))]) [bx z, o] :=
    lam_told (w := fun c => w__law_told[c]?) (pre := []) (by simp [eFr, pr]) (read_str 3 _ (by simp; omega) _)
  have n1 := ne_str q.st [bx z, o]
  have n2 := ne_str (q.st.map not) [bx z, o]
  unfold eFr at *
  generalize (q.sn ++ [q.nw]).map encQ = sq at *
  generalize q.st.map not = qn at *
  simp [b_law_23, r1, r2, hn, hd, b_law_22, lp]
  rw [b_law_21]
  simp only [sSeq_ap, sAsg_ap, tj, fl_ok, kAsg_ap, gSet_ap, kNx_ap, seq_nx, List.set_cons_succ, List.set_cons_zero]
  rw [b_law_20]
  simp [t1, n1]
  rw [b_law_19]
  simp [t2, n2]
end K75
end

section
set_option Elab.async false
set_option linter.all false
set_option maxRecDepth 100000
/-! K75A3: the nearest, as the law finds them. -/
namespace K75
open PySem PySem.Spec Mir
abbrev eNr (a0 a2 a3 a4 : Option D) (n d : Nat) (a8 a9 a10 a11 a13 : Option D) (sn : List (Nat × Nat)) (a15 : Option D) (N : Nat) (near : List (Nat × Nat)) (a19 a21 a24 : Option D) : Mir.Env := [a0, some (.ref 0), a2, a3, a4, none, some (.int n), some (.ref 1), a8, a9, a10, a11, some (.int d), a13, some (.lst (sn.map encQ)), a15, none, some (.int N), some (.lst (near.map encQ)), a19, none, a21, none, none, a24]
theorem fr_two (n d b : Nat) (hb : 1 ≤ b ∧ b ≤ 12) {env : Mir.Env} (h20 : 20 < env.length) (h19 : env[19]? = some (some (.int (b : Int)))) (S : Store) :
    runC (mElt [20] (gSet 20) (mTst (m2 vEqS (mCall s__law_common (mCons (mVar 20) (mCons (mVar 19) mNil))) (mC (.int 1)))) (mTup (mCons (mVar 20) (mCons (mVar 19) mNil))) env) ((two n d b).map fun c => .int (c.1 : Int)) S = .ok ((fr (two n d b)).map encQ) S := by
  rw [runC_filter (enc := fun c : Nat × Nat => .int (c.1 : Int)) (ec := encQ) (h := fun c => if Nat.gcd c.1 c.2 = 1 then some c else none) (fun c hc => by
    have c2 : c.2 = b := by
      unfold two at hc
      rcases List.mem_cons.mp hc with rfl | hc
      · rfl
      · rw [List.mem_singleton.mp hc]
    have pc := p_law_common (c.1 : Int) (b : Int) (by omega) (by omega) S
    have ge : (Int.gcd (c.1 : Int) (b : Int)) = Nat.gcd c.1 b := rfl
    rw [ge] at pc
    by_cases g : Nat.gcd c.1 b = 1
    · have g' : ((Nat.gcd c.1 b : Nat) : Int) = 1 := by omega
      simp [h20, h19, pc, g, g', encQ, c2]
    · have g' : ¬ ((Nat.gcd c.1 b : Nat) : Int) = 1 := by omega
      simp [h20, h19, pc, g, g', c2])]
  congr 2
  unfold fr
  induction two n d b with
  | nil => rfl
  | cons c l ih =>
    rw [List.filterMap_cons, List.filter_cons]
    by_cases g : Nat.gcd c.1 c.2 = 1 <;> simp [g, ih]
theorem near_step (a0 a2 a3 a4 : Option D) (n d : Nat) (hn : 1 ≤ n ∧ n ≤ 60) (hd : 1 ≤ d ∧ d ≤ 60) (a8 a9 a10 a11 a13 : Option D) (sn : List (Nat × Nat)) (a15 : Option D) (N : Nat) (near : List (Nat × Nat)) (hl : near.length ≤ 100) (a21 a24 : Option D) (b : Nat) (hb : 1 ≤ b ∧ b ≤ 12) (S : Store) :
    b_law_11 (eNr a0 a2 a3 a4 n d a8 a9 a10 a11 a13 sn a15 N near (some (.int (b : Int))) a21 a24) S = .nx (eNr a0 a2 a3 a4 n d a8 a9 a10 a11 a13 sn a15 N (near ++ fr (two n d b)) (some (.int (b : Int))) a21 a24) S := by
  have m2 : n * b ≤ 60 * 12 := Nat.mul_le_mul hn.2 hb.2
  have q1 : n * b / d ≤ n * b := Nat.div_le_self _ _
  have ev : ((n : Int) * b) / d = ((n * b / d : Nat) : Int) := by rw [Int.natCast_ediv]; push_cast; rfl
  have f2 := fr_two n d b hb (env := eNr a0 a2 a3 a4 n d a8 a9 a10 a11 a13 sn a15 N near (some (.int (b : Int))) a21 a24) (by simp) rfl S
  have rg2 : (rgs ((n * b / d : Nat) : Int) 2).map D.int = (two n d b).map fun c => D.int (c.1 : Int) := by
    unfold rgs two
    simp [List.range_succ]
  have fl : (fr (two n d b)).length ≤ 2 := List.length_filter_le _ (two n d b)
  have tl : ((two n d b).map fun c => D.int (c.1 : Int)).length ≤ 16777216 := by simp [two]
  generalize hq : n * b / d = q at *
  unfold eNr at *
  have k2 := kR2_ap (q : Int) ((q : Int) + 2) S (by omega) (by omega) (by omega) (by omega)
  rw [show ((q : Int) + 2 - q).toNat = 2 by omega, rg2] at k2
  simp [b_law_11, show n < 18446744073709551616 by omega, show b < 18446744073709551616 by omega, show (d : Int) < 18446744073709551616 by omega, show (0 : Int) < d by omega, show d < 18446744073709551616 by omega, show 0 < d by omega, ev]
  rw [k2]
  simp only [bind_ok, kLC_ap _ _ _ _ _ _ _ _ tl]
  rw [f2]
  simp [show near.length + (fr (two n d b)).length ≤ 16777216 by omega]
theorem near_law (a0 a2 a3 a4 : Option D) (n d : Nat) (hn : 1 ≤ n ∧ n ≤ 60) (hd : 1 ≤ d ∧ d ≤ 60) (a8 a9 a10 a11 : Option D) (bs : List Bool) (sn : List (Nat × Nat)) (a15 : Option D) (y : Bx) (o : Ob) : ∃ (N : Nat) (a19 : Option D) (z : Bx), (1 ≤ N ∧ N ≤ 12) ∧
    b_law_18 (eFr a0 a2 a3 a4 n d a8 a9 a10 a11 bs sn a15) [bx y, o] = b_law_16 (eNr a0 a2 a3 a4 n d a8 a9 a10 a11 (some (.str (strOf bs))) sn a15 N (fr (cands n d N)) a19 none none) [bx z, o] := by
  have d1 := dvB_lo y (m := 12) (by omega)
  have d2 := dvB_hi y (m := 12) (by omega)
  have r1 := draw_ap y 12 [o] (by omega) (by omega)
  generalize dvB y 12 = v at *
  generalize dnB y 12 = z at *
  obtain ⟨N, hN⟩ : ∃ N : Nat, 1 + v = N := ⟨(1 + v).toNat, by omega⟩
  have fl : ∀ k, (fr (cands n d k)).length ≤ 2 * k := fun k => by
    refine Nat.le_trans (List.length_filter_le _ _) ?_
    have := K75.flat_len (f := fun i => two n d (i + 1)) (k := 2) (l := List.range k) fun i _ => by simp [two]
    rw [List.length_range] at this
    exact this
  have e0 : b_law_18 (eFr a0 a2 a3 a4 n d a8 a9 a10 a11 bs sn a15) [bx y, o] = (runF (bodyF (gSet 19) b_law_11) ((rgs 1 N).map D.int) (eNr a0 a2 a3 a4 n d a8 a9 a10 a11 (some (.str (strOf bs))) sn a15 N [] none none none) [bx z, o]).seq b_law_16 := by
    unfold eFr eNr
    simp [b_law_18, r1, hN, b_law_17, show (-4611686018427387904 : Int) ≤ (N : Int) + 1 by omega, show (N : Int) + 1 < 4611686018427387904 by omega]
  rw [e0]
  clear e0
  generalize hx : runF _ _ _ _ = f
  obtain ⟨env, S', rfl, ⟨a19, rfl⟩, rfl⟩ := runF_ix hx (R := fun k env S' => (∃ a19, env = eNr a0 a2 a3 a4 n d a8 a9 a10 a11 (some (.str (strOf bs))) sn a15 N (fr (cands n d k)) a19 none none) ∧ S' = [bx z, o])
    (fun P hP k env S' hk ⟨⟨a19, e1⟩, e2⟩ => by
      subst e1 e2
      rw [rgs_len] at hk
      have gk : (rgs 1 N)[k]'(by simpa using hk) = ((k + 1 : Nat) : Int) := by simp [rgs]; omega
      have st := near_step a0 a2 a3 a4 n d hn hd a8 a9 a10 a11 (some (.str (strOf bs))) sn a15 N (fr (cands n d k)) (by have := fl k; omega) none none (k + 1) (by omega) [bx z, o]
      have fe : fr (cands n d k) ++ fr (two n d (k + 1)) = fr (cands n d (k + 1)) := by rw [cands_succ]; unfold fr; rw [List.filter_append]
      rw [fe] at st
      have s : bodyF (gSet 19) b_law_11 (.int ((k + 1 : Nat) : Int)) (eNr a0 a2 a3 a4 n d a8 a9 a10 a11 (some (.str (strOf bs))) sn a15 N (fr (cands n d k)) a19 none none) [bx z, o] = b_law_11 (eNr a0 a2 a3 a4 n d a8 a9 a10 a11 (some (.str (strOf bs))) sn a15 N (fr (cands n d k)) (some (.int ((k + 1 : Nat) : Int))) none none) [bx z, o] := by simp [eNr]
      rw [gk, s, st, is_nx]
      exact hP _ _ _ ⟨⟨_, rfl⟩, rfl⟩) ⟨⟨_, rfl⟩, rfl⟩
  rw [rgs_len, seq_nx]
  exact ⟨N, a19, z, by omega, rfl⟩
end K75
end

section
set_option Elab.async false
set_option linter.all false
set_option maxRecDepth 100000
/-! K75A4: the best, what is due, the end. -/
namespace K75
open PySem PySem.Spec Mir
theorem read_Q (l : List (Nat × Nat)) (hl : l.length ≤ 1000) (S : Store) : s__law_read 4 [.tup (l.map encQ)] S = .ok (.tup (l.map encQ)) S := by
  have v1 : ∀ b S, vIs (.tup (l.map encQ)) (.bl b) S = .ok (.bl false) S := fun b S => rfl
  rw [s__law_read]
  simp [b__law_read, b__law_read_9, b__law_read_8, b__law_read_7, b__law_read_6, b__law_read_4, v1, show l.length ≤ 16777216 by omega]
  rw [runC_pure (h := fun x => x) (enc := encQ) (ec := encQ) (fun c hc => by
    have := read_tup 1 (rowQ c) S (by simp [rowQ])
    have e : D.tup ((rowQ c).map .int) = encQ c := rfl
    rw [e] at this
    simp [this])]
  have fl : ∀ (k : Nat) (l : List (Nat × Nat)), lts k (l.map encQ) = true := fun k l => by
    induction l with
    | nil => rfl
    | cons a l ih => rw [List.map_cons]; unfold lts; rw [ih]; simp [encQ, D.lt, lts]
  simp [fl]
theorem okQ (l : List (Nat × Nat)) (n : Nat) : (l.map encQ).all (okD (n + 2)) = true := okD_maps (fun c => rfl) l
theorem ne_Q (l : List (Nat × Nat)) (S : Store) : vNeS (.tup [.int 0, .tup (l.map encQ)]) (.tup [.int 0, .tup (l.map encQ)]) S = .ok (.bl false) S := by
  refine vNeS_self _ S ?_
  show (true && ((l.map encQ).all (okD 58) && true)) = true
  rw [okQ l 56]; rfl
theorem in_Q (c : Nat × Nat) (l : List (Nat × Nat)) (S : Store) : vNotIn (encQ c) (.lst (l.map encQ)) S = .ok (.bl (!decide (c ∈ l))) S := by
  have o1 : okD 60 (encQ c) = true := rfl
  have o2 : okD 60 (.lst (l.map encQ)) = true := okQ l 57
  have an : ((l.map encQ).any fun z => eqF 60 z (encQ c)) = decide (c ∈ l) := by
    rw [List.any_map, Bool.eq_iff_iff, List.any_eq_true, decide_eq_true_eq]
    constructor
    · rintro ⟨e, he, h⟩
      have h : ((e.1 : Int) == c.1 && ((e.2 : Int) == c.2 && true)) = true := h
      simp at h
      have : e = c := Prod.ext (by omega) (by omega)
      rw [← this]; exact he
    · intro h
      refine ⟨c, h, ?_⟩
      show ((c.1 : Int) == c.1 && ((c.2 : Int) == c.2 && true)) = true
      simp
  show vCmp (fun a b S => (inB S a b).map (!·)) _ _ S = _
  unfold vCmp
  dsimp only [inB]
  rw [o1, o2, an]
  rfl
theorem p_apart (n d : Nat) (hn : n ≤ 60) (hd : d ≤ 60) (c : Nat × Nat) (h1 : c.1 ≤ 1000) (h2 : c.2 ≤ 12) (S : Store) : s__law_apart [encQ c, .int n, .int d] S = .ok (encQ (dist (c.1 * d) (n * c.2), c.2 * d)) S := by
  have e := dist_is (c.1 * d) (n * c.2)
  have l : ∀ i j : Int, lts S.length [.int i, .int j] = true := fun i j => by simp [lts, D.lt]
  push_cast at e
  simp [s__law_apart, b__law_apart, b__law_apart_1, encQ, show c.1 < 18446744073709551616 by omega, show c.2 < 18446744073709551616 by omega, show n < 18446744073709551616 by omega, show d < 18446744073709551616 by omega, lts, D.lt, ← e, Int.sub_eq_add_neg]
theorem p_law_less (a b : Nat × Nat) (h1 : a.1 ≤ 100000) (h2 : a.2 ≤ 100000) (h3 : b.1 ≤ 100000) (h4 : b.2 ≤ 100000) (S : Store) : s__law_less [encQ a, encQ b] S = .ok (.bl (lessN a b)) S := by
  have c : ((a.1 : Int) * b.2 < b.1 * a.2) ↔ a.1 * b.2 < b.1 * a.2 := by norm_cast
  simp [s__law_less, b__law_less, b__law_less_1, encQ, show a.1 < 18446744073709551616 by omega, show a.2 < 18446744073709551616 by omega, show b.1 < 18446744073709551616 by omega, show b.2 < 18446744073709551616 by omega, c, lessN]
theorem raw_less {n d : Nat} (hd : 0 < d) {c e : Nat × Nat} (hc : InC c) (he : InC e) : lessN (dist (c.1 * d) (n * c.2), c.2 * d) (dist (e.1 * d) (n * e.2), e.2 * d) = decide (val n d c < val n d e) := by
  unfold lessN val
  rw [Bool.eq_iff_iff, decide_eq_true_eq, decide_eq_true_eq]
  dsimp only
  have k1 := k_of (b := c.2) hc
  have k2 := k_of (b := e.2) he
  generalize dist (c.1 * d) (n * c.2) = A
  generalize dist (e.1 * d) (n * e.2) = B
  generalize 27720 / c.2 = K at *
  generalize 27720 / e.2 = L at *
  have c0 : 0 < c.2 := hc.1
  have e0 : 0 < e.2 := he.1
  have x1 : A * (e.2 * d) < B * (c.2 * d) ↔ A * e.2 < B * c.2 := by
    rw [← Nat.mul_assoc, ← Nat.mul_assoc]
    exact Nat.mul_lt_mul_right hd
  have x2 : A * K < B * L ↔ A * K * (c.2 * e.2) < B * L * (c.2 * e.2) := (Nat.mul_lt_mul_right (Nat.mul_pos c0 e0)).symm
  have x3 : A * K * (c.2 * e.2) = A * e.2 * 27720 := by rw [← k1]; ac_rfl
  have x4 : B * L * (c.2 * e.2) = B * c.2 * 27720 := by rw [← k2]; ac_rfl
  rw [x1, x2, x3, x4]
  exact (Nat.mul_lt_mul_right (by decide)).symm
theorem filterMap_if {α : Type} (c : α → Bool) (l : List α) : (l.filterMap fun x => if c x then some x else none) = l.filter c := by
  induction l with
  | nil => rfl
  | cons x l ih =>
    rw [List.filterMap_cons, List.filter_cons]
    cases c x <;> simp [ih]
theorem end_law (a0 a2 a3 a4 : Option D) (n d : Nat) (hn : 1 ≤ n ∧ n ≤ 60) (hd : 1 ≤ d ∧ d ≤ 60) (q : LP) (F : Facts n d q) (a8 a9 a10 a11 a13 a15 a19 : Option D) (N : Nat) (hN : 1 ≤ N ∧ N ≤ 12) (S : Store) :
    b_law_16 (eNr a0 a2 a3 a4 n d a8 a9 a10 a11 a13 (q.sn ++ [q.nw]) a15 N (fr (cands n d N)) a19 none none) S = .rt (.bl true) S := by
  have cin : ∀ c ∈ fr (cands n d N), InC c := fun c hc => cands_in hN.2 c (List.mem_filter.mp hc).1
  have c1 : ∀ c ∈ fr (cands n d N), c.1 ≤ 1000 := fun c hc => by
    have hc := (List.mem_filter.mp hc).1
    obtain ⟨i, hi, h⟩ := List.mem_flatMap.mp hc
    have hi := List.mem_range.mp hi
    have m : n * (i + 1) ≤ 60 * 12 := Nat.mul_le_mul hn.2 (by omega)
    have q : n * (i + 1) / d ≤ n * (i + 1) := Nat.div_le_self _ _
    unfold two at h
    rcases List.mem_cons.mp h with rfl | h
    · dsimp only; omega
    · rw [List.mem_singleton.mp h]; dsimp only; omega
  have nl : (fr (cands n d N)).length ≤ 24 := by
    refine Nat.le_trans (List.length_filter_le _ _) ?_
    have := K75.flat_len (f := fun i => two n d (i + 1)) (k := 2) (l := List.range N) fun i _ => by simp [two]
    rw [List.length_range] at this
    have e : cands n d N = (List.range N).flatMap fun i => two n d (i + 1) := rfl
    rw [e]
    omega
  obtain ⟨sh, sub⟩ := F.near N hN.1 hN.2
  obtain ⟨nd, so⟩ := shape_sort sh
  have pn := p_nearest n d N hn hd hN nd S
  have sc := scan_is (n := n) (d := d) (N := N) (by omega) hN.2
  have mr : ((dueN n d (scan n d N).2).map rowQ).map encRow = (dueN n d (scan n d N).2).map encQ := by rw [List.map_map]; rfl
  rw [so, mr] at pn
  rw [sc] at pn sub
  clear sc sh nd so mr
  generalize hE : fr (cands n d N) = near at *
  have bl : (mins n d near).length ≤ 24 := Nat.le_trans (List.length_filter_le _ _) nl
  have bc : ∀ c ∈ mins n d near, c ∈ near := fun c hc => (List.mem_filter.mp hc).1
  have best : runC (mElt [22] (gSet 22) (mTst (m2 vEqS (mLC [23] false (mSrc (mVar 18)) (gSet 23) (mTru (mCall s__law_less (mCons (mCall s__law_apart (mCons (mVar 23) (mCons (mVar 6) (mCons (mVar 12) mNil)))) (mCons (mCall s__law_apart (mCons (mVar 22) (mCons (mVar 6) (mCons (mVar 12) mNil)))) mNil)))) (mC (.int 1))) (mLst false mNil))) (mVar 22)
      (eNr a0 a2 a3 a4 n d a8 a9 a10 a11 a13 (q.sn ++ [q.nw]) a15 N near a19 none none)) (near.map encQ) S = .ok ((mins n d near).map encQ) S := by
    rw [runC_filter (enc := encQ) (ec := encQ) (h := fun c => if near.all (fun e => !decide (val n d e < val n d c)) then some c else none) (fun c hc => by
      have nl' : near.length ≤ 16777216 := by omega
      have pc := p_apart n d hn.2 hd.2 c (c1 c hc) (cin c hc).2 S
      have dc : dist (c.1 * d) (n * c.2) ≤ 100000 := by
        unfold dist
        have := Nat.mul_le_mul (c1 c hc) hd.2
        have := Nat.mul_le_mul hn.2 (cin c hc).2
        omega
      have d2 : c.2 * d ≤ 12 * 60 := Nat.mul_le_mul (cin c hc).2 hd.2
      unfold eNr
      simp [nl']
      rw [runC_ones (enc := encQ) (c := fun e => decide (val n d e < val n d c)) (fun e he => by
        have pe := p_apart n d hn.2 hd.2 e (c1 e he) (cin e he).2 S
        have de : dist (e.1 * d) (n * e.2) ≤ 100000 := by
          unfold dist
          have := Nat.mul_le_mul (c1 e he) hd.2
          have := Nat.mul_le_mul hn.2 (cin e he).2
          omega
        have e2 : e.2 * d ≤ 12 * 60 := Nat.mul_le_mul (cin e he).2 hd.2
        have pl := p_law_less (dist (e.1 * d) (n * e.2), e.2 * d) (dist (c.1 * d) (n * c.2), c.2 * d) de (by dsimp only; omega) dc (by dsimp only; omega) S
        rw [raw_less (by omega) (cin e he) (cin c hc)] at pl
        simp [pc, pe, pl]
        by_cases q : val n d e < val n d c <;> simp [q])]
      simp only [kLC1_ok, mkL_f, bind_ok, k2_ap, mLst_ap, mNil_ap, kLst_ap, vEqS_ones, kTst_ap, filter_isEmpty, List.length_nil, Nat.zero_le]
      by_cases g : (near.all fun e => !decide (val n d e < val n d c)) = true
      · rw [g]; simp
      · rw [Bool.not_eq_true] at g
        rw [g]; simp)]
    rw [filterMap_if]
    rfl
  generalize mins n d near = B at *
  have le_ : ∀ c ∈ B, ((c.1 : Int) * d ≤ n * c.2) ↔ leB n d c = true := fun c _ => by
    unfold leB
    rw [Nat.ble_eq]
    norm_cast
  have bl1 : B.length ≤ 16777216 := by omega
  have low : ∀ env : Mir.Env, env[6]? = some (some (.int (n : Int))) → env[12]? = some (some (.int (d : Int))) → 22 < env.length → runC (mElt [22] (gSet 22) (mTst (m2 vLe (m2 (vMul false) (m2 vIx (mVar 22) (mC (.int 0))) (mVar 12)) (m2 (vMul false) (mVar 6) (m2 vIx (mVar 22) (mC (.int 1)))))) (mVar 22) env) (B.map encQ) S = .ok ((B.filter fun c => leB n d c).map encQ) S := fun env e6 e12 e22 => by
    rw [runC_filter (enc := encQ) (ec := encQ) (h := fun c => if leB n d c then some c else none) (fun c hc => by
      have k1 := c1 c (bc c hc)
      have k2 := (cin c (bc c hc)).2
      have le := le_ c hc
      simp [encQ, e22, e6, e12, show c.1 < 18446744073709551616 by omega, show c.2 < 18446744073709551616 by omega, show n < 18446744073709551616 by omega, show d < 18446744073709551616 by omega]
      by_cases g : leB n d c = true
      · simp [le.mpr g, g, encQ, e22]
      · have : ¬ ((c.1 : Int) * d ≤ n * c.2) := fun z => g (le.mp z)
        simp [this, g])]
    rw [filterMap_if]
  have high : ∀ env : Mir.Env, env[6]? = some (some (.int (n : Int))) → env[12]? = some (some (.int (d : Int))) → 22 < env.length → runC (mElt [22] (gSet 22) (mTst (m2 vGt (m2 (vMul false) (m2 vIx (mVar 22) (mC (.int 0))) (mVar 12)) (m2 (vMul false) (mVar 6) (m2 vIx (mVar 22) (mC (.int 1)))))) (mVar 22) env) (B.map encQ) S = .ok ((B.filter fun c => !leB n d c).map encQ) S := fun env e6 e12 e22 => by
    rw [runC_filter (enc := encQ) (ec := encQ) (h := fun c => if (!leB n d c) = true then some c else none) (fun c hc => by
      have k1 := c1 c (bc c hc)
      have k2 := (cin c (bc c hc)).2
      have le := le_ c hc
      simp [encQ, e22, e6, e12, show c.1 < 18446744073709551616 by omega, show c.2 < 18446744073709551616 by omega, show n < 18446744073709551616 by omega, show d < 18446744073709551616 by omega]
      by_cases g : leB n d c = true
      · have : ¬ ((n : Int) * c.2 < c.1 * d) := fun z => by have := le.mpr g; omega
        simp [this, g]
      · have : ((n : Int) * c.2 < c.1 * d) := by
          have : ¬ ((c.1 : Int) * d ≤ n * c.2) := fun z => g (le.mp z)
          omega
        simp [this, g, encQ, e22])]
    rw [filterMap_if]
  have dl : (dueN n d B).length ≤ 48 := by
    unfold dueN
    rw [List.length_append]
    have := List.length_filter_le (fun c => leB n d c) B
    have := List.length_filter_le (fun c => !leB n d c) B
    omega
  have l1 := List.length_filter_le (fun c => leB n d c) B
  have l2 := List.length_filter_le (fun c => !leB n d c) B
  have dm : ∀ c ∈ dueN n d B, c ∈ q.sn ++ [q.nw] := fun c hc => by
    unfold dueN at hc
    rcases List.mem_append.mp hc with h | h
    · exact sub c (List.mem_filter.mp h).1
    · exact sub c (List.mem_filter.mp h).1
  have due : ((B.filter fun c => leB n d c).map encQ) ++ ((B.filter fun c => !leB n d c).map encQ) = (dueN n d B).map encQ := by unfold dueN; rw [List.map_append]
  generalize hsn : q.sn ++ [q.nw] = sn at *
  have va : vAdd false (.lst ((B.filter fun c => leB n d c).map encQ)) (.lst ((B.filter fun c => !leB n d c).map encQ)) S = .ok (.lst ((dueN n d B).map encQ)) S := by
    rw [← due]
    exact if_pos (by rw [List.length_map, List.length_map]; omega)
  have b16 : b_law_16 (eNr a0 a2 a3 a4 n d a8 a9 a10 a11 a13 sn a15 N near a19 none none) S = b_law_14 (eNr a0 a2 a3 a4 n d a8 a9 a10 a11 a13 sn a15 N near a19 (some (.lst (B.map encQ))) (some (.lst ((dueN n d B).map encQ)))) S := by
    unfold eNr at *
    have nl' : (near.map encQ).length ≤ 16777216 := by simp; omega
    rw [b_law_16]
    simp only [sSeq_ap, sAsg_ap, mLC_ap, mSrc_ap, mVar_ap, List.getElem?_cons_succ, List.getElem?_cons_zero, kV_ap, bind_ok]
    rw [show kSrc (.lst (near.map encQ)) S = .ok (.items (near.map encQ)) S from rfl]
    simp only [bind_ok, kLC_ap _ _ _ _ _ _ _ _ nl']
    rw [best]
    simp only [kLC1_ok, mkL_f, fl_ok, kAsg_ap, gSet_ap, kNx_ap, seq_nx, List.set_cons_succ, List.set_cons_zero]
    simp [b_law_15, bl1]
    rw [low _ rfl rfl (by simp)]
    simp [bl1]
    rw [high _ rfl rfl (by simp)]
    simp
    rw [va]
    simp
  rw [b16]
  clear b16 best low high
  generalize dueN n d B = Du at *
  have tn : mLam lk__law_told [] (mCall s_nearest_to (mCons (mVar 6) (mCons (mVar 12) (mCons (mVar 17) mNil)))) (eNr a0 a2 a3 a4 n d a8 a9 a10 a11 a13 sn a15 N near a19 (some (.lst (B.map encQ))) (some (.lst (Du.map encQ)))) S = .ok (.tup [.int 0, .tup (Du.map encQ)]) S :=
    lam_told (w := fun c => w__law_told[c]?) (pre := []) (by simp [eNr, pn]) (read_Q _ (by omega) _)
  have nq := ne_Q Du S
  unfold eNr at *
  simp [b_law_14, tn, nq, b_law_13, show Du.length ≤ 16777216 by omega]
  rw [runC_ones (enc := encQ) (c := fun _ => false) (fun c hc => by
    have e := in_Q c sn S
    rw [decide_eq_true (dm c hc)] at e
    simp [e])]
  simp
end K75
end

section
set_option Elab.async false
set_option linter.all false
set_option maxRecDepth 100000
/-! K75t: the stream. -/
namespace K75
open PySem PySem.Spec Mir
def cellF (ns : List Int) : Int := (ns.headD 0).natAbs
theorem cell_is (ns : List Int) : s__law_cell [.scr ns, .int 0] [] = .ok (.int (cellF ns)) [] := by
  cases ns with
  | nil => simp [s__law_cell, b__law_cell, b__law_cell_1, cellF]
  | cons n ns =>
    have e : vIx (.scr (n :: ns)) (.int 0) [] = .ok (.int n) [] := by
      show (match L2.atI (n :: ns) 0 with
        | some d => Out.ok (D.int d) []
        | none => .bad) = _
      rw [atI_nn _ (by omega)]
      rfl
    simp [s__law_cell, b__law_cell, b__law_cell_1, cellF, e]
def boxF (ns : List Int) : Bx := ⟨cellF ns, 1 + 48271 * cellF ns % 2147483647, by unfold cellF; omega, by have := Int.emod_nonneg (48271 * cellF ns) (show (2147483647 : Int) ≠ 0 by decide); omega, by have := Int.emod_lt_of_pos (48271 * cellF ns) (show (0 : Int) < 2147483647 by decide); omega⟩
theorem stream_is (ns : List Int) (h : ∀ z ∈ ns, Builtin.Int.intBits z ≤ 1048576) : s__law_stream [.scr ns, .int 0] [] = .ok (.ref 0) [bx (boxF ns)] := by
  have e : bx (boxF ns) = .lst [.int (cellF ns), .int (1 + 48271 * cellF ns % 2147483647)] := rfl
  rw [e]
  have lg : (cellF ns).natAbs.log2 ≤ 1048576 := by
    cases ns with
    | nil => exact Nat.zero_le _
    | cons n ns =>
      have hz := h n List.mem_cons_self
      have en : (cellF (n :: ns)).natAbs = n.natAbs := by simp [cellF]
      rw [en]
      unfold Builtin.Int.intBits at hz
      split at hz
      · rename_i z
        have : n = 0 := by simpa using z
        rw [this]; exact Nat.zero_le _
      · omega
  have mu : vMul false (.int 48271) (.int (cellF ns)) [] = .ok (.int (48271 * cellF ns)) [] := by
    refine if_pos (Nat.ble_eq_true_of_le ?_)
    have : (48271 : Int).natAbs.log2 ≤ 16 := by decide
    omega
  simp [s__law_stream, b__law_stream, b__law_stream_1, cell_is, mu, Mir.finish, backOk, outD, D.lt]
end K75
end

section
set_option Elab.async false
set_option linter.all false
set_option maxRecDepth 100000
/-! K75C: the law. -/
namespace K75
open PySem PySem.Spec Mir
theorem law_is (ns : List Int) (h : ∀ z ∈ ns, Builtin.Int.intBits z ≤ 1048576) : ∃ S, s_law [.scr ns] [] = .ok (.bl true) S := by
  obtain ⟨y, rs, rl, rb, e1⟩ := rows_go (some (.scr ns)) (boxF ns)
  obtain ⟨a6, e2⟩ := told_go (some (.scr ns)) y rs rl rb
  have t8 := (tot_small rl rb).1
  obtain ⟨a8, a9, a10, e3⟩ := good_law (some (.scr ns)) rs rl rb (totP rs) (mem_rg.mpr t8) a6 y
  have e4 := win_law (some (.scr ns)) rs rl rb a6 a8 a9 a10 y
  obtain ⟨a11, z, e5⟩ := far_law (some (.scr ns)) rs (totP rs) a6 a8 a9 a10 y (.lst ((movesR (totP rs) 0 rs).map encRow))
  obtain ⟨n, d, q, a15, w, hn, hd, F, e6⟩ := path_law (some (.scr ns)) (some (.lst ((numsP 9).map .int))) (some (.tup (rs.map encN))) (some (.int (totP rs))) a6 a8 a9 a10 a11 z (.lst ((movesR (totP rs) 0 rs).map encRow))
  obtain ⟨N, a19, v, hN, e7⟩ := near_law (some (.scr ns)) (some (.lst ((numsP 9).map .int))) (some (.tup (rs.map encN))) (some (.int (totP rs))) n d hn hd a8 a9 a10 a11 q.st (q.sn ++ [q.nw]) a15 w (.lst ((movesR (totP rs) 0 rs).map encRow))
  have e8 := end_law (some (.scr ns)) (some (.lst ((numsP 9).map .int))) (some (.tup (rs.map encN))) (some (.int (totP rs))) n d hn hd q F a8 a9 a10 a11 (some (.str (strOf q.st))) a15 a19 N hN [bx v, .lst ((movesR (totP rs) 0 rs).map encRow)]
  refine ⟨[], ?_⟩
  unfold eLaw at *
  simp [s_law, b_law, b_law_32, stream_is ns h, e1, e2, e3, e4, e5, e6, e7, e8]
  simp [Mir.finish, backOk, outD, D.lt]
end K75
end

theorem PySem.Challenge.cw_allnights_k75_rows_of_nights_and_paths_holds : PySem.Challenge.rw_allnights_k75_rows_of_nights_and_paths.Holds := by
  exact K75.holds_of fun ns _ h => K75.law_is ns h
