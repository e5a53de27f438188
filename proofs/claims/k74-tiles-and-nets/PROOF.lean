import PyProof.Rows.All
import Wide.All
import OpenK.AllK
import Wide.FinOn
import HandS.ForMost
import HandS.Exc
import HandS.Defaults
import HandS.HeadHook1
import HandS.HeadHook2
import KE.KStateDown
import HandS.Head0
import HandS.Head1
import HandS.Head2
import HandS.HeadEnd
import PySem.Challenge.RW_allnights_k74_tiles_and_nets
import KE.KNestM
import HandS.HeadHook3
import HandS.HeadHook4
import HandS.ExcIs
import HandS.TryMany
import HandS.TryOnly
import HandS.Lambda
import KE.KRevSl
import HandS.Style
import HandS.List
import PyProof.ReprRoads
import PyProof.ReprLen
import PyProof.FitsInt
import PyProof.CallFns
import HandS.Conv
import HandS.Iter
import HandS.Comp
import HandS.Dict
import HandS.DictComp
import HandS.Zip
import HandS.IsInst
import HandS.TupMul
import HandS.ExcOwn
import HandS.WordsExc
import HandS.Wide
import HandS.TupLen
import HandS.SortInts
import HandS.Deep
import HandS.TupAny
import HandS.TupLe
import HandS.More
import HandS.SetFor
import HandS.Strs
import HandS.TupSets
import HandS.Ends
import HandS.EndBits
import HandS.EndTab
section
set_option Elab.async false
set_option linter.all false
set_option maxRecDepth 100000
/-! Mir0: pure values, a store of what is mutated, and how they lie in HandS's abstract heap. -/
namespace Mir
open PySem PySem.Spec PyProof.Rows L2

inductive D where
  | non | bl (b : Bool) | int (i : Int) | str (x : Str) | tup (xs : List D) | lst (xs : List D) | ref (n : Nat) | scr (ns : List Int)
  deriving Inhabited

inductive Ob where
  | lst (xs : List D) | dic (t : Bool) (kvs : List (D × D))
  deriving Inhabited
abbrev Store := List Ob
abbrev Env := List (Option D)

inductive Out (α : Type) where
  | ok (a : α) (S : Store) | ex (c : Nat) (S : Store) | bad

/-- no reference within -/
def D.nr : D → Bool
  | .tup xs => nrs xs
  | .lst xs => nrs xs
  | .ref _ => false
  | .scr _ => false
  | _ => true
where nrs : List D → Bool
  | [] => true
  | x :: xs => x.nr && nrs xs

/-- where the store's objects lie; what is hidden from all values -/
structure Rho where
  l : List Addr
  h : List Addr
  t : List (Addr × Str)
abbrev Rho.all (ρ : Rho) : List Addr := ρ.l ++ ρ.h
def Rho.push (ρ : Rho) (p : Addr) : Rho := ⟨ρ.l ++ [p], ρ.h, ρ.t⟩
def Rho.hide (ρ : Rho) (p : Addr) : Rho := ⟨ρ.l, p :: ρ.h, ρ.t⟩

/-- a list of the written part -/
def InK (K : PySem.W.Frag) (a : Addr) (xs : List V) : Prop := ∃ (o : Obj) (its : Array Value) (n : Nat), K.lookup a = some o ∧ o.cls = .type "list" ∧ o.dict = none ∧ o.data = .seq its n ∧ its.size ≤ sizeLine ∧ Vals xs its.toList
mutual
def RD (K : PySem.W.Frag) (ρ : Rho) (H : Hp) : D → V → Prop
  | .non, v => v = .non
  | .bl b, v => v = .bl b
  | .int i, v => v = .int i
  | .str x, v => v = .str x
  | .tup ds, v => ∃ a vs, v = .ref a ∧ (H a = some (.tup vs) ∧ a ∉ ρ.all) ∧ RDs K ρ H ds vs
  | .lst ds, v => ∃ a vs, v = .ref a ∧ (H a = some (.lst vs) ∧ a ∉ ρ.all) ∧ RDs K ρ H ds vs
  | .ref n, v => ∃ a, v = .ref a ∧ ρ.l[n]? = some a
  | .scr ns, v => ∃ a, v = .ref a ∧ ((∃ o, H a = some (.frz o (.lst (ns.map V.int))) ∧ a ∉ ρ.all) ∨ InK K a (ns.map V.int))
def RDs (K : PySem.W.Frag) (ρ : Rho) (H : Hp) : List D → List V → Prop
  | [], vs => vs = []
  | d :: ds, vs => ∃ v r, vs = v :: r ∧ RD K ρ H d v ∧ RDs K ρ H ds r
end

/-- keys -/
def keyD : D → Option Key
  | .int i => some (.inl i)
  | .str x => some (.inr x)
  | _ => none
def keyT : D → Option (List Key)
  | .tup ds => ds.mapM keyD
  | _ => none
def RKV {κ : Type} (K : PySem.W.Frag) (ρ : Rho) (H : Hp) (kf : D → Option κ) : List (D × D) → List (κ × V) → Prop :=
  Paired fun p q => kf p.1 = some q.1 ∧ RD K ρ H p.2 q.2
def ROb (K : PySem.W.Frag) (ρ : Rho) (H : Hp) : Ob → HO → Prop
  | .lst ds, o => ∃ vs, o = .lst vs ∧ RDs K ρ H ds vs
  | .dic false kvs, o => ∃ es, o = .dK es ∧ RKV K ρ H keyD kvs es
  | .dic true kvs, o => ∃ es, o = .dT es ∧ RKV K ρ H keyT kvs es

/-- no table of code objects, no code object -/
def NTab (o : HO) : Prop := (∀ ps, o ≠ .tbl ps) ∧ ∀ φ, o ≠ .ext φ
theorem ntab_lst {xs : List V} : NTab (.lst xs) := ⟨fun _ e => (by cases e), fun _ e => (by cases e)⟩
theorem ntab_dK {xs : List (Key × V)} : NTab (.dK xs) := ⟨fun _ e => (by cases e), fun _ e => (by cases e)⟩
theorem ntab_dT {xs : List (List Key × V)} : NTab (.dT xs) := ⟨fun _ e => (by cases e), fun _ e => (by cases e)⟩
theorem ntab_ob {K : PySem.W.Frag} {ρ : Rho} {H : Hp} {o : Ob} {h : HO} (r : ROb K ρ H o h) : NTab h := by
  cases o with
  | lst ds => obtain ⟨vs, rfl, _⟩ := r; exact ntab_lst
  | dic t kvs =>
    cases t with
    | false => obtain ⟨es, rfl, _⟩ := r; exact ntab_dK
    | true => obtain ⟨es, rfl, _⟩ := r; exact ntab_dT
theorem tabs_but {T : List (Addr × Str)} {H H' : Hp} {p : Addr} (t : LamX.Tabs T H) (hp : H p = none ∨ ∃ u, H p = some u ∧ NTab u) (e : ∀ b, b ≠ p → H' b = H b) : LamX.Tabs T H' := fun q hq => by
  obtain ⟨ps, h1, h2, h3⟩ := t q hq
  have ne : ∀ {b : Addr} {u : HO}, H b = some u → ¬ NTab u → b ≠ p := fun {b u} hb nu z => by
    subst z
    rcases hp with hp | ⟨u', hp, hu⟩
    · rw [hb] at hp; cases hp
    · rw [hb] at hp; cases hp; exact nu hu
  have n1 : ∀ qs, ¬ NTab (.tbl qs) := fun qs z => z.1 qs rfl
  have n2 : ∀ φ, ¬ NTab (.ext φ) := fun φ z => z.2 φ rfl
  refine ⟨ps, (e _ (ne h1 (n1 _))).trans h1, h2, fun pos cv hc => ?_⟩
  obtain ⟨c, e1, e2⟩ := h3 pos cv hc
  exact ⟨c, e1, (e _ (ne e2 (n2 _))).trans e2⟩
/-- nothing, or a table of code objects -/
def Bare (H : Hp) (a : Addr) : Prop := ∀ o, H a = some o → ∃ ps, o = .tbl ps
theorem bare_of {H : Hp} {a : Addr} (h : H a = none) : Bare H a := fun o e => by rw [h] at e; cases e
/-- the defs' tables, read off the written part: where they are not among what is written -/
def tabsK (K : PySem.W.Frag) : List (Addr × Str) := K.filterMap fun q => match q.2.data with
  | .func fd => (match fd.code with
    | .ref c => (match K.lookup c with
      | some o => (match o.data with
        | .fields vs => (match vs.getD 11 .none with
          | .ref P => (match K.lookup P with
            | none => some (P, fd.qualname ++ ".<locals>." ++ "<lambda>")
            | some _ => none)
          | _ => none)
        | _ => none)
      | none => none)
    | _ => none)
  | _ => none
structure RelS (K : PySem.W.Frag) (ρ : Rho) (S : Store) (H : Hp) : Prop where
  len : ρ.l.length = S.length
  nd : ρ.l.Nodup
  tab : LamX.Tabs ρ.t H
  told : ρ.t = tabsK K
  hid : ∀ a ∈ ρ.h, a ∉ ρ.l ∧ ∃ o, H a = some o ∧ NTab o
  ob : ∀ (n : Nat) (a : Addr) (o : Ob), ρ.l[n]? = some a → S[n]? = some o → ∃ h, H a = some h ∧ ROb K ρ H o h

def RelE (K : PySem.W.Frag) (ρ : Rho) (H : Hp) (env : Env) (σ : L2.St) : Prop :=
  env.length = σ.length ∧ ∀ (i : Nat) (d : D), env[i]? = some (some d) → ∃ v, σ[i]? = some (some v) ∧ RD K ρ H d v

/-- what may have happened: new mutable objects, all that isn't mutable as it was -/
structure Grow (ρ : Rho) (H : Hp) (ρ' : Rho) (H' : Hp) : Prop where
  pre : ∃ t, ρ'.l = ρ.l ++ t ∧ ∀ a ∈ t, Bare H a
  hid : ∃ xs, ρ'.h = xs ++ ρ.h ∧ ∀ a ∈ xs, Bare H a
  tb : ρ'.t = ρ.t
  fr : ∀ a o, H a = some o → a ∉ ρ.l → (∀ ps, o ≠ .tbl ps) → H' a = some o
  dom : ∀ a o, H a = some o → (∀ ps, o ≠ .tbl ps) → ∃ o', H' a = some o' ∧ ∀ ps, o' ≠ .tbl ps

section
variable {K : PySem.W.Frag} {ρ ρ' ρ'' : Rho} {H H' H'' : Hp}
theorem Grow.refl : Grow ρ H ρ H := ⟨⟨[], by simp, by simp⟩, ⟨[], by simp, by simp⟩, rfl, fun _ _ h _ _ => h, fun _ o h q => ⟨o, h, q⟩⟩
theorem bare_no {a : Addr} {o : HO} (b : Bare H a) (h : H a = some o) (q : ∀ ps, o ≠ .tbl ps) : False := by
  obtain ⟨ps, e⟩ := b o h
  exact q ps e
theorem Grow.notinl (g : Grow ρ H ρ' H') {a : Addr} {o : HO} (h : H a = some o) (q : ∀ ps, o ≠ .tbl ps) (n : a ∉ ρ.l) : a ∉ ρ'.l := by
  obtain ⟨t, e, ht⟩ := g.pre
  rw [e]
  intro z
  rcases List.mem_append.mp z with z | z
  · exact n z
  · exact bare_no (ht a z) h q
theorem Grow.notin (g : Grow ρ H ρ' H') {a : Addr} {o : HO} (h : H a = some o) (q : ∀ ps, o ≠ .tbl ps) (n : a ∉ ρ.all) : a ∉ ρ'.all := by
  have n1 : a ∉ ρ.l ∧ a ∉ ρ.h := by simpa [Rho.all] using n
  intro z
  rcases List.mem_append.mp z with z | z
  · exact g.notinl h q n1.1 z
  · obtain ⟨xs, e, hx⟩ := g.hid
    rw [e] at z
    rcases List.mem_append.mp z with z | z
    · exact bare_no (hx a z) h q
    · exact n1.2 z
theorem Grow.trans (g : Grow ρ H ρ' H') (g' : Grow ρ' H' ρ'' H'') : Grow ρ H ρ'' H'' := by
  have back : ∀ a, Bare H' a → Bare H a := fun a ha o e => by
    cases o with
    | tbl ps => exact ⟨ps, rfl⟩
    | _ =>
      obtain ⟨o', e', q'⟩ := g.dom a _ e (by intro _ z; cases z)
      exact (bare_no ha e' q').elim
  refine ⟨?_, ?_, g'.tb.trans g.tb, fun a o h n q => g'.fr a o (g.fr a o h n q) (g.notinl h q n) q, fun a o h q => ?_⟩
  · obtain ⟨t, e, ht⟩ := g.pre
    obtain ⟨t', e', ht'⟩ := g'.pre
    refine ⟨t ++ t', by rw [e', e, List.append_assoc], fun a ha => ?_⟩
    rcases List.mem_append.mp ha with ha | ha
    · exact ht a ha
    · exact back a (ht' a ha)
  · obtain ⟨t, e, ht⟩ := g.hid
    obtain ⟨t', e', ht'⟩ := g'.hid
    refine ⟨t' ++ t, by rw [e', e, List.append_assoc], fun a ha => ?_⟩
    rcases List.mem_append.mp ha with ha | ha
    · exact back a (ht' a ha)
    · exact ht a ha
  · obtain ⟨o', e, q'⟩ := g.dom a o h q
    exact g'.dom a o' e q'
theorem Grow.ix (g : Grow ρ H ρ' H') {n : Nat} {a : Addr} (h : ρ.l[n]? = some a) : ρ'.l[n]? = some a := by
  obtain ⟨t, e, _⟩ := g.pre
  rw [e, List.getElem?_append_left (List.getElem?_eq_some_iff.mp h).1]; exact h
theorem nl_of {a : Addr} (n : a ∉ ρ.all) : a ∉ ρ.l := fun z => n (List.mem_append_left _ z)
theorem at_grow (g : Grow ρ H ρ' H') {a : Addr} {u : HO} (h : H a = some u ∧ a ∉ ρ.all) (q : ∀ ps, u ≠ .tbl ps := by intro _ z; cases z) : H' a = some u ∧ a ∉ ρ'.all := ⟨g.fr _ _ h.1 (nl_of h.2) q, g.notin h.1 q h.2⟩
mutual
theorem RD.grow (g : Grow ρ H ρ' H') : ∀ {d : D} {v : V}, RD K ρ H d v → RD K ρ' H' d v
  | .non, _, h => h
  | .bl _, _, h => h
  | .int _, _, h => h
  | .str _, _, h => h
  | .tup ds, v, h => by
    unfold RD at h ⊢
    obtain ⟨a, vs, e, h1, h2⟩ := h
    exact ⟨a, vs, e, at_grow g h1, RDs.grow g h2⟩
  | .lst ds, v, h => by
    unfold RD at h ⊢
    obtain ⟨a, vs, e, h1, h2⟩ := h
    exact ⟨a, vs, e, at_grow g h1, RDs.grow g h2⟩
  | .ref n, v, h => by
    unfold RD at h ⊢
    obtain ⟨a, e, h1⟩ := h
    exact ⟨a, e, g.ix h1⟩
  | .scr ns, v, h => by
    unfold RD at h ⊢
    obtain ⟨a, e, h1⟩ := h
    exact ⟨a, e, h1.imp (fun ⟨o, h1⟩ => ⟨o, at_grow g h1⟩) id⟩
theorem RDs.grow (g : Grow ρ H ρ' H') : ∀ {ds : List D} {vs : List V}, RDs K ρ H ds vs → RDs K ρ' H' ds vs
  | [], _, h => h
  | d :: ds, vs, h => by
    unfold RDs at h ⊢
    obtain ⟨v, r, e, h1, h2⟩ := h
    exact ⟨v, r, e, RD.grow g h1, RDs.grow g h2⟩
end
theorem RelE.grow (g : Grow ρ H ρ' H') {env : Env} {σ : L2.St} (h : RelE K ρ H env σ) : RelE K ρ' H' env σ :=
  ⟨h.1, fun i d e => let ⟨v, e', r⟩ := h.2 i d e; ⟨v, e', r.grow g⟩⟩
theorem RKV.grow {κ : Type} {kf : D → Option κ} (g : Grow ρ H ρ' H') {kvs : List (D × D)} {es : List (κ × V)} (h : RKV K ρ H kf kvs es) : RKV K ρ' H' kf kvs es :=
  Paired.mapP h fun _ _ z => ⟨z.1, z.2.grow g⟩
theorem ROb.grow (g : Grow ρ H ρ' H') {o : Ob} {h : HO} (r : ROb K ρ H o h) : ROb K ρ' H' o h := by
  cases o with
  | lst ds => obtain ⟨vs, e, r⟩ := r; exact ⟨vs, e, r.grow g⟩
  | dic t kvs =>
    cases t with
    | false => obtain ⟨es, e, r⟩ := r; exact ⟨es, e, RKV.grow g r⟩
    | true => obtain ⟨es, e, r⟩ := r; exact ⟨es, e, RKV.grow g r⟩

/-! ### simple facts of RD -/
theorem RD.tupT {ds : List D} {v : V} (h : RD K ρ H (.tup ds) v) : ∃ a vs, v = .ref a ∧ SqT K H a vs ∧ RDs K ρ H ds vs := by
  unfold RD at h
  obtain ⟨a, vs, e, h1, h2⟩ := h
  exact ⟨a, vs, e, SqT.of h1.1, h2⟩
theorem RD.lstL {ds : List D} {v : V} (h : RD K ρ H (.lst ds) v) : ∃ a vs, v = .ref a ∧ SqL K H a vs ∧ RDs K ρ H ds vs := by
  unfold RD at h
  obtain ⟨a, vs, e, h1, h2⟩ := h
  exact ⟨a, vs, e, SqL.of h1.1, h2⟩
theorem RD.ofScr {ns : List Int} {v : V} (h : RD K ρ H (.scr ns) v) : ∃ a, v = .ref a ∧ SqL K H a (ns.map V.int) := by
  unfold RD at h
  obtain ⟨a, e, h⟩ := h
  exact ⟨a, e, h.imp (fun ⟨o, h, _⟩ => .inr ⟨o, h⟩) id⟩
theorem RD.ofInt {i : Int} {v : V} (h : RD K ρ H (.int i) v) : v = .int i := by unfold RD at h; exact h
theorem RD.ofBl {i : Bool} {v : V} (h : RD K ρ H (.bl i) v) : v = .bl i := by unfold RD at h; exact h
theorem RD.ofStr {i : Str} {v : V} (h : RD K ρ H (.str i) v) : v = .str i := by unfold RD at h; exact h
theorem RD.ofNon {v : V} (h : RD K ρ H .non v) : v = .non := by unfold RD at h; exact h
theorem RD.int {i : Int} : RD K ρ H (.int i) (.int i) := by unfold RD; rfl
theorem RD.bl {i : Bool} : RD K ρ H (.bl i) (.bl i) := by unfold RD; rfl
theorem RD.str {i : Str} : RD K ρ H (.str i) (.str i) := by unfold RD; rfl
theorem RD.non : RD K ρ H .non .non := by unfold RD; rfl
theorem RDs.nil : RDs K ρ H [] [] := by unfold RDs; rfl
theorem RDs.cons {d : D} {v : V} {ds : List D} {vs : List V} (h : RD K ρ H d v) (t : RDs K ρ H ds vs) : RDs K ρ H (d :: ds) (v :: vs) := by
  unfold RDs; exact ⟨v, vs, rfl, h, t⟩
theorem RDs.length : ∀ {ds : List D} {vs : List V}, RDs K ρ H ds vs → ds.length = vs.length
  | [], _, h => by unfold RDs at h; subst h; rfl
  | d :: ds, vs, h => by
    unfold RDs at h
    obtain ⟨v, r, rfl, _, h2⟩ := h
    simp only [List.length_cons, RDs.length h2]
theorem RDs.get : ∀ {ds : List D} {vs : List V} {i : Nat} {d : D}, RDs K ρ H ds vs → ds[i]? = some d → ∃ v, vs[i]? = some v ∧ RD K ρ H d v
  | [], _, _, _, _, e => by simp at e
  | d :: ds, vs, i, d', h, e => by
    unfold RDs at h
    obtain ⟨v, r, rfl, h1, h2⟩ := h
    cases i with
    | zero => simp at e; subst e; exact ⟨v, rfl, h1⟩
    | succ i => exact RDs.get (i := i) h2 (by simpa using e)
theorem RDs.append : ∀ {ds es : List D} {vs us : List V}, RDs K ρ H ds vs → RDs K ρ H es us → RDs K ρ H (ds ++ es) (vs ++ us)
  | [], _, _, _, h, t => by unfold RDs at h; subst h; exact t
  | d :: ds, es, vs, us, h, t => by
    unfold RDs at h
    obtain ⟨v, r, rfl, h1, h2⟩ := h
    exact RDs.cons h1 (RDs.append h2 t)
theorem RDs.take : ∀ {ds : List D} {vs : List V} (n : Nat), RDs K ρ H ds vs → RDs K ρ H (ds.take n) (vs.take n)
  | _, _, 0, _ => by simp only [List.take_zero]; exact RDs.nil
  | [], _, n + 1, h => by unfold RDs at h; subst h; exact RDs.nil
  | d :: ds, vs, n + 1, h => by
    unfold RDs at h
    obtain ⟨v, r, rfl, h1, h2⟩ := h
    exact RDs.cons h1 (RDs.take n h2)
theorem RDs.drop : ∀ {ds : List D} {vs : List V} (n : Nat), RDs K ρ H ds vs → RDs K ρ H (ds.drop n) (vs.drop n)
  | _, _, 0, h => h
  | [], _, n + 1, h => by unfold RDs at h; subst h; exact RDs.nil
  | d :: ds, vs, n + 1, h => by
    unfold RDs at h
    obtain ⟨v, r, rfl, h1, h2⟩ := h
    exact RDs.drop n h2
theorem RDs.set : ∀ {ds : List D} {vs : List V} {d : D} {v : V} (n : Nat), RD K ρ H d v → RDs K ρ H ds vs → RDs K ρ H (ds.set n d) (vs.set n v)
  | [], _, _, _, _, _, h => by unfold RDs at h; subst h; exact RDs.nil
  | x :: ds, vs, d, v, n, hd, h => by
    unfold RDs at h
    obtain ⟨u, r, rfl, h1, h2⟩ := h
    cases n with
    | zero => exact RDs.cons hd h2
    | succ n => exact RDs.cons h1 (RDs.set n hd h2)
theorem RDs.rep {ds : List D} {vs : List V} (h : RDs K ρ H ds vs) : ∀ n : Nat, RDs K ρ H (List.replicate n ds).flatten (List.replicate n vs).flatten
  | 0 => RDs.nil
  | n + 1 => by
    rw [List.replicate_succ, List.replicate_succ, List.flatten_cons, List.flatten_cons]
    exact RDs.append h (RDs.rep h n)
theorem RDs.one {d : D} {vs : List V} (h : RDs K ρ H [d] vs) : ∃ v, vs = [v] ∧ RD K ρ H d v := by
  unfold RDs at h
  obtain ⟨v, r, rfl, h1, h2⟩ := h
  unfold RDs at h2
  subst h2
  exact ⟨v, rfl, h1⟩
theorem RDs.two {d e : D} {vs : List V} (h : RDs K ρ H [d, e] vs) : ∃ v u, vs = [v, u] ∧ RD K ρ H d v ∧ RD K ρ H e u := by
  unfold RDs at h
  obtain ⟨v, r, rfl, h1, h2⟩ := h
  obtain ⟨u, rfl, h3⟩ := h2.one
  exact ⟨v, u, rfl, h1, h3⟩

/-! ### new objects, changed ones -/
theorem grow_upd {p : Addr} {o : HO} (np : H p = none) : Grow ρ H ρ (upd H p o) :=
  ⟨⟨[], by simp, by simp⟩, ⟨[], by simp, by simp⟩, rfl, fun a u h _ _ => by rw [upd_ne (ne_of_none h np)]; exact h, fun a u h q => ⟨u, by rw [upd_ne (ne_of_none h np)]; exact h, q⟩⟩
theorem grow_new {p : Addr} {o : HO} (np : H p = none) : Grow ρ H (ρ.push p) (upd H p o) :=
  ⟨⟨[p], rfl, fun a ha => by rw [List.mem_singleton.mp ha]; exact bare_of np⟩, ⟨[], by simp [Rho.push], by simp⟩, rfl, fun a u h _ _ => by rw [upd_ne (ne_of_none h np)]; exact h, fun a u h q => ⟨u, by rw [upd_ne (ne_of_none h np)]; exact h, q⟩⟩
theorem grow_set {p : Addr} {o : HO} (hp : p ∈ ρ.l) (nt : ∀ ps, o ≠ .tbl ps := by intro _ z; cases z) : Grow ρ H ρ (upd H p o) := by
  refine ⟨⟨[], by simp, by simp⟩, ⟨[], by simp, by simp⟩, rfl, fun a u h n _ => ?_, fun a u h q => ?_⟩
  · rw [upd_ne (fun e => n (by rw [e]; exact hp))]; exact h
  · by_cases e : a = p
    · subst e; exact ⟨o, upd_same, nt⟩
    · exact ⟨u, by rw [upd_ne e]; exact h, q⟩
theorem RelS.mem {S : Store} (r : RelS K ρ S H) {a : Addr} (ha : a ∈ ρ.l) : ∃ h, H a = some h := by
  obtain ⟨n, hn, rfl⟩ := List.getElem_of_mem ha
  have hs : n < S.length := by rw [← r.len]; exact hn
  obtain ⟨h, e, _⟩ := r.ob n _ _ (List.getElem?_eq_getElem hn) (List.getElem?_eq_getElem hs)
  exact ⟨h, e⟩
theorem RelS.fresh {S : Store} (r : RelS K ρ S H) {p : Addr} (np : H p = none) : p ∉ ρ.all := by
  intro z
  rcases List.mem_append.mp z with z | z
  · obtain ⟨_, e⟩ := r.mem z
    rw [np] at e; cases e
  · obtain ⟨_, _, e, _⟩ := r.hid p z
    rw [np] at e; cases e
/-- an object outside the store -/
theorem RelS.out {S : Store} (r : RelS K ρ S H) {p : Addr} {o : HO} (np : H p = none) (nt : ∀ ps, o ≠ .tbl ps := by intro _ z; cases z) : RelS K ρ S (upd H p o) :=
  ⟨r.len, r.nd, tabs_but r.tab (.inl np) fun b hb => upd_ne hb, r.told, fun a ha => let ⟨n, u, e, q⟩ := r.hid a ha; ⟨n, u, by rw [upd_ne (ne_of_none e np)]; exact e, q⟩, fun n a u h1 h2 => let ⟨h, e, q⟩ := r.ob n a u h1 h2; ⟨h, by rw [upd_ne (ne_of_none e np)]; exact e, q.grow (grow_upd np)⟩⟩
theorem RelS.push {S : Store} (r : RelS K ρ S H) {p : Addr} {o : Ob} {h : HO} (np : H p = none) (q : ROb K ρ H o h) : RelS K (ρ.push p) (S ++ [o]) (upd H p h) := by
  have nl := nl_of (r.fresh np)
  refine ⟨by simp [Rho.push, r.len], ?_, tabs_but r.tab (.inl np) fun b hb => upd_ne hb, r.told, fun a ha => ?_, fun n a u h1 h2 => ?_⟩
  · show (ρ.l ++ [p]).Nodup
    rw [List.nodup_append]
    refine ⟨r.nd, by simp, fun x hx y hy e => ?_⟩
    rw [List.mem_singleton.mp hy] at e
    subst e
    exact nl hx
  · obtain ⟨n, u, e, nt⟩ := r.hid a ha
    have ne := ne_of_none e np
    refine ⟨fun z => ?_, u, by rw [upd_ne ne]; exact e, nt⟩
    rcases List.mem_append.mp (show a ∈ ρ.l ++ [p] from z) with z | z
    · exact n z
    · exact ne (List.mem_singleton.mp z)
  · have h1 : (ρ.l ++ [p])[n]? = some a := h1
    by_cases hn : n < ρ.l.length
    · rw [List.getElem?_append_left hn] at h1
      rw [List.getElem?_append_left (by rw [← r.len]; exact hn)] at h2
      obtain ⟨w, e, z⟩ := r.ob n a u h1 h2
      exact ⟨w, by rw [upd_ne (ne_of_none e np)]; exact e, z.grow (grow_new np)⟩
    · have hl : n < (ρ.l ++ [p]).length := (List.getElem?_eq_some_iff.mp h1).1
      have hn' : n = ρ.l.length := by simp at hl; omega
      subst hn'
      rw [List.getElem?_append_right (Nat.le_refl _)] at h1
      rw [List.getElem?_append_right (by rw [r.len]; exact Nat.le_refl _)] at h2
      simp at h1
      simp [r.len] at h2
      subst h1; subst h2
      exact ⟨h, upd_same, q.grow (grow_new np)⟩
theorem RelS.set {S : Store} (r : RelS K ρ S H) {n : Nat} {p : Addr} {o : Ob} {h : HO} (hp : ρ.l[n]? = some p) (q : ROb K ρ H o h) : RelS K ρ (S.set n o) (upd H p h) := by
  have hpm : p ∈ ρ.l := List.mem_of_getElem? hp
  have hpn : H p = none ∨ ∃ u, H p = some u ∧ NTab u := by
    have hl := (List.getElem?_eq_some_iff.mp hp).1
    rw [r.len] at hl
    obtain ⟨u, e, q⟩ := r.ob n p _ hp (List.getElem?_eq_getElem hl)
    exact .inr ⟨u, e, ntab_ob q⟩
  refine ⟨by simp [r.len], r.nd, tabs_but r.tab hpn fun b hb => upd_ne hb, r.told, fun a ha => ?_, fun m a u h1 h2 => ?_⟩
  · obtain ⟨n, u, e, q⟩ := r.hid a ha
    exact ⟨n, u, by rw [upd_ne (fun z => n (by rw [z]; exact hpm))]; exact e, q⟩
  by_cases hm : m = n
  · subst hm
    rw [hp] at h1; cases h1
    have hl : m < S.length := by rw [← r.len]; exact (List.getElem?_eq_some_iff.mp hp).1
    rw [List.getElem?_set_self hl] at h2
    cases h2
    exact ⟨h, upd_same, q.grow (grow_set hpm (ntab_ob q).1)⟩
  · rw [List.getElem?_set_ne (Ne.symm hm)] at h2
    obtain ⟨w, e, z⟩ := r.ob m a u h1 h2
    have ne : a ≠ p := fun e => by
      subst e
      have h1' := List.getElem?_eq_some_iff.mp h1
      have h2' := List.getElem?_eq_some_iff.mp hp
      exact hm ((List.getElem_inj r.nd).mp (h1'.2.trans h2'.2.symm))
    exact ⟨w, by rw [upd_ne ne]; exact e, z.grow (grow_set hpm (ntab_ob q).1)⟩
theorem RD.newTup {S : Store} (r : RelS K ρ S H) {p : Addr} {ds : List D} {vs : List V} (np : H p = none) (q : RDs K ρ H ds vs) : RD K ρ (upd H p (.tup vs)) (.tup ds) (.ref p) := by
  unfold RD
  exact ⟨p, vs, rfl, ⟨upd_same, r.fresh np⟩, q.grow (grow_upd np)⟩
theorem RD.newLst {S : Store} (r : RelS K ρ S H) {p : Addr} {ds : List D} {vs : List V} (np : H p = none) (q : RDs K ρ H ds vs) : RD K ρ (upd H p (.lst vs)) (.lst ds) (.ref p) := by
  unfold RD
  exact ⟨p, vs, rfl, ⟨upd_same, r.fresh np⟩, q.grow (grow_upd np)⟩
theorem RD.newRef {S : Store} (r : RelS K ρ S H) {p : Addr} {H' : Hp} : RD K (ρ.push p) H' (.ref S.length) (.ref p) := by
  unfold RD
  refine ⟨p, rfl, ?_⟩
  show (ρ.l ++ [p])[S.length]? = some p
  rw [List.getElem?_append_right (by rw [r.len]; exact Nat.le_refl _)]
  simp [r.len]

/-! ### an object hidden, shown again -/
def del (H : Hp) (p : Addr) : Hp := fun a => if a = p then none else H a
theorem del_ne {p a : Addr} (h : a ≠ p) : del H p a = H a := by unfold del; rw [if_neg h]
theorem del_same {p : Addr} : del H p p = none := by unfold del; rw [if_pos rfl]
theorem del_upd {p : Addr} {o : HO} (h : H p = some o) : upd (del H p) p o = H := by
  funext a
  by_cases e : a = p
  · subst e; rw [upd_same, h]
  · rw [upd_ne e, del_ne e]
theorem grow_hide {p : Addr} {o : HO} (np : H p = none) : Grow ρ H (ρ.hide p) (upd H p o) :=
  ⟨⟨[], by simp [Rho.hide], by simp⟩, ⟨[p], rfl, fun a ha => by rw [List.mem_singleton.mp ha]; exact bare_of np⟩, rfl, fun a u h _ _ => by rw [upd_ne (ne_of_none h np)]; exact h, fun a u h q => ⟨u, by rw [upd_ne (ne_of_none h np)]; exact h, q⟩⟩
def Rho.shw (ρ : Rho) (p : Addr) : Rho := ⟨ρ.l, ρ.h.filter fun a => decide (a ≠ p), ρ.t⟩
theorem at_show {p a : Addr} {u : HO} (e : p ∈ ρ.h) (h : H a = some u ∧ a ∉ ρ.all) : del H p a = some u ∧ a ∉ (ρ.shw p).all := by
  have n1 : a ∉ ρ.l ∧ a ∉ ρ.h := by simpa [Rho.all] using h.2
  have ne : a ≠ p := fun z => n1.2 (by rw [z]; exact e)
  refine ⟨by rw [del_ne ne]; exact h.1, fun z => ?_⟩
  rcases List.mem_append.mp (show a ∈ ρ.l ++ ρ.h.filter fun a => decide (a ≠ p) from z) with z | z
  · exact n1.1 z
  · exact n1.2 (List.mem_filter.mp z).1
mutual
theorem RD.shw {p : Addr} (eh : p ∈ ρ.h) : ∀ {d : D} {v : V}, RD K ρ H d v → RD K (ρ.shw p) (del H p) d v
  | .non, _, h => h
  | .bl _, _, h => h
  | .int _, _, h => h
  | .str _, _, h => h
  | .tup ds, v, h => by
    unfold RD at h ⊢
    obtain ⟨a, vs, e, h1, h2⟩ := h
    exact ⟨a, vs, e, at_show eh h1, RDs.shw eh h2⟩
  | .lst ds, v, h => by
    unfold RD at h ⊢
    obtain ⟨a, vs, e, h1, h2⟩ := h
    exact ⟨a, vs, e, at_show eh h1, RDs.shw eh h2⟩
  | .ref n, v, h => by
    unfold RD at h ⊢
    exact h
  | .scr ns, v, h => by
    unfold RD at h ⊢
    obtain ⟨a, e, h1⟩ := h
    exact ⟨a, e, h1.imp (fun ⟨o, h1⟩ => ⟨o, at_show eh h1⟩) id⟩
theorem RDs.shw {p : Addr} (eh : p ∈ ρ.h) : ∀ {ds : List D} {vs : List V}, RDs K ρ H ds vs → RDs K (ρ.shw p) (del H p) ds vs
  | [], _, h => h
  | d :: ds, vs, h => by
    unfold RDs at h ⊢
    obtain ⟨v, r, e, h1, h2⟩ := h
    exact ⟨v, r, e, RD.shw eh h1, RDs.shw eh h2⟩
end
theorem ROb.map {K : PySem.W.Frag} {ρ ρ' : Rho} {H H' : Hp} (f : ∀ d v, RD K ρ H d v → RD K ρ' H' d v) (fs : ∀ ds vs, RDs K ρ H ds vs → RDs K ρ' H' ds vs) {o : Ob} {h : HO} (r : ROb K ρ H o h) : ROb K ρ' H' o h := by
  cases o with
  | lst ds => obtain ⟨vs, e, r⟩ := r; exact ⟨vs, e, fs _ _ r⟩
  | dic t kvs =>
    cases t with
    | false => obtain ⟨es, e, r⟩ := r; exact ⟨es, e, Paired.mapP r fun _ _ z => ⟨z.1, f _ _ z.2⟩⟩
    | true => obtain ⟨es, e, r⟩ := r; exact ⟨es, e, Paired.mapP r fun _ _ z => ⟨z.1, f _ _ z.2⟩⟩
theorem RelS.hide {S : Store} {p : Addr} {o : HO} (r : RelS K ρ S H) (np : H p = none) (nt : NTab o) : RelS K (ρ.hide p) S (upd H p o) := by
  refine ⟨r.len, r.nd, tabs_but r.tab (.inl np) fun b hb => upd_ne hb, r.told, fun a ha => ?_, fun n a u h1 h2 => ?_⟩
  · rcases List.mem_cons.mp (show a ∈ p :: ρ.h from ha) with rfl | ha
    · exact ⟨fun z => nl_of (r.fresh np) z, o, upd_same, nt⟩
    · obtain ⟨n, u, e, q⟩ := r.hid a ha
      exact ⟨n, u, by rw [upd_ne (ne_of_none e np)]; exact e, q⟩
  · obtain ⟨w, e, z⟩ := r.ob n a u h1 h2
    exact ⟨w, by rw [upd_ne (ne_of_none e np)]; exact e, z.grow (grow_hide np)⟩
theorem RelS.shw {S : Store} {p : Addr} (r : RelS K ρ S H) (eh : p ∈ ρ.h) : RelS K (ρ.shw p) S (del H p) := by
  have pl := (r.hid p eh).1
  refine ⟨r.len, r.nd, tabs_but r.tab (.inr (r.hid p eh).2) fun b hb => del_ne hb, r.told, fun a ha => ?_, fun n a u h1 h2 => ?_⟩
  · have ha := List.mem_filter.mp (show a ∈ ρ.h.filter fun a => decide (a ≠ p) from ha)
    obtain ⟨n, u, e, q⟩ := r.hid a ha.1
    exact ⟨n, u, by rw [del_ne (of_decide_eq_true ha.2)]; exact e, q⟩
  · obtain ⟨w, e, z⟩ := r.ob n a u h1 h2
    have ne : a ≠ p := fun z => pl (by rw [← z]; exact List.mem_of_getElem? h1)
    exact ⟨w, by rw [del_ne ne]; exact e, z.map (fun _ _ q => q.shw eh) fun _ _ q => q.shw eh⟩
/-- from a hidden object back to the state without it -/
theorem Grow.shw {p : Addr} {o : HO} (np : H p = none) (nh : p ∉ ρ.h) (g : Grow (ρ.hide p) (upd H p o) ρ' H') : Grow ρ H (ρ.shw p) (del (upd H p o) p) ∧ Grow ρ H (ρ'.shw p) (del H' p) ∧ p ∈ ρ'.h := by
  have g2 : Grow ρ H ρ' H' := (grow_hide np).trans g
  have key : ∀ {ρ1 : Rho} {H1 : Hp}, Grow ρ H ρ1 H1 → Grow ρ H (ρ1.shw p) (del H1 p) := by
    intro ρ1 H1 g
    refine ⟨g.pre, ?_, g.tb, fun a u h n q => ?_, fun a u h q => ?_⟩
    · obtain ⟨xs, e, hx⟩ := g.hid
      refine ⟨xs.filter fun a => decide (a ≠ p), ?_, fun a ha => hx a (List.mem_filter.mp ha).1⟩
      show ρ1.h.filter (fun a => decide (a ≠ p)) = _
      rw [e, List.filter_append]
      congr 1
      rw [List.filter_eq_self]
      intro a ha
      exact decide_eq_true fun z => nh (by rw [← z]; exact ha)
    · rw [del_ne (ne_of_none h np)]; exact g.fr a u h n q
    · rw [del_ne (ne_of_none h np)]; exact g.dom a u h q
  refine ⟨key (grow_upd np), key g2, ?_⟩
  obtain ⟨xs, e, _⟩ := g.hid
  rw [e]
  exact List.mem_append_right _ List.mem_cons_self
end
end Mir
end

section
set_option Elab.async false
set_option linter.all false
set_option maxRecDepth 100000
/-! Mir1: outcomes against HandS's wishes; operations by values. -/
namespace Mir
open PySem PySem.Spec L2
open PyProof.Rows (b2i)

/-- sizes that every state bears -/
structure Siz (H : Hp) : Prop where
  lst : ∀ a xs, H a = some (.lst xs) → xs.length ≤ 16777216
  tup : ∀ a xs, H a = some (.tup xs) → xs.length ≤ 16777216
  dK : ∀ a xs, H a = some (.dK xs) → xs.length ≤ 16777216
  dT : ∀ a xs, H a = some (.dT xs) → xs.length ≤ 16777216
theorem siz_of {P : Program} {w : World} {H : Hp} {h : Heap} (ok : HOk P w H h) : Siz H := by
  have e := sizeLine_eq
  refine ⟨fun a xs q => ?_, fun a xs q => ?_, fun a xs q => ?_, fun a xs q => ?_⟩
  all_goals
    have z := ok a _ q
    have z' := z.1
    omega

/-- what an outcome promises -/
def OKo {α β : Type} (K : PySem.W.Frag) (cl : Nat → Addr) (E : XK) (ρ : Rho) (H : Hp) (R : Rho → Hp → α → β → Prop) (Q : β → Hp → Prop) : Out α → Prop
  | .ok a S' => ∀ ρ' H' v, Grow ρ H ρ' H' → RelS K ρ' S' H' → R ρ' H' a v → Siz H' → Q v H'
  | .ex c S' => ∀ ρ' H', Grow ρ H ρ' H' → RelS K ρ' S' H' → E (.ref (cl c)) none H'
  | .bad => False
def Out.bind {α β : Type} (o : Out α) (f : α → Store → Out β) : Out β :=
  match o with
  | .ok a S => f a S
  | .ex c S => .ex c S
  | .bad => .bad
section
variable {α β γ δ : Type} {K : PySem.W.Frag} {cl : Nat → Addr} {E : XK} {ρ ρ' : Rho} {H H' : Hp} {R : Rho → Hp → α → β → Prop} {Q Q' : β → Hp → Prop}
theorem OKo.mono {o : Out α} (h : OKo K cl E ρ H R Q o) (q : ∀ v H1, Siz H1 → Q v H1 → Q' v H1) : OKo K cl E ρ H R Q' o := by
  cases o with
  | ok a S => exact fun ρ' H' v g rs r z => q v H' z (h ρ' H' v g rs r z)
  | ex c S => exact h
  | bad => exact h
theorem OKo.grow {o : Out α} (g : Grow ρ H ρ' H') (h : OKo K cl E ρ H R Q o) : OKo K cl E ρ' H' R Q o := by
  cases o with
  | ok a S => exact fun ρ1 H1 v g' rs r z => h ρ1 H1 v (g.trans g') rs r z
  | ex c S => exact fun ρ1 H1 g' rs => h ρ1 H1 (g.trans g') rs
  | bad => exact h
theorem OKo.bind {o : Out α} {f : α → Store → Out γ} {R2 : Rho → Hp → γ → δ → Prop} {Q2 : δ → Hp → Prop} (h : OKo K cl E ρ H R2 Q2 (o.bind f)) :
    OKo K cl E ρ H R (fun v H1 => ∃ ρ1 S1 a, Grow ρ H ρ1 H1 ∧ RelS K ρ1 S1 H1 ∧ R ρ1 H1 a v ∧ OKo K cl E ρ1 H1 R2 Q2 (f a S1)) o := by
  cases o with
  | ok a S => exact fun ρ' H' v g rs r _ => ⟨ρ', S, a, g, rs, r, OKo.grow g h⟩
  | ex c S => exact h
  | bad => exact h
end

/-- the readings made of outcomes -/
def lE (K : PySem.W.Frag) (cl : Nat → Addr) (E : XK) (m : Env → Store → Out D) : TE := fun σ H Q => ∃ ρ env S, RelS K ρ S H ∧ RelE K ρ H env σ ∧ OKo K cl E ρ H (RD K) Q (m env S)
def lA (K : PySem.W.Frag) (cl : Nat → Addr) (E : XK) (m : Env → Store → Out (List D)) : TA := fun σ H Q => ∃ ρ env S, RelS K ρ S H ∧ RelE K ρ H env σ ∧ OKo K cl E ρ H (RDs K) Q (m env S)
def RB : Rho → Hp → Bool → Bool → Prop := fun _ _ a b => a = b
def lT (K : PySem.W.Frag) (cl : Nat → Addr) (E : XK) (m : Env → Store → Out Bool) : TT := fun σ H Q => ∃ ρ env S, RelS K ρ S H ∧ RelE K ρ H env σ ∧ OKo K cl E ρ H RB Q (m env S)

section
variable {X : Cx} {e : Expr} {es : List Expr}
theorem PE.via {t t' : TE} (h : PE X e t) (i : ∀ σ H Q, Siz H → t' σ H Q → t σ H (fun v H' => Siz H' → Q v H')) : PE X e t' :=
  ⟨fun pins s σ H Q I q => thn (h.run pins s σ H _ I (i σ H Q (siz_of I.hok) q)) fun v s' ⟨x, H', I', r, q'⟩ => ⟨x, H', I', r, q' (siz_of I'.hok)⟩⟩
theorem PT.via {t t' : TT} (h : PT X e t) (i : ∀ σ H Q, Siz H → t' σ H Q → t σ H (fun v H' => Siz H' → Q v H')) : PT X e t' :=
  ⟨fun pins s σ H Q I q => thn (h.run pins s σ H _ I (i σ H Q (siz_of I.hok) q)) fun v s' ⟨H', I', q'⟩ => ⟨H', I', q' (siz_of I'.hok)⟩⟩
theorem PA.via {t t' : TA} (h : PA X es t) (i : ∀ σ H Q, Siz H → t' σ H Q → t σ H (fun v H' => Siz H' → Q v H')) : PA X es t' :=
  ⟨fun pos pins s σ H Q I q => thn (h.run pos pins s σ H _ I (i σ H Q (siz_of I.hok) q)) fun v s' ⟨x, H', I', r, q'⟩ => ⟨x, H', I', r, q' (siz_of I'.hok)⟩⟩
end

/-! ### lists and sequences among values -/
def listOf (S : Store) : D → Option (List D)
  | .lst xs => some xs
  | .ref n => match S[n]? with
    | some (.lst xs) => some xs
    | _ => none
  | _ => none
def seqOf (S : Store) : D → Option (List D)
  | .tup xs => some xs
  | d => listOf S d
def mkL (mt : Bool) (ds : List D) (S : Store) : Out D := if mt then .ok (.ref S.length) (S ++ [.lst ds]) else .ok (.lst ds) S
section
variable {K : PySem.W.Frag} {cl : Nat → Addr} {E : XK} {ρ : Rho} {H : Hp} {S : Store} {Q : VK}
theorem list_at (rs : RelS K ρ S H) {d : D} {xs : List D} {v : V} (e : listOf S d = some xs) (r : RD K ρ H d v) : ∃ a vs, v = .ref a ∧ H a = some (.lst vs) ∧ RDs K ρ H xs vs := by
  cases d with
  | lst ys =>
    cases (show some ys = some xs from e)
    unfold RD at r
    obtain ⟨a, vs, e1, h, q⟩ := r
    exact ⟨a, vs, e1, h.1, q⟩
  | ref n =>
    unfold RD at r
    obtain ⟨a, e1, h⟩ := r
    simp only [listOf] at e
    split at e
    · rename_i ys hs
      cases e
      obtain ⟨o, h1, vs, h2, q⟩ := rs.ob n a _ h hs
      subst h2
      exact ⟨a, vs, e1, h1, q⟩
    · cases e
  | _ => cases e
theorem seq_at (rs : RelS K ρ S H) {d : D} {xs : List D} {v : V} (e : seqOf S d = some xs) (r : RD K ρ H d v) : ∃ a vs, v = .ref a ∧ (SqL K H a vs ∨ SqT K H a vs) ∧ RDs K ρ H xs vs := by
  cases d with
  | tup ys =>
    cases (show some ys = some xs from e)
    obtain ⟨a, vs, e1, h, q⟩ := r.tupT
    exact ⟨a, vs, e1, .inr h, q⟩
  | lst ys =>
    obtain ⟨a, vs, e1, h, q⟩ := list_at rs (d := .lst ys) e r
    exact ⟨a, vs, e1, .inl (SqL.of h), q⟩
  | ref n =>
    obtain ⟨a, vs, e1, h, q⟩ := list_at rs (d := .ref n) e r
    exact ⟨a, vs, e1, .inl (SqL.of h), q⟩
  | _ => cases e
theorem mkL_ok {mt : Bool} {ds : List D} {vs : List V} {R : V → Hp → Prop} (rs : RelS K ρ S H) (q : RDs K ρ H ds vs) (h : OKo K cl E ρ H (RD K) R (mkL mt ds S)) : ∀ p, H p = none → Siz (upd H p (.lst vs)) → R (.ref p) (upd H p (.lst vs)) := by
  intro p np z
  cases mt with
  | false => exact h ρ _ _ (grow_upd np) (rs.out np) (RD.newLst rs np q) z
  | true => exact h (ρ.push p) _ _ (grow_new np) (rs.push np ⟨vs, rfl, q⟩) (RD.newRef rs) z
theorem tup_ok {ds : List D} {vs : List V} {R : V → Hp → Prop} (rs : RelS K ρ S H) (q : RDs K ρ H ds vs) (h : OKo K cl E ρ H (RD K) R (.ok (.tup ds) S)) : ∀ p, H p = none → Siz (upd H p (.tup vs)) → R (.ref p) (upd H p (.tup vs)) :=
  fun p np z => h ρ _ _ (grow_upd np) (rs.out np) (RD.newTup rs np q) z
end

/-! ### an operation by values -/
abbrev V2 := D → D → Store → Out D
abbrev V1 := D → Store → Out D
/-- x, y stand for a, b: the operation's wish -/
def w2 (K : PySem.W.Frag) (cl : Nat → Addr) (E : XK) (f : V2) : R2 := fun x y H Q => ∃ ρ S a b, RelS K ρ S H ∧ RD K ρ H a x ∧ RD K ρ H b y ∧ OKo K cl E ρ H (RD K) Q (f a b S)
def w1 (K : PySem.W.Frag) (cl : Nat → Addr) (E : XK) (f : V1) : V → Hp → VK → Prop := fun x H Q => ∃ ρ S a, RelS K ρ S H ∧ RD K ρ H a x ∧ OKo K cl E ρ H (RD K) Q (f a S)
section
variable {X : Cx} {cl : Nat → Addr} {E : XK}
theorem OpR.siz {f : Value → Value → Sem Value} {r r' : R2} (h : OpR X f r) (i : ∀ x y H Q, Siz H → r' x y H Q → r x y H (fun v H' => Siz H' → Q v H')) : OpR X f r' :=
  fun pins s σ H x y v u Q I rx ry q => thn (h pins s σ H x y v u _ I rx ry (i x y H Q (siz_of I.hok) q)) fun v s' ⟨x, H', I', r, q'⟩ => ⟨x, H', I', r, q' (siz_of I'.hok)⟩
theorem UnR.siz {f : Value → Sem Value} {r r' : V → Hp → VK → Prop} (h : UnR X f r) (i : ∀ x H Q, Siz H → r' x H Q → r x H (fun v H' => Siz H' → Q v H')) : UnR X f r' :=
  fun pins s σ H x v Q I rx q => thn (h pins s σ H x v _ I rx (i x H Q (siz_of I.hok) q)) fun v s' ⟨x, H', I', r, q'⟩ => ⟨x, H', I', r, q' (siz_of I'.hok)⟩
theorem CallR.siz {f : Value} {r r' : List V → Hp → VK → Prop} (h : CallR X f r) (i : ∀ xs H Q, Siz H → r' xs H Q → r xs H (fun v H' => Siz H' → Q v H')) : CallR X f r' :=
  fun pins s σ H xs us Q I rx q => thn (h pins s σ H xs us _ I rx (i xs H Q (siz_of I.hok) q)) fun v s' ⟨x, H', I', r, q'⟩ => ⟨x, H', I', r, q' (siz_of I'.hok)⟩
/-- a rule out of several -/
theorem OpR.cases {f : Value → Value → Sem Value} {r : R2} (h : ∀ x y H Q, Siz H → r x y H Q → ∃ r1 : R2, OpR X f r1 ∧ r1 x y H (fun v H' => Siz H' → Q v H')) : OpR X f r := by
  intro pins s σ H x y v u Q I rx ry q
  obtain ⟨r1, h1, q1⟩ := h x y H Q (siz_of I.hok) q
  exact thn (h1 pins s σ H x y v u _ I rx ry q1) fun v s' ⟨x, H', I', r, q'⟩ => ⟨x, H', I', r, q' (siz_of I'.hok)⟩
theorem CallR.cases {f : Value} {r : List V → Hp → VK → Prop} (h : ∀ xs H Q, Siz H → r xs H Q → ∃ r1, CallR X f r1 ∧ r1 xs H (fun v H' => Siz H' → Q v H')) : CallR X f r := by
  intro pins s σ H xs us Q I rx q
  obtain ⟨r1, h1, q1⟩ := h xs H Q (siz_of I.hok) q
  exact thn (h1 pins s σ H xs us _ I rx q1) fun v s' ⟨x, H', I', r, q'⟩ => ⟨x, H', I', r, q' (siz_of I'.hok)⟩
/-- an outcome that is a plain value -/
theorem ok_val {K : PySem.W.Frag} {ρ : Rho} {H : Hp} {S : Store} {Q : VK} {d : D} {v : V} (rs : RelS K ρ S H) (h : OKo K cl E ρ H (RD K) Q (.ok d S)) (r : RD K ρ H d v) : Siz H → Q v H := fun z => h ρ H v Grow.refl rs r z

/-! ### + -/
def vAdd (mt : Bool) : V2
  | .int i, .int j, S => .ok (.int (i + j)) S
  | .int i, .bl k, S => .ok (.int (i + b2i k)) S
  | .str i, .str j, S => if i.length + j.length ≤ 16777216 then .ok (.str (i ++ j)) S else .bad
  | .tup xs, .tup ys, S => if xs.length + ys.length ≤ 16777216 then .ok (.tup (xs ++ ys)) S else .bad
  | a, b, S => match listOf S a, listOf S b with
    | some xs, some ys => if xs.length + ys.length ≤ 16777216 then mkL mt (xs ++ ys) S else .bad
    | _, _ => .bad
theorem or_add {mt : Bool} : OpR X (binaryOp .Add) (w2 X.K cl E (vAdd mt)) := by
  have hsl := sizeLine_eq
  refine OpR.cases fun x y H Q z h => ?_
  obtain ⟨ρ, S, a, b, rs, ra, rb, h⟩ := h
  unfold vAdd at h
  split at h
  · cases ra.ofInt; cases rb.ofInt
    exact ⟨_, op_add, _, _, rfl, rfl, ok_val rs h RD.int⟩
  · cases ra.ofInt; cases rb.ofBl
    exact ⟨_, op_add_ib, _, _, rfl, rfl, ok_val rs h RD.int⟩
  · split at h
    · cases ra.ofStr; cases rb.ofStr
      exact ⟨_, op_add_str, _, _, rfl, rfl, by omega, ok_val rs h RD.str⟩
    · exact h.elim
  · split at h
    · rename_i hz
      obtain ⟨a, vs, rfl, hs, qs⟩ := ra.tupT
      obtain ⟨b, us, rfl, ht, qt⟩ := rb.tupT
      rename_i xs ys
      have l1 := qs.length
      have l2 := qt.length
      refine ⟨_, op_catA, a, b, vs, us, rfl, rfl, hs, ht, by omega, fun e => ?_, fun _ e => ?_, fun _ _ p np => ?_⟩
      · subst e
        have : xs = [] := List.eq_nil_of_length_eq_zero (by simpa using l1)
        subst this
        exact ok_val rs h rb
      · subst e
        have : ys = [] := List.eq_nil_of_length_eq_zero (by simpa using l2)
        subst this
        rw [List.append_nil] at h
        exact ok_val rs h ra
      · exact tup_ok rs (qs.append qt) h p np
    · exact h.elim
  · split at h
    · rename_i xs ys h1 h2
      split at h
      · obtain ⟨a, vs, rfl, hs, qs⟩ := list_at rs h1 ra
        obtain ⟨b, us, rfl, ht, qt⟩ := list_at rs h2 rb
        have l1 := qs.length
        have l2 := qt.length
        exact ⟨_, op_cat, a, b, vs, us, rfl, rfl, hs, ht, by omega, mkL_ok rs (qs.append qt) h⟩
      · exact h.elim
    · exact h.elim

/-! ### - * // % ** << >> & | ^ -/
def vInt (f : Int → Int → Int) : V2
  | .int i, .int j, S => .ok (.int (f i j)) S
  | _, _, _ => .bad
def vIntIf (c : Int → Int → Bool) (f : Int → Int → Int) : V2
  | .int i, .int j, S => if c i j then .ok (.int (f i j)) S else .bad
  | _, _, _ => .bad
theorem or_int {f : Int → Int → Int} {g : Value → Value → Sem Value} (h : OpR X g (rI0 fun i j => .int (f i j))) : OpR X g (w2 X.K cl E (vInt f)) := by
  refine OpR.siz h fun x y H Q z q => ?_
  obtain ⟨ρ, S, a, b, rs, ra, rb, q⟩ := q
  unfold vInt at q
  split at q
  · cases ra.ofInt; cases rb.ofInt
    exact ⟨_, _, rfl, rfl, ok_val rs q RD.int⟩
  · exact q.elim
theorem or_intIf {c : Int → Int → Bool} {C : Int → Int → Prop} (hc : ∀ i j, c i j = true → C i j) {f : Int → Int → Int} {g : Value → Value → Sem Value} (h : OpR X g (rI C fun i j => .int (f i j))) : OpR X g (w2 X.K cl E (vIntIf c f)) := by
  refine OpR.siz h fun x y H Q z q => ?_
  obtain ⟨ρ, S, a, b, rs, ra, rb, q⟩ := q
  unfold vIntIf at q
  split at q
  · split at q
    · cases ra.ofInt; cases rb.ofInt
      exact ⟨_, _, rfl, rfl, hc _ _ (by assumption), ok_val rs q RD.int⟩
    · exact q.elim
  · exact q.elim
def mulOk (i j : Int) : Bool := Nat.ble (i.natAbs.log2 + j.natAbs.log2) 100000000
def divOk (_ j : Int) : Bool := match j with
  | .ofNat n => Nat.ble 1 n && Nat.ble n.log2 8000
  | .negSucc _ => false
def modOk (_ j : Int) : Bool := match j with
  | .ofNat n => Nat.ble 1 n
  | .negSucc _ => false
def powOk (i j : Int) : Bool := Nat.ble i.natAbs.log2 62 && match j with
  | .ofNat n => Nat.ble n 1000000
  | .negSucc _ => false
def shrOk (_ j : Int) : Bool := match j with
  | .ofNat _ => true
  | .negSucc _ => false
theorem mulOk_ok (i j : Int) (h : mulOk i j = true) : PySem.IntMulOk i j := by
  have h := Nat.le_of_ble_eq_true h
  have len : ∀ x : Int, Builtin.Int.intBits x ≤ x.natAbs.log2 + 1 := by
    intro x
    unfold Builtin.Int.intBits
    split
    · omega
    · omega
  have l1 := len i
  have l2 := len j
  have line : bitsLine = 134217728 := by decide
  intro z
  have big := (Bool.and_eq_true_iff.mp z).2
  unfold Builtin.Int.intTooBig at big
  have big := of_decide_eq_true big
  omega
theorem modOk_ok (i j : Int) (h : modOk i j = true) : 0 < j := by
  unfold modOk at h
  split at h
  · rename_i n
    have h := Nat.le_of_ble_eq_true h
    show (0 : Int) < (n : Int)
    omega
  · cases h
theorem divOk_ok (i j : Int) (h : divOk i j = true) : CDivW i j := by
  unfold divOk at h
  split at h
  · rename_i n
    rw [Bool.and_eq_true] at h
    have h1 := Nat.le_of_ble_eq_true h.1
    have h2 := Nat.le_of_ble_eq_true h.2
    refine ⟨?_, ?_⟩
    · show (0 : Int) < (n : Int)
      omega
    · show (n : Int).natAbs.log2 < 9000
      rw [Int.natAbs_natCast]
      omega
  · cases h
theorem powOk_ok (i j : Int) (h : powOk i j = true) : CPow i j := by
  unfold powOk at h
  rw [Bool.and_eq_true] at h
  obtain ⟨h1, h2⟩ := h
  have h1 := Nat.le_of_ble_eq_true h1
  split at h2
  · rename_i n
    have h2 := Nat.le_of_ble_eq_true h2
    refine ⟨Int.natCast_nonneg n, ?_, ?_⟩
    · show (n : Int) ≤ 1000000
      omega
    · by_cases h0 : i.natAbs = 0
      · rw [h0]; decide
      · exact Nat.lt_of_lt_of_le ((Nat.log2_lt h0).mp (Nat.lt_succ_of_le h1)) (Nat.pow_le_pow_right (by decide) (by omega))
  · cases h2
theorem shrOk_ok (i j : Int) (h : shrOk i j = true) : 0 ≤ j := by
  unfold shrOk at h
  split at h
  · exact Int.natCast_nonneg _
  · cases h
def vSub : V2 := vInt fun i j => i - j
def vDiv : V2 := vIntIf divOk fun i j => i / j
def vMod : V2 := vIntIf modOk fun i j => i % j
def vPow : V2 := vIntIf powOk fun i j => i ^ j.toNat
def vShl : V2 := vIntIf powOk fun i j => i * 2 ^ j.toNat
def vShr : V2 := vIntIf shrOk fun i j => i / 2 ^ j.toNat
def vAnd : V2 := vInt Builtin.bitAnd
def vOr : V2 := vInt Builtin.bitOr
def vXor : V2 := vInt Builtin.bitXor
def vMul (mt : Bool) : V2
  | .int i, .int j, S => if mulOk i j then .ok (.int (i * j)) S else .bad
  | .tup xs, .int k, S => if decide (xs ≠ []) && (decide (2 ≤ k) && decide (k ≤ 1000) && Nat.ble xs.length 1000) then .ok (.tup (List.replicate k.toNat xs).flatten) S else .bad
  | a, .int k, S => match listOf S a with
    | some xs => if decide (k ≤ 16777216) && Nat.ble (xs.length * k.toNat) 16777216 && decide (-(16777216) ≤ k) then mkL mt (List.replicate k.toNat xs).flatten S else .bad
    | none => .bad
  | _, _, _ => .bad
end
end Mir
end

section
set_option Elab.async false
set_option linter.all false
set_option maxRecDepth 100000
/-! Mir2: comparisons, truth, subscripts by values. -/
namespace Mir
open PySem PySem.Spec L2
open PyProof.Rows (b2i)

/-! ### data within, read as the library's own -/
def okD : Nat → D → Bool
  | 0, _ => false
  | n + 1, d => match d with
    | .tup xs => xs.all (okD n)
    | .lst xs => xs.all (okD n)
    | .str x => PyData.strOk x
    | .ref _ => false
    | .scr _ => false
    | _ => true
def eqL (f : D → D → Bool) : List D → List D → Bool
  | [], [] => true
  | x :: xs, y :: ys => f x y && eqL f xs ys
  | _, _ => false
def eqF : Nat → D → D → Bool
  | 0, _, _ => false
  | n + 1, a, b => match a, b with
    | .non, .non => true
    | .bl a, .bl b => a == b
    | .bl a, .int j => (if a then 1 else 0) == j
    | .int i, .bl b => i == (if b then 1 else 0)
    | .int i, .int j => i == j
    | .str x, .str y => x == y
    | .tup xs, .tup ys => eqL (eqF n) xs ys
    | .lst xs, .lst ys => eqL (eqF n) xs ys
    | _, _ => false
mutual
def py : D → PyData
  | .non => .none
  | .bl b => .bool b
  | .int i => .int i
  | .str x => .str x
  | .tup xs => .tuple (pys xs)
  | .lst xs => .list (pys xs)
  | .ref _ => .none
  | .scr _ => .none
def pys : List D → List PyData
  | [] => []
  | x :: xs => py x :: pys xs
end
theorem okL {n : Nat} : ∀ {xs : List D}, xs.all (okD n) = true → PyData.canLayAll0 (pys xs) = true ∧ PyData.depthAll (pys xs) ≤ n → PyData.canLayAll0 (pys xs) = true ∧ PyData.depthAll (pys xs) ≤ n := fun _ h => h
theorem ok_py : ∀ (n : Nat) (d : D), okD n d = true → PyData.canLay0 (py d) = true ∧ PyData.depth (py d) ≤ n
  | 0, d, h => by cases h
  | n + 1, d, h => by
    have L : ∀ xs : List D, xs.all (okD n) = true → PyData.canLayAll0 (pys xs) = true ∧ PyData.depthAll (pys xs) ≤ n := by
      intro xs
      induction xs with
      | nil => intro _; exact ⟨by simp [pys, PyData.canLayAll0], by simp [pys, PyData.depthAll]⟩
      | cons x xs ih =>
        intro h
        rw [List.all_cons, Bool.and_eq_true] at h
        obtain ⟨a1, a2⟩ := ok_py n x h.1
        obtain ⟨b1, b2⟩ := ih h.2
        refine ⟨by simp [pys, PyData.canLayAll0, a1, b1], ?_⟩
        simp only [pys, PyData.depthAll]
        omega
    cases d with
    | tup xs =>
      obtain ⟨h1, h2⟩ := L xs h
      exact ⟨by simpa [py, PyData.canLay0] using h1, by simp only [py, PyData.depth]; omega⟩
    | lst xs =>
      obtain ⟨h1, h2⟩ := L xs h
      exact ⟨by simpa [py, PyData.canLay0] using h1, by simp only [py, PyData.depth]; omega⟩
    | str x => exact ⟨by simpa [py, PyData.canLay0] using (show PyData.strOk x = true from h), by simp [py, PyData.depth]⟩
    | non => exact ⟨by simp [py, PyData.canLay0], by simp [py, PyData.depth]⟩
    | bl b => exact ⟨by simp [py, PyData.canLay0], by simp [py, PyData.depth]⟩
    | int i => exact ⟨by simp [py, PyData.canLay0], by simp [py, PyData.depth]⟩
    | ref n => cases h
    | scr n => cases h
theorem eq_py : ∀ (n : Nat) (a b : D), okD n a = true → okD n b = true → PyData.eqv (py a) (py b) = eqF n a b
  | 0, a, b, h, _ => by cases h
  | n + 1, a, b, ha, hb => by
    have L : ∀ xs ys : List D, xs.all (okD n) = true → ys.all (okD n) = true → PyData.eqvAll (pys xs) (pys ys) = eqL (eqF n) xs ys := by
      intro xs
      induction xs with
      | nil => intro ys _ _; cases ys <;> simp [pys, PyData.eqvAll, eqL]
      | cons x xs ih =>
        intro ys h1 h2
        cases ys with
        | nil => simp [pys, PyData.eqvAll, eqL]
        | cons y ys =>
          rw [List.all_cons, Bool.and_eq_true] at h1 h2
          simp only [pys, PyData.eqvAll, eqL, eq_py n x y h1.1 h2.1, ih ys h1.2 h2.2]
    cases a with
    | tup xs =>
      cases b with
      | tup ys => simpa only [py, PyData.eqv, eqF] using L xs ys ha hb
      | ref n => cases hb
      | scr n => cases hb
      | _ => simp [py, PyData.eqv, eqF]
    | lst xs =>
      cases b with
      | lst ys => simpa only [py, PyData.eqv, eqF] using L xs ys ha hb
      | ref n => cases hb
      | scr n => cases hb
      | _ => simp [py, PyData.eqv, eqF]
    | ref n => cases ha
    | scr n => cases ha
    | _ =>
      cases b with
      | ref n => cases hb
      | scr n => cases hb
      | _ => simp [py, PyData.eqv, eqF]
section
variable {K : PySem.W.Frag} {ρ : Rho} {H : Hp}
theorem dp_of : ∀ (n : Nat) (d : D) (v : V), okD n d = true → RD K ρ H d v → Dp K H v (py d)
  | 0, d, v, h, _ => by cases h
  | n + 1, d, v, h, r => by
    have L : ∀ (xs : List D) (vs : List V), xs.all (okD n) = true → RDs K ρ H xs vs → DpAll K H vs (pys xs) := by
      intro xs
      induction xs with
      | nil => intro vs _ r; unfold RDs at r; subst r; exact DpAll.nil
      | cons x xs ih =>
        intro vs h r
        rw [List.all_cons, Bool.and_eq_true] at h
        unfold RDs at r
        obtain ⟨v, us, rfl, r1, r2⟩ := r
        exact DpAll.cons (dp_of n x v h.1 r1) (ih us h.2 r2)
    cases d with
    | tup xs =>
      obtain ⟨a, vs, rfl, hs, q⟩ := r.tupT
      exact Dp.tup hs (L xs vs h q)
    | lst xs =>
      obtain ⟨a, vs, rfl, hs, q⟩ := r.lstL
      exact Dp.lst hs (L xs vs h q)
    | str x => cases r.ofStr; exact Dp.str x
    | non => cases r.ofNon; exact Dp.non
    | bl b => cases r.ofBl; exact Dp.bl b
    | int i => cases r.ofInt; exact Dp.int i
    | ref n => cases h
    | scr n => cases h
theorem shaped_of {d : D} (h : okD 60 d = true) : SeqAt.shaped (py d) = true := by
  obtain ⟨h1, h2⟩ := ok_py 60 d h
  unfold SeqAt.shaped
  rw [h1, Bool.true_and]
  exact decide_eq_true (by omega)
end
/-- a mutable list as it stands -/
def flat1 (S : Store) : D → Option D
  | .ref n => match S[n]? with
    | some (.lst xs) => some (.lst xs)
    | _ => none
  | d => some d
theorem flat1_at {K : PySem.W.Frag} {ρ : Rho} {H : Hp} {S : Store} (rs : RelS K ρ S H) {d d' : D} {v : V} {n : Nat} (e : flat1 S d = some d') (ok : okD n d' = true) (r : RD K ρ H d v) : Dp K H v (py d') := by
  cases d with
  | ref k =>
    simp only [flat1] at e
    split at e
    · rename_i xs hs
      cases e
      obtain ⟨a, vs, rfl, h, q⟩ := list_at rs (d := .ref k) (xs := xs) (by simp only [listOf, hs]) r
      cases n with
      | zero => cases ok
      | succ n =>
        refine Dp.lst (SqL.of h) ?_
        have L : ∀ (xs : List D) (vs : List V), xs.all (okD n) = true → RDs K ρ H xs vs → DpAll K H vs (pys xs) := by
          intro xs
          induction xs with
          | nil => intro vs _ r; unfold RDs at r; subst r; exact DpAll.nil
          | cons x xs ih =>
            intro vs h r
            rw [List.all_cons, Bool.and_eq_true] at h
            unfold RDs at r
            obtain ⟨v, us, rfl, r1, r2⟩ := r
            exact DpAll.cons (dp_of n x v h.1 r1) (ih us h.2 r2)
        exact L xs vs ok q
    · cases e
  | _ => cases e; exact dp_of n _ _ ok r
def eqV (S : Store) (a b : D) : Option Bool := match flat1 S a, flat1 S b with
  | some x, some y => if okD 60 x && okD 60 y then some (eqF 60 x y) else none
  | _, _ => none
def vCmp (f : D → D → Store → Option Bool) : V2 := fun a b S => match f a b S with
  | some c => .ok (.bl c) S
  | none => .bad
def vEq : V2 := vCmp fun a b S => eqV S a b
def vNe : V2 := vCmp fun a b S => (eqV S a b).map (!·)
section
variable {X : Cx} {cl : Nat → Addr} {E : XK}
theorem eqV_at {K : PySem.W.Frag} {ρ : Rho} {H : Hp} {S : Store} (rs : RelS K ρ S H) {a b : D} {c : Bool} {x y : V} (e : eqV S a b = some c) (ra : RD K ρ H a x) (rb : RD K ρ H b y) :
    ∃ d e, Dp K H x d ∧ Dp K H y e ∧ SeqAt.shaped d = true ∧ SeqAt.shaped e = true ∧ PyData.eqv d e = c := by
  unfold eqV at e
  split at e
  · rename_i d f h1 h2
    split at e
    · rename_i ho
      cases e
      rw [Bool.and_eq_true] at ho
      exact ⟨py d, py f, flat1_at rs h1 ho.1 ra, flat1_at rs h2 ho.2 rb, shaped_of ho.1, shaped_of ho.2, eq_py 60 d f ho.1 ho.2⟩
    · cases e
  · cases e
theorem or_eq (hu : X.A.units + 64 < cLine) : OpR X (compareOp .Eq) (w2 X.K cl E vEq) := by
  refine OpR.siz (op_eqD hu) fun x y H Q z h => ?_
  obtain ⟨ρ, S, a, b, rs, ra, rb, h⟩ := h
  unfold vEq vCmp at h
  split at h
  · rename_i c hc
    obtain ⟨d, e, h1, h2, h3, h4, h5⟩ := eqV_at rs hc ra rb
    subst h5
    exact ⟨d, e, h1, h2, h3, h4, ok_val rs h RD.bl⟩
  · exact h.elim
theorem or_ne (hu : X.A.units + 64 < cLine) : OpR X (compareOp .NotEq) (w2 X.K cl E vNe) := by
  refine OpR.siz (op_neD hu) fun x y H Q z h => ?_
  obtain ⟨ρ, S, a, b, rs, ra, rb, h⟩ := h
  unfold vNe vCmp at h
  split at h
  · rename_i c hc
    have hc : (eqV S a b).map (!·) = some c := hc
    cases hq : eqV S a b with
    | none => rw [hq] at hc; cases hc
    | some k =>
      rw [hq] at hc
      cases hc
      obtain ⟨d, e, h1, h2, h3, h4, h5⟩ := eqV_at rs hq ra rb
      subst h5
      exact ⟨d, e, h1, h2, h3, h4, ok_val rs h RD.bl⟩
  · exact h.elim

/-! ### order of ints, of tuples of ints -/
def intOf : D → Option Int
  | .int i => some i
  | _ => none
def intsOf (ds : List D) : Option (List Int) := ds.mapM intOf
theorem intsOf_at {K : PySem.W.Frag} {ρ : Rho} {H : Hp} : ∀ {ds : List D} {ns : List Int} {vs : List V}, intsOf ds = some ns → RDs K ρ H ds vs → vs = ns.map V.int
  | [], ns, vs, e, r => by
    cases (show some [] = some ns from e)
    unfold RDs at r
    exact r
  | d :: ds, ns, vs, e, r => by
    unfold RDs at r
    obtain ⟨v, us, rfl, r1, r2⟩ := r
    unfold intsOf at e
    rw [List.mapM_cons] at e
    cases d with
    | int i =>
      cases h : List.mapM intOf ds with
      | none => rw [h] at e; cases e
      | some ms =>
        rw [h] at e
        cases (show some (i :: ms) = some ns from e)
        rw [r1.ofInt, intsOf_at (ds := ds) h r2]
        rfl
    | _ => cases e
def ordV (f : Int → Int → Bool) (g : List Int → List Int → Option Bool) : D → D → Store → Option Bool
  | .int i, .int j, _ => some (f i j)
  | .tup xs, .tup ys, _ => match intsOf xs, intsOf ys with
    | some a, some b => g a b
    | _, _ => none
  | _, _, _ => none
def vLt : V2 := vCmp (ordV (fun i j => decide (i < j)) fun a b => some (HT.lexLt a b))
def vLe : V2 := vCmp (ordV (fun i j => decide (i ≤ j)) fun _ _ => none)
def vGt : V2 := vCmp (ordV (fun i j => decide (j < i)) fun _ _ => none)
def vGe : V2 := vCmp (ordV (fun i j => decide (j ≤ i)) fun _ _ => none)
theorem or_ordI {f : Int → Int → Bool} {g : Value → Value → Sem Value} (h : OpR X g (rI0 fun i j => .bl (f i j))) : OpR X g (w2 X.K cl E (vCmp (ordV f fun _ _ => none))) := by
  refine OpR.siz h fun x y H Q z q => ?_
  obtain ⟨ρ, S, a, b, rs, ra, rb, q⟩ := q
  unfold vCmp at q
  split at q
  · rename_i c hc
    unfold ordV at hc
    split at hc
    · cases hc
      cases ra.ofInt; cases rb.ofInt
      exact ⟨_, _, rfl, rfl, ok_val rs q RD.bl⟩
    · split at hc <;> cases hc
    · cases hc
  · exact q.elim
theorem or_le : OpR X (compareOp .LtE) (w2 X.K cl E vLe) := or_ordI op_le
theorem or_gt : OpR X (compareOp .Gt) (w2 X.K cl E vGt) := or_ordI op_gt
theorem or_ge : OpR X (compareOp .GtE) (w2 X.K cl E vGe) := or_ordI op_ge
theorem or_lt (hu : X.A.units < cLine) : OpR X (compareOp .Lt) (w2 X.K cl E vLt) := by
  refine OpR.cases fun x y H Q z q => ?_
  obtain ⟨ρ, S, a, b, rs, ra, rb, q⟩ := q
  unfold vLt vCmp at q
  split at q
  · rename_i c hc
    unfold ordV at hc
    split at hc
    · cases hc
      cases ra.ofInt; cases rb.ofInt
      exact ⟨_, op_lt, _, _, rfl, rfl, ok_val rs q RD.bl⟩
    · split at hc
      · rename_i e1 e2
        cases hc
        obtain ⟨a, vs, rfl, h1, q1⟩ := ra.tupT
        obtain ⟨b, us, rfl, h2, q2⟩ := rb.tupT
        rw [intsOf_at e1 q1] at h1
        rw [intsOf_at e2 q2] at h2
        exact ⟨_, op_ltT hu, a, b, _, _, rfl, rfl, h1, h2, ok_val rs q RD.bl⟩
      · cases hc
    · cases hc
  · exact q.elim

/-! ### is -/
def isB : D → D → Option Bool
  | a, .non => some (match a with
    | .non => true
    | _ => false)
  | a, .bl b => some (match a with
    | .bl c => c == b
    | _ => false)
  | _, _ => none
def vIs : V2 := vCmp fun a b _ => isB a b
def vIsNot : V2 := vCmp fun a b _ => (isB a b).map (!·)
theorem isB_at {K : PySem.W.Frag} {ρ : Rho} {H : Hp} {a b : D} {c : Bool} {x y : V} {v u : Value} (e : isB a b = some c) (ra : RD K ρ H a x) (rb : RD K ρ H b y) (rx : RelV x v) (ry : RelV y u) : plainIs v u = true ∧ (v == u) = c := by
  have sh : ∀ {w : V}, RD K ρ H a w → w = .non ∧ a = .non ∨ (∃ k, w = .bl k ∧ a = .bl k) ∨ (a ≠ .non ∧ (∀ k, a ≠ .bl k) ∧ ((∃ i, w = .int i) ∨ (∃ i, w = .str i) ∨ ∃ i, w = .ref i)) := by
    intro w r
    cases a with
    | non => exact .inl ⟨r.ofNon, rfl⟩
    | bl k => exact .inr (.inl ⟨k, r.ofBl, rfl⟩)
    | int i => exact .inr (.inr ⟨fun z => (by cases z), fun k z => (by cases z), .inl ⟨i, r.ofInt⟩⟩)
    | str i => exact .inr (.inr ⟨fun z => (by cases z), fun k z => (by cases z), .inr (.inl ⟨i, r.ofStr⟩)⟩)
    | tup ds => obtain ⟨p, _, e, _⟩ := r.tupT; exact .inr (.inr ⟨fun z => (by cases z), fun k z => (by cases z), .inr (.inr ⟨p, e⟩)⟩)
    | lst ds => obtain ⟨p, _, e, _⟩ := r.lstL; exact .inr (.inr ⟨fun z => (by cases z), fun k z => (by cases z), .inr (.inr ⟨p, e⟩)⟩)
    | ref n => unfold RD at r; obtain ⟨p, e, _⟩ := r; exact .inr (.inr ⟨fun z => (by cases z), fun k z => (by cases z), .inr (.inr ⟨p, e⟩)⟩)
    | scr n => obtain ⟨p, e, _⟩ := r.ofScr; exact .inr (.inr ⟨fun z => (by cases z), fun k z => (by cases z), .inr (.inr ⟨p, e⟩)⟩)
  cases b with
  | non =>
    cases rb.ofNon
    cases (show u = Value.none from ry)
    rcases sh ra with ⟨rfl, rfl⟩ | ⟨k, rfl, rfl⟩ | ⟨n1, n2, ⟨i, rfl⟩ | ⟨i, rfl⟩ | ⟨i, rfl⟩⟩
    · cases (show v = Value.none from rx); cases e; exact ⟨rfl, rfl⟩
    · cases (show v = Value.bool k from rx); cases e; exact ⟨rfl, rfl⟩
    all_goals
      have e' : c = false := by
        cases a with
        | non => exact absurd rfl n1
        | _ => cases e; rfl
      subst e'
    · obtain ⟨t, rfl⟩ := rx; exact ⟨rfl, rfl⟩
    · obtain ⟨t, rfl⟩ := rx; exact ⟨rfl, rfl⟩
    · cases (show v = Value.ref i from rx); exact ⟨rfl, rfl⟩
  | bl b =>
    cases rb.ofBl
    cases (show u = Value.bool b from ry)
    rcases sh ra with ⟨rfl, rfl⟩ | ⟨k, rfl, rfl⟩ | ⟨n1, n2, ⟨i, rfl⟩ | ⟨i, rfl⟩ | ⟨i, rfl⟩⟩
    · cases (show v = Value.none from rx); cases e; exact ⟨rfl, rfl⟩
    · cases (show v = Value.bool k from rx); cases e
      refine ⟨rfl, ?_⟩
      cases k <;> cases b <;> rfl
    all_goals
      have e' : c = false := by
        cases a with
        | bl k => exact absurd rfl (n2 k)
        | _ => cases e; rfl
      subst e'
    · obtain ⟨t, rfl⟩ := rx; exact ⟨rfl, rfl⟩
    · obtain ⟨t, rfl⟩ := rx; exact ⟨rfl, rfl⟩
    · cases (show v = Value.ref i from rx); exact ⟨rfl, rfl⟩
  | _ => cases e
theorem or_is : OpR X (compareOp .Is) (w2 X.K cl E vIs) := by
  intro pins s σ H x y v u Q I rx ry q
  obtain ⟨ρ, S, a, b, rs, ra, rb, q⟩ := q
  unfold vIs vCmp at q
  split at q
  · rename_i c hc
    obtain ⟨h1, h2⟩ := isB_at hc ra rb rx ry
    exact wpAny_is_plain h1 ⟨.bl c, H, I, by rw [h2]; rfl, ok_val rs q RD.bl (siz_of I.hok)⟩
  · exact q.elim
theorem or_isNot : OpR X (compareOp .IsNot) (w2 X.K cl E vIsNot) := by
  intro pins s σ H x y v u Q I rx ry q
  obtain ⟨ρ, S, a, b, rs, ra, rb, q⟩ := q
  unfold vIsNot vCmp at q
  split at q
  · rename_i c hc
    have hc : (isB a b).map (!·) = some c := hc
    cases hq : isB a b with
    | none => rw [hq] at hc; cases hc
    | some k =>
      rw [hq] at hc
      cases hc
      obtain ⟨h1, h2⟩ := isB_at hq ra rb rx ry
      exact wpAny_isNot_plain h1 ⟨.bl (!k), H, I, by rw [h2]; rfl, ok_val rs q RD.bl (siz_of I.hok)⟩
  · exact q.elim

/-! ### in -/
def kEq {κ : Type} [DecidableEq κ] (kf : D → Option κ) (a b : D) : Bool := match kf a, kf b with
  | some k, some j => decide (k = j)
  | _, _ => false
def keyK (t : Bool) (a b : D) : Bool := match t with
  | false => kEq keyD a b
  | true => kEq keyT a b
def isKey : Bool → D → Bool
  | false, a => (keyD a).isSome
  | true, a => (keyT a).isSome
def dLook (t : Bool) (kvs : List (D × D)) (k : D) : Option D := (kvs.find? fun p => keyK t p.1 k).map (·.2)
def inB (S : Store) (a : D) : D → Option Bool
  | .ref n => match S[n]? with
    | some (.lst xs) => if okD 60 a && okD 60 (.lst xs) then some (xs.any fun z => eqF 60 z a) else none
    | some (.dic t kvs) => if isKey t a then some (dLook t kvs a).isSome else none
    | none => none
  | .lst xs => if okD 60 a && okD 60 (.lst xs) then some (xs.any fun z => eqF 60 z a) else none
  | .tup xs => if okD 60 a && okD 60 (.tup xs) then some (xs.any fun z => eqF 60 z a) else none
  | _ => none
def vIn : V2 := vCmp fun a b S => inB S a b
def vNotIn : V2 := vCmp fun a b S => (inB S a b).map (!·)
theorem okD_up : ∀ (n : Nat) (d : D), okD n d = true → okD (n + 1) d = true
  | 0, d, h => by cases h
  | n + 1, d, h => by
    cases d with
    | tup xs =>
      have h : xs.all (okD n) = true := h
      show xs.all (okD (n + 1)) = true
      rw [List.all_eq_true] at h ⊢
      exact fun x hx => okD_up n x (h x hx)
    | lst xs =>
      have h : xs.all (okD n) = true := h
      show xs.all (okD (n + 1)) = true
      rw [List.all_eq_true] at h ⊢
      exact fun x hx => okD_up n x (h x hx)
    | ref _ => cases h
    | scr _ => cases h
    | _ => exact h
theorem any_py {n : Nat} {a : D} (ha : okD n a = true) : ∀ {xs : List D}, xs.all (okD n) = true → ((pys xs).any fun z => PyData.eqv z (py a)) = xs.any fun z => eqF n z a
  | [], _ => rfl
  | x :: xs, h => by
    rw [List.all_cons, Bool.and_eq_true] at h
    simp only [pys, List.any_cons, eq_py n x a h.1 ha, any_py ha h.2]
end
end Mir
end

section
set_option Elab.async false
set_option linter.all false
set_option maxRecDepth 100000
/-! Mir3: in, truth, subscripts, stores, built-ins by values. -/
namespace Mir
open PySem PySem.Spec L2
open PyProof.Rows (b2i)
section
variable {K : PySem.W.Frag} {cl : Nat → Addr} {E : XK} {ρ : Rho} {H : Hp} {S : Store} {Q : VK} {X : Cx}

/-! ### keys -/
theorem keyD_at {d : D} {k : Key} {v : V} (e : keyD d = some k) (r : RD K ρ H d v) : v = kV k := by
  cases d with
  | int i => cases e; exact r.ofInt
  | str x => cases e; exact r.ofStr
  | _ => cases e
theorem keysD_at : ∀ {ds : List D} {ks : List Key} {vs : List V}, ds.mapM keyD = some ks → RDs K ρ H ds vs → vs = ks.map kV
  | [], ks, vs, e, r => by
    cases (show some [] = some ks from e)
    unfold RDs at r
    exact r
  | d :: ds, ks, vs, e, r => by
    unfold RDs at r
    obtain ⟨v, us, rfl, r1, r2⟩ := r
    rw [List.mapM_cons] at e
    cases h0 : keyD d with
    | none => rw [h0] at e; cases e
    | some k0 =>
      rw [h0] at e
      cases h : List.mapM keyD ds with
      | none => rw [h] at e; cases e
      | some ms =>
        rw [h] at e
        cases (show some (k0 :: ms) = some ks from e)
        rw [keyD_at h0 r1, keysD_at (ds := ds) h r2]
        rfl
theorem keyT_at {d : D} {ks : List Key} {v : V} (e : keyT d = some ks) (r : RD K ρ H d v) : ∃ p, v = .ref p ∧ H p = some (.tup (ks.map kV)) := by
  cases d with
  | tup ds =>
    unfold RD at r
    obtain ⟨a, vs, rfl, h, q⟩ := r
    rw [keysD_at (show ds.mapM keyD = some ks from e) q] at h
    exact ⟨a, rfl, h.1⟩
  | _ => cases e
section
variable {κ : Type} [DecidableEq κ] {kf : D → Option κ}
theorem look_at {kvs : List (D × D)} {es : List (κ × V)} (r : RKV K ρ H kf kvs es) {d : D} {k : κ} (hk : kf d = some k) :
    match (kvs.find? fun p => kEq kf p.1 d).map (·.2) with
    | some x => ∃ v, valV es k = some v ∧ RD K ρ H x v
    | none => valV es k = none := by
  induction r with
  | nil => rfl
  | @cons p q kvs es h t ih =>
    obtain ⟨h1, h2⟩ := h
    have e : kEq kf p.1 d = decide (q.1 = k) := by unfold kEq; rw [h1, hk]
    by_cases hq : q.1 = k
    · rw [List.find?_cons, e, decide_eq_true hq]
      exact ⟨q.2, valV_pos hq, h2⟩
    · rw [List.find?_cons, e, decide_eq_false hq, valV_neg hq]
      exact ih
theorem put_at {kvs : List (D × D)} {es : List (κ × V)} (r : RKV K ρ H kf kvs es) {d x : D} {k : κ} {v : V} (hk : kf d = some k) (hx : RD K ρ H x v) :
    RKV K ρ H kf (if (kvs.find? fun p => kEq kf p.1 d).isSome then kvs.map fun p => if kEq kf p.1 d then (p.1, x) else p else kvs ++ [(d, x)]) (putK es k v) := by
  have hl := look_at r hk
  have hrep : RKV K ρ H kf (kvs.map fun p => if kEq kf p.1 d then (p.1, x) else p) (es.map fun kv => if kv.1 = k then (kv.1, v) else kv) := by
    clear hl
    induction r with
    | nil => exact .nil
    | @cons p q kvs es h t ih =>
      obtain ⟨h1, h2⟩ := h
      have e : kEq kf p.1 d = decide (q.1 = k) := by unfold kEq; rw [h1, hk]
      refine .cons ?_ ih
      simp only [e]
      by_cases hq : q.1 = k
      · rw [if_pos (decide_eq_true hq), if_pos hq]; exact ⟨h1, hx⟩
      · rw [if_neg (by simpa using hq), if_neg hq]; exact ⟨h1, h2⟩
  have hap : RKV K ρ H kf (kvs ++ [(d, x)]) (es ++ [(k, v)]) := by
    clear hl hrep
    induction r with
    | nil => exact .cons ⟨hk, hx⟩ .nil
    | cons h t ih => exact .cons h ih
  cases hf : kvs.find? fun p => kEq kf p.1 d with
  | none =>
    rw [hf] at hl
    rw [putK_new v hl]
    exact hap
  | some p =>
    rw [hf] at hl
    obtain ⟨w', hw, _⟩ := hl
    have ha : (es.any fun kv => decide (kv.1 = k)) = true := by rw [valV_any, hw]; rfl
    unfold putK
    rw [if_pos ha]
    exact hrep
end
theorem dLook_f (kvs : List (D × D)) (k : D) : dLook false kvs k = (kvs.find? fun p => kEq keyD p.1 k).map (·.2) := rfl
theorem dLook_t (kvs : List (D × D)) (k : D) : dLook true kvs k = (kvs.find? fun p => kEq keyT p.1 k).map (·.2) := rfl
def dPut (t : Bool) (kvs : List (D × D)) (k x : D) : List (D × D) :=
  if (kvs.find? fun p => keyK t p.1 k).isSome then kvs.map fun p => if keyK t p.1 k then (p.1, x) else p else kvs ++ [(k, x)]
/-- what a dict in the store holds -/
theorem dget_at (rs : RelS K ρ S H) {n : Nat} {t : Bool} {kvs : List (D × D)} {a : Addr} (hn : ρ.l[n]? = some a) (hs : S[n]? = some (.dic t kvs)) {k : D} {y : V} (hk : isKey t k = true) (ry : RD K ρ H k y) :
    match dLook t kvs k with
    | some x => ∃ v, DGet H a y (some v) ∧ RD K ρ H x v
    | none => DGet H a y none := by
  obtain ⟨h, e, q⟩ := rs.ob n a _ hn hs
  cases t with
  | false =>
    obtain ⟨es, rfl, r⟩ := q
    obtain ⟨kk, hkk⟩ := Option.isSome_iff_exists.mp (show (keyD k).isSome = true from hk)
    have z := look_at r hkk
    rw [dLook_f]
    cases keyD_at hkk ry
    generalize (kvs.find? fun p => kEq keyD p.1 k).map (·.2) = o at z
    cases o with
    | none => have g := DGet.k (k := kk) e; rw [show valV es kk = none from z] at g; exact g
    | some x =>
      obtain ⟨v, hv, rv⟩ := z
      have g := DGet.k (k := kk) e
      rw [hv] at g
      exact ⟨v, g, rv⟩
  | true =>
    obtain ⟨es, rfl, r⟩ := q
    obtain ⟨kk, hkk⟩ := Option.isSome_iff_exists.mp (show (keyT k).isSome = true from hk)
    have z := look_at r hkk
    rw [dLook_t]
    obtain ⟨p, rfl, hp⟩ := keyT_at hkk ry
    generalize (kvs.find? fun p => kEq keyT p.1 k).map (·.2) = o at z
    cases o with
    | none => have g := DGet.t e hp; rw [show valV es kk = none from z] at g; exact g
    | some x =>
      obtain ⟨v, hv, rv⟩ := z
      have g := DGet.t e hp
      rw [hv] at g
      exact ⟨v, g, rv⟩

/-! ### in -/
theorem in_core (hu : X.A.units + 65 < cLine) {pins : List (Addr × Obj)} {s : Shared} {σ : L2.St} {a b : D} {c : Bool} {x y : V} {v u : Value} {Ex : Value → Shared → Prop} (I : Inv X pins σ H s) (rs : RelS X.K ρ S H) (ra : RD X.K ρ H a x) (rb : RD X.K ρ H b y) (rx : RelV x v) (ry : RelV y u) (hc : inB S a b = some c) {Qv : Value → Shared → Prop} :
    ((∀ s', Inv X pins σ H s' → Qv (.bool c) s') → wpAny (model X.prog X.w) X.A (compareOp .In v u) Qv Ex s) ∧ ((∀ s', Inv X pins σ H s' → Qv (.bool (!c)) s') → wpAny (model X.prog X.w) X.A (compareOp .NotIn v u) Qv Ex s) := by
  have data : ∀ (xs : List D) (p : Addr) (vs : List V) (tup : Bool), (okD 60 a && okD 60 (if tup then .tup xs else .lst xs)) = true → (xs.any fun z => eqF 60 z a) = c → y = .ref p → (if tup then SqT X.K H p vs else SqL X.K H p vs) → RDs X.K ρ H xs vs →
      ((∀ s', Inv X pins σ H s' → Qv (.bool c) s') → wpAny (model X.prog X.w) X.A (compareOp .In v u) Qv Ex s) ∧ ((∀ s', Inv X pins σ H s' → Qv (.bool (!c)) s') → wpAny (model X.prog X.w) X.A (compareOp .NotIn v u) Qv Ex s) := by
    intro xs p vs tup ho hcc ey hs qs
    subst ey
    rw [Bool.and_eq_true] at ho
    obtain ⟨as, r1⟩ := Dp.reads I (py a) x v (dp_of 60 a x ho.1 ra) rx
    have sd := shaped_of ho.1
    have hall : xs.all (okD 60) = true := by
      have : xs.all (okD 59) = true := by cases tup <;> exact ho.2
      rw [List.all_eq_true] at this ⊢
      exact fun z hz => okD_up 59 z (this z hz)
    have hany := any_py ho.1 hall
    rw [hcc] at hany
    have hD : DpAll X.K H vs (pys xs) := by
      have L : ∀ (xs : List D) (vs : List V), xs.all (okD 60) = true → RDs X.K ρ H xs vs → DpAll X.K H vs (pys xs) := by
        intro xs
        induction xs with
        | nil => intro vs _ r; unfold RDs at r; subst r; exact DpAll.nil
        | cons x xs ih =>
          intro vs h r
          rw [List.all_cons, Bool.and_eq_true] at h
          unfold RDs at r
          obtain ⟨v, us, rfl, r1, r2⟩ := r
          exact DpAll.cons (dp_of 60 x v h.1 r1) (ih us h.2 r2)
      exact L xs vs hall qs
    have hlay : PyData.canLayAll0 (pys xs) = true := by
      cases tup with
      | true => simpa [py, PyData.canLay0] using (ok_py 60 (.tup xs) ho.2).1
      | false => simpa [py, PyData.canLay0] using (ok_py 60 (.lst xs) ho.2).1
    cases tup with
    | true =>
      obtain ⟨bs, r2⟩ := Dp.reads I (.tuple (pys xs)) (.ref p) u (Dp.tup hs hD) ry
      exact ⟨fun q => SeqAt.in_tuple_reads r2 r1 hlay (SeqAt.canLay_of_shaped sd) (PyProof.Rows.room_in_shaped sd hu) (by rw [hany]; exact q s I), fun q => SeqAt.notIn_tuple_reads r2 r1 hlay (SeqAt.canLay_of_shaped sd) (PyProof.Rows.room_in_shaped sd hu) (by rw [hany]; exact q s I)⟩
    | false =>
      obtain ⟨bs, r2⟩ := Dp.reads I (.list (pys xs)) (.ref p) u (Dp.lst hs hD) ry
      exact ⟨fun q => SeqAt.in_list_reads r2 r1 hlay (SeqAt.canLay_of_shaped sd) (PyProof.Rows.room_in_shaped sd hu) (by rw [hany]; exact q s I), fun q => SeqAt.notIn_list_reads r2 r1 hlay (SeqAt.canLay_of_shaped sd) (PyProof.Rows.room_in_shaped sd hu) (by rw [hany]; exact q s I)⟩
  cases b with
  | lst xs =>
    simp only [inB] at hc
    split at hc
    · rename_i ho
      obtain ⟨p, vs, e, hs, qs⟩ := rb.lstL
      exact data xs p vs false ho (Option.some.inj hc) e hs qs
    · cases hc
  | tup xs =>
    simp only [inB] at hc
    split at hc
    · rename_i ho
      obtain ⟨p, vs, e, hs, qs⟩ := rb.tupT
      exact data xs p vs true ho (Option.some.inj hc) e hs qs
    · cases hc
  | ref n =>
    simp only [inB] at hc
    split at hc
    · rename_i xs hS
      split at hc
      · rename_i ho
        obtain ⟨p, vs, e, hs, qs⟩ := list_at rs (d := .ref n) (xs := xs) (by simp only [listOf, hS]) rb
        exact data xs p vs false ho (Option.some.inj hc) e (SqL.of hs) qs
      · cases hc
    · rename_i t kvs hS
      split at hc
      · rename_i hk
        unfold RD at rb
        obtain ⟨p, rfl, hn⟩ := rb
        cases (show u = Value.ref p from ry)
        have z := dget_at rs hn hS hk ra
        have hu1 : X.A.units + 1 < cLine := by omega
        cases hl : dLook t kvs a with
        | none =>
          rw [hl] at z hc
          cases hc
          exact ⟨fun q => d_in hu1 I z rx fun s' I' => q s' I', fun q => d_notIn hu1 I z rx fun s' I' => q s' I'⟩
        | some d =>
          rw [hl] at z hc
          obtain ⟨w', g, _⟩ := z
          cases hc
          exact ⟨fun q => d_in hu1 I g rx fun s' I' => q s' I', fun q => d_notIn hu1 I g rx fun s' I' => q s' I'⟩
      · cases hc
    · cases hc
  | _ => cases hc
theorem or_in (hu : X.A.units + 65 < cLine) : OpR X (compareOp .In) (w2 X.K cl E vIn) := by
  intro pins s σ H x y v u Q I rx ry q
  obtain ⟨ρ, S, a, b, rs, ra, rb, q⟩ := q
  unfold vIn vCmp at q
  split at q
  · rename_i c hc
    exact (in_core hu I rs ra rb rx ry hc).1 fun s' I' => ⟨.bl c, H, I', rfl, ok_val rs q RD.bl (siz_of I.hok)⟩
  · exact q.elim
theorem or_notIn (hu : X.A.units + 65 < cLine) : OpR X (compareOp .NotIn) (w2 X.K cl E vNotIn) := by
  intro pins s σ H x y v u Q I rx ry q
  obtain ⟨ρ, S, a, b, rs, ra, rb, q⟩ := q
  unfold vNotIn vCmp at q
  split at q
  · rename_i c hc
    have hc : (inB S a b).map (!·) = some c := hc
    cases hq : inB S a b with
    | none => rw [hq] at hc; cases hc
    | some k =>
      rw [hq] at hc
      cases hc
      exact (in_core hu I rs ra rb rx ry hq).2 fun s' I' => ⟨.bl (!k), H, I', rfl, ok_val rs q RD.bl (siz_of I.hok)⟩
  · exact q.elim

/-! ### truth -/
def truD (S : Store) : D → Option Bool
  | .non => some false
  | .bl b => some b
  | .int i => some (i != 0)
  | .str y => if y.length ≤ 16777216 then some ((y.length : Int) != 0) else none
  | .tup xs => some (!xs.isEmpty)
  | .lst xs => some (!xs.isEmpty)
  | .ref n => match S[n]? with
    | some (.lst xs) => some (!xs.isEmpty)
    | some (.dic false kvs) => some (!kvs.isEmpty)
    | _ => none
  | .scr _ => none
theorem paired_empty {α β : Type} {G : α → β → Prop} {xs : List α} {ys : List β} (h : Paired G xs ys) : ys.isEmpty = xs.isEmpty := by cases h <;> rfl
theorem rds_empty {ds : List D} {vs : List V} (h : RDs K ρ H ds vs) : vs.isEmpty = ds.isEmpty := by
  have := h.length
  cases ds <;> cases vs <;> simp_all
theorem truD_at (rs : RelS K ρ S H) {d : D} {v : V} {c : Bool} (h : truD S d = some c) (r : RD K ρ H d v) : TruV K v H c := by
  have hsl := sizeLine_eq
  cases d with
  | non => cases r.ofNon; cases h; exact rfl
  | bl b => cases r.ofBl; cases h; exact rfl
  | int i => cases r.ofInt; cases h; exact rfl
  | str y =>
    cases r.ofStr
    simp only [truD] at h
    split at h
    · cases h; exact ⟨by omega, rfl⟩
    · cases h
  | tup xs => obtain ⟨a, vs, rfl, hs, q⟩ := r.tupT; cases h; exact .inr (.inl ⟨vs, hs, by rw [rds_empty q]⟩)
  | lst xs => obtain ⟨a, vs, rfl, hs, q⟩ := r.lstL; cases h; exact .inl ⟨vs, hs, by rw [rds_empty q]⟩
  | ref n =>
    unfold RD at r
    obtain ⟨a, rfl, hn⟩ := r
    simp only [truD] at h
    split at h
    · rename_i xs hS
      cases h
      obtain ⟨o, e, vs, rfl, q⟩ := rs.ob n a _ hn hS
      exact .inl ⟨vs, SqL.of e, by rw [rds_empty q]⟩
    · rename_i kvs hS
      cases h
      obtain ⟨o, e, es, rfl, q⟩ := rs.ob n a _ hn hS
      exact .inr (.inr ⟨es, e, by rw [paired_empty q]⟩)
    · cases h
  | scr ns => cases h

/-! ### a[i] -/
def vIx : V2 := fun a b S => match a, b with
  | .tup xs, .int i => match atI xs i with
    | some d => .ok d S
    | none => .bad
  | .lst xs, .int i => match atI xs i with
    | some d => .ok d S
    | none => .bad
  | .scr ns, .int i => match atI ns i with
    | some d => .ok (.int d) S
    | none => .bad
  | .str z, .int i => if z.length ≤ 16777216 then (match atI z.cps.toList i with
    | some c => .ok (.str ⟨#[c]⟩) S
    | none => .bad) else .bad
  | .ref n, k => match S[n]? with
    | some (.lst xs) => match k with
      | .int i => match atI xs i with
        | some d => .ok d S
        | none => .bad
      | _ => .bad
    | some (.dic t kvs) => if isKey t k then (match dLook t kvs k with
      | some d => .ok d S
      | none => .bad) else .bad
    | none => .bad
  | _, _ => .bad
theorem atI_rds {xs : List D} {vs : List V} {i : Int} {d : D} (q : RDs K ρ H xs vs) (h : atI xs i = some d) : ∃ v, atI vs i = some v ∧ RD K ρ H d v := by
  unfold atI at h ⊢
  rw [← q.length]
  cases e : ixN xs.length i with
  | none => rw [e] at h; cases h
  | some j => rw [e] at h; exact q.get h
theorem IxR.cases {X : Cx} {r : R2} (h : ∀ x y H Q, Siz H → r x y H Q → ∃ r1 : R2, IxR X r1 ∧ r1 x y H (fun v H' => Siz H' → Q v H')) : IxR X r := by
  intro value slice pins s σ H x y v u Q I rx ry q hs
  obtain ⟨r1, h1, q1⟩ := h x y H Q (siz_of I.hok) q
  exact thn (h1 value slice pins s σ H x y v u _ I rx ry q1 hs) fun v s' ⟨x, H', I', r, q'⟩ => ⟨x, H', I', r, q' (siz_of I'.hok)⟩
def rIxDict : R2 := fun x y H Q => ∃ a v, x = .ref a ∧ DGet H a y (some v) ∧ Q v H
theorem ix_dict (hu : X.A.units + 1 < cLine) : IxR X rIxDict := by
  intro value slice pins s σ H x y v u Q I rx ry h hs
  obtain ⟨a, z, rfl, g, q⟩ := h
  cases (show v = Value.ref a from rx)
  exact PyProof.Rows.tail_any (dict_typeIs I g) PySem.F.slot_dict_getitem.lookup (d_getItem hu I g ry fun w' s' I' r' => ⟨z, H, I', r', q⟩) hs
theorem or_ix (hu : X.A.units + 1 < cLine) : IxR X (w2 X.K cl E vIx) := by
  have hsl := sizeLine_eq
  refine IxR.cases fun x y H Q z q => ?_
  obtain ⟨ρ, S, a, b, rs, ra, rb, q⟩ := q
  unfold vIx at q
  split at q
  · split at q
    · rename_i hd
      obtain ⟨p, vs, rfl, hs, qs⟩ := ra.tupT
      cases rb.ofInt
      obtain ⟨w, hw, rw'⟩ := atI_rds qs hd
      exact ⟨_, ix_tup, p, vs, _, w, rfl, rfl, hs, hw, ok_val rs q rw'⟩
    · exact q.elim
  · split at q
    · rename_i hd
      obtain ⟨p, vs, rfl, hs, qs⟩ := ra.lstL
      cases rb.ofInt
      obtain ⟨w, hw, rw'⟩ := atI_rds qs hd
      exact ⟨_, ix_list, p, vs, _, w, rfl, rfl, hs, hw, ok_val rs q rw'⟩
    · exact q.elim
  · split at q
    · rename_i ns i _ d hd
      obtain ⟨p, rfl, hs⟩ := ra.ofScr
      cases rb.ofInt
      refine ⟨_, ix_list, p, ns.map V.int, _, .int d, rfl, rfl, hs, ?_, ok_val rs q RD.int⟩
      unfold atI at hd ⊢
      rw [List.length_map]
      cases e : ixN ns.length i with
      | none => rw [e] at hd; cases hd
      | some j =>
        rw [e] at hd
        show (ns.map V.int)[j]? = _
        rw [List.getElem?_map, show ns[j]? = some d from hd]
        rfl
    · exact q.elim
  · split at q
    · split at q
      · rename_i hd
        cases ra.ofStr; cases rb.ofInt
        exact ⟨_, ix_str, _, _, _, rfl, rfl, by omega, hd, ok_val rs q RD.str⟩
      · exact q.elim
    · exact q.elim
  · split at q
    · rename_i xs hS
      split at q
      · split at q
        · rename_i hd
          obtain ⟨p, vs, rfl, hs, qs⟩ := list_at rs (d := .ref _) (xs := xs) (by simp only [listOf, hS]) ra
          cases rb.ofInt
          obtain ⟨w, hw, rw'⟩ := atI_rds qs hd
          exact ⟨_, ix_list, p, vs, _, w, rfl, rfl, SqL.of hs, hw, ok_val rs q rw'⟩
        · exact q.elim
      · exact q.elim
    · rename_i t kvs hS
      split at q
      · rename_i hk
        unfold RD at ra
        obtain ⟨p, rfl, hn⟩ := ra
        have g := dget_at rs hn hS hk rb
        split at q
        · rename_i d hd
          rw [hd] at g
          obtain ⟨w, g1, rw'⟩ := g
          exact ⟨_, ix_dict hu, p, w, rfl, g1, ok_val rs q rw'⟩
        · exact q.elim
      · exact q.elim
    · exact q.elim
  · exact q.elim

/-! ### a[i:j] -/
def cutD (xs : List D) (lo hi : Option Int) : List D := (xs.drop (HT.sIx xs.length 0 lo)).take (HT.sIx xs.length xs.length hi - HT.sIx xs.length 0 lo)
def vSl (mt : Bool) (a : D) (lo hi : Option Int) (S : Store) : Out D := match a with
  | .tup xs => .ok (.tup (cutD xs lo hi)) S
  | d => match listOf S d with
    | some xs => mkL mt (cutD xs lo hi) S
    | none => .bad
def wSl (K : PySem.W.Frag) (cl : Nat → Addr) (E : XK) (mt : Bool) : V → Option Int → Option Int → Hp → VK → Prop := fun x lo hi H Q => ∃ ρ S a, RelS K ρ S H ∧ RD K ρ H a x ∧ OKo K cl E ρ H (RD K) Q (vSl mt a lo hi S)
theorem cut_rds {xs : List D} {vs : List V} (q : RDs K ρ H xs vs) (lo hi : Option Int) : RDs K ρ H (cutD xs lo hi) (cutV vs lo hi) := by
  unfold cutD cutV
  rw [← q.length]
  exact (q.drop _).take _
theorem sr_cut {mt : Bool} : SlR X (wSl X.K cl E mt) := by
  intro pins s σ H x v vl vu lo hi sl Q I rx hs pl pu h
  obtain ⟨ρ, S, a, rs, ra, h⟩ := h
  have fin : ∀ {r : V → Option Int → Option Int → Hp → VK → Prop}, SlR X r → r x lo hi H (fun v H' => Siz H' → Q v H') →
      ∃ T id, typeLookup (.type T) "__getitem__" = pure (some (.builtin id)) ∧ s.TypeIs v T ∧ wpAny (model X.prog X.w) X.A (getItem v (.ref sl)) (EP X pins σ Q) X.xe s := by
    intro r hr q
    obtain ⟨T, id, h1, h2, h3⟩ := hr pins s σ H x v vl vu lo hi sl _ I rx hs pl pu q
    exact ⟨T, id, h1, h2, thn h3 fun v s' ⟨x, H', I', r, q'⟩ => ⟨x, H', I', r, q' (siz_of I'.hok)⟩⟩
  unfold vSl at h
  split at h
  · rename_i xs
    obtain ⟨p, vs, rfl, hsq, qs⟩ := ra.tupT
    refine fin sl_tupA ⟨p, vs, rfl, hsq, fun e => ?_, fun _ => tup_ok rs (cut_rds qs lo hi) h⟩
    have l := qs.length
    have ec : cutD xs lo hi = xs := by
      unfold cutD
      rw [l, e.1, e.2]
      rw [List.drop_zero, Nat.sub_zero, ← l, List.take_length]
    rw [ec] at h
    exact ok_val rs h ra
  · split at h
    · rename_i xs hl
      obtain ⟨p, vs, rfl, hsq, qs⟩ := list_at rs hl ra
      exact fin sl_list ⟨p, vs, rfl, SqL.of hsq, mkL_ok rs (cut_rds qs lo hi) h⟩
    · exact h.elim
end
end Mir
end

section
set_option Elab.async false
set_option linter.all false
set_option maxRecDepth 100000
/-! Mir4: products, stores, unary, built-ins by values. -/
namespace Mir
open PySem PySem.Spec L2
section
variable {K : PySem.W.Frag} {cl : Nat → Addr} {E : XK} {ρ : Rho} {H : Hp} {S : Store} {Q : VK} {X : Cx}

theorem or_sub : OpR X (binaryOp .Sub) (w2 X.K cl E vSub) := or_int op_sub
theorem or_div : OpR X (binaryOp .FloorDiv) (w2 X.K cl E vDiv) := or_intIf divOk_ok op_fdivW
theorem or_mod : OpR X (binaryOp .Mod) (w2 X.K cl E vMod) := or_intIf modOk_ok op_mod
theorem or_pow : OpR X (binaryOp .Pow) (w2 X.K cl E vPow) := or_intIf powOk_ok op_pow
theorem or_shl : OpR X (binaryOp .LShift) (w2 X.K cl E vShl) := or_intIf powOk_ok op_shl
theorem or_shr : OpR X (binaryOp .RShift) (w2 X.K cl E vShr) := or_intIf shrOk_ok op_shr
theorem or_band : OpR X (binaryOp .BitAnd) (w2 X.K cl E vAnd) := or_int op_and
theorem or_bor : OpR X (binaryOp .BitOr) (w2 X.K cl E vOr) := or_int op_or
theorem or_bxor : OpR X (binaryOp .BitXor) (w2 X.K cl E vXor) := or_int op_xor
theorem op_mulM : OpR X (binaryOp .Mult) (rI (fun i j => mulOk i j = true) fun i j => .int (i * j)) := opI fun i j _ _ _ _ _ hc q => PyProof.Rows.mul_int q (mulOk_ok i j hc)
theorem or_mul {mt : Bool} : OpR X (binaryOp .Mult) (w2 X.K cl E (vMul mt)) := by
  have hsl := sizeLine_eq
  refine OpR.cases fun x y H Q z h => ?_
  obtain ⟨ρ, S, a, b, rs, ra, rb, h⟩ := h
  unfold vMul at h
  split at h
  · split at h
    · rename_i hc
      cases ra.ofInt; cases rb.ofInt
      exact ⟨_, op_mulM, _, _, rfl, rfl, hc, ok_val rs h RD.int⟩
    · exact h.elim
  · split at h
    · rename_i hc
      simp only [Bool.and_eq_true, decide_eq_true_eq] at hc
      obtain ⟨c1, ⟨c2, c3⟩, c4⟩ := hc
      have c4 := Nat.le_of_ble_eq_true c4
      obtain ⟨p, vs, rfl, hs, qs⟩ := ra.tupT
      cases rb.ofInt
      have l := qs.length
      refine ⟨_, op_repT, p, _, vs, rfl, rfl, hs, fun e => c1 ?_, c2, c3, by omega, tup_ok rs (qs.rep _) h⟩
      subst e
      exact List.eq_nil_of_length_eq_zero (by simpa using l)
    · exact h.elim
  · split at h
    · rename_i xs hl
      split at h
      · rename_i hc
        simp only [Bool.and_eq_true, decide_eq_true_eq] at hc
        obtain ⟨⟨c1, c2⟩, c3⟩ := hc
        have c2 := Nat.le_of_ble_eq_true c2
        obtain ⟨p, vs, rfl, hs, qs⟩ := list_at rs hl ra
        cases rb.ofInt
        have l := qs.length
        exact ⟨_, op_rep, p, _, vs, rfl, rfl, hs, by omega, by omega, by rw [← l]; omega, mkL_ok rs (qs.rep _) h⟩
      · exact h.elim
    · exact h.elim
  · exact h.elim
/-- in place: ints alone, and what a new value is -/
def vIadd : V2
  | .int i, .int j, S => .ok (.int (i + j)) S
  | .str i, .str j, S => if i.length + j.length ≤ 16777216 then .ok (.str (i ++ j)) S else .bad
  | _, _, _ => .bad
theorem or_iadd : OpR X (inplaceOp .Add) (w2 X.K cl E vIadd) := by
  have hsl := sizeLine_eq
  refine OpR.cases fun x y H Q z h => ?_
  obtain ⟨ρ, S, a, b, rs, ra, rb, h⟩ := h
  unfold vIadd at h
  split at h
  · cases ra.ofInt; cases rb.ofInt
    exact ⟨_, iop_add, _, _, rfl, rfl, ok_val rs h RD.int⟩
  · split at h
    · cases ra.ofStr; cases rb.ofStr
      exact ⟨_, iop_add_str, _, _, rfl, rfl, by omega, ok_val rs h RD.str⟩
    · exact h.elim
  · exact h.elim
def vImul : V2 := vIntIf (fun i j => Nat.ble i.natAbs 18446744073709551615) fun i j => i * j
theorem or_imul : OpR X (inplaceOp .Mult) (w2 X.K cl E vImul) := or_intIf (fun i j h => by
  have h := Nat.le_of_ble_eq_true h
  exact .inl ⟨by omega, by omega⟩) iop_mul
theorem or_isub : OpR X (inplaceOp .Sub) (w2 X.K cl E vSub) := or_int iop_sub
theorem or_ixor : OpR X (inplaceOp .BitXor) (w2 X.K cl E vXor) := or_int iop_xor
def vNeg : V1
  | .int i, S => .ok (.int (-i)) S
  | _, _ => .bad
theorem ur_neg : UnR X (unaryOp .USub) (w1 X.K cl E vNeg) := by
  refine UnR.siz un_neg fun x H Q z h => ?_
  obtain ⟨ρ, S, a, rs, ra, h⟩ := h
  unfold vNeg at h
  split at h
  · cases ra.ofInt
    exact ⟨_, rfl, ok_val rs h RD.int⟩
  · exact h.elim

/-! ### a[i] = v -/
def RU : Rho → Hp → Unit → Unit → Prop := fun _ _ _ _ => True
def vSet (c i v : D) (S : Store) : Out Unit := match c with
  | .ref n => match S[n]? with
    | some (.lst xs) => match i with
      | .int k => match ixN xs.length k with
        | some j => .ok () (S.set n (.lst (xs.set j v)))
        | none => .bad
      | _ => .bad
    | some (.dic t kvs) => if isKey t i && Nat.ble kvs.length 16000000 then .ok () (S.set n (.dic t (dPut t kvs i v))) else .bad
    | none => .bad
  | _ => .bad
def wSet (K : PySem.W.Frag) (cl : Nat → Addr) (E : XK) : TSet := fun o i v H Q => ∃ ρ S c k d, RelS K ρ S H ∧ RD K ρ H c o ∧ RD K ρ H k i ∧ RD K ρ H d v ∧ OKo K cl E ρ H RU (fun _ H' => Q H') (vSet c k d S)
theorem sr_set (hu : X.A.units + 1 < cLine) : PSet X (wSet X.K cl E) := by
  have hsl := sizeLine_eq
  intro pins s σ H o i v ov iv u Q I ro ri rv h
  obtain ⟨ρ, S, c, k, d, rs, rc, rk, rd, h⟩ := h
  unfold vSet at h
  split at h
  · rename_i n
    unfold RD at rc
    obtain ⟨a, rfl, hn⟩ := rc
    · split at h
      · rename_i xs hS
        split at h
        · split at h
          · rename_i j hj
            obtain ⟨o, e, vs, rfl, q⟩ := rs.ob n a _ hn hS
            cases rk.ofInt
            refine thn (set_list pins s σ H _ _ v ov iv u (fun H' => Siz H' → Q H') I ro ri rv ⟨a, vs, _, j, rfl, rfl, e, by rw [← q.length]; exact hj, fun z => ?_⟩) fun _ s' ⟨H', I', q'⟩ => ⟨H', I', q' (siz_of I'.hok)⟩
            exact h ρ _ () (grow_set (List.mem_of_getElem? hn)) (rs.set hn ⟨_, rfl, q.set j rd⟩) trivial z
          · exact h.elim
        · exact h.elim
      · rename_i t kvs hS
        split at h
        · rename_i hc
          rw [Bool.and_eq_true] at hc
          have hl := Nat.le_of_ble_eq_true hc.2
          cases (show ov = Value.ref a from ro)
          obtain ⟨o, e, q⟩ := rs.ob n a _ hn hS
          cases t with
          | false =>
            obtain ⟨es, rfl, r⟩ := q
            obtain ⟨kk, hkk⟩ := Option.isSome_iff_exists.mp (show (keyD k).isSome = true from hc.1)
            have hle : kvs.length = es.length := Paired.length r
            cases keyD_at hkk rk
            refine d_setItem hu I (DPut.k e (by omega)) ri rv fun s' I' => ⟨_, I', ?_⟩
            exact h ρ _ () (grow_set (List.mem_of_getElem? hn)) (rs.set hn ⟨_, rfl, put_at r hkk rd⟩) trivial (siz_of I'.hok)
          | true =>
            obtain ⟨es, rfl, r⟩ := q
            obtain ⟨kk, hkk⟩ := Option.isSome_iff_exists.mp (show (keyT k).isSome = true from hc.1)
            have hle : kvs.length = es.length := Paired.length r
            obtain ⟨p, rfl, hp⟩ := keyT_at hkk rk
            refine d_setItem hu I (DPut.t e hp (by omega)) ri rv fun s' I' => ⟨_, I', ?_⟩
            exact h ρ _ () (grow_set (List.mem_of_getElem? hn)) (rs.set hn ⟨_, rfl, put_at r hkk rd⟩) trivial (siz_of I'.hok)
        · exact h.elim
      · exact h.elim
  · exact h.elim

/-! ### built-ins -/
abbrev VL := List D → Store → Out D
def wL (K : PySem.W.Frag) (cl : Nat → Addr) (E : XK) (f : VL) : List V → Hp → VK → Prop := fun vs H Q => ∃ ρ S ds, RelS K ρ S H ∧ RDs K ρ H ds vs ∧ OKo K cl E ρ H (RD K) Q (f ds S)
def vLen : VL
  | [d], S => match d with
    | .tup xs => .ok (.int xs.length) S
    | .lst xs => .ok (.int xs.length) S
    | .scr xs => .ok (.int xs.length) S
    | .str z => if z.length ≤ 16777216 then .ok (.int z.length) S else .bad
    | .ref n => match S[n]? with
      | some (.lst xs) => .ok (.int xs.length) S
      | some (.dic t kvs) => .ok (.int kvs.length) S
      | none => .bad
    | _ => .bad
  | _, _ => .bad
theorem cb_len : CallR X (.builtin "len") (wL X.K cl E vLen) := by
  have hsl := sizeLine_eq
  refine CallR.cases fun xs H Q z h => ?_
  obtain ⟨ρ, S, ds, rs, rd, h⟩ := h
  unfold vLen at h
  split at h
  · obtain ⟨v, rfl, r⟩ := rd.one
    split at h
    · obtain ⟨p, vs, rfl, hs, qs⟩ := r.tupT
      rw [qs.length] at h
      exact ⟨_, call_len, _, _, rfl, .inr ⟨vs, hs, rfl⟩, ok_val rs h RD.int⟩
    · obtain ⟨p, vs, rfl, hs, qs⟩ := r.lstL
      rw [qs.length] at h
      exact ⟨_, call_len, _, _, rfl, .inl ⟨vs, hs, rfl⟩, ok_val rs h RD.int⟩
    · rename_i ns
      obtain ⟨p, rfl, hs⟩ := r.ofScr
      exact ⟨_, call_len, _, _, rfl, .inl ⟨ns.map V.int, hs, (List.length_map ..).symm⟩, ok_val rs h RD.int⟩
    · split at h
      · cases r.ofStr
        exact ⟨_, call_len_str, _, rfl, by omega, ok_val rs h RD.int⟩
      · exact h.elim
    · split at h
      · rename_i n _ ys hS
        obtain ⟨p, vs, rfl, hs, qs⟩ := list_at rs (d := .ref n) (xs := ys) (by simp only [listOf, hS]) r
        rw [qs.length] at h
        exact ⟨_, call_len, _, _, rfl, .inl ⟨vs, SqL.of hs, rfl⟩, ok_val rs h RD.int⟩
      · rename_i n _ t kvs hS
        unfold RD at r
        obtain ⟨a, rfl, hn⟩ := r
        obtain ⟨o, e, q⟩ := rs.ob n a _ hn hS
        cases t with
        | false =>
          obtain ⟨es, rfl, q⟩ := q
          rw [Paired.length q] at h
          exact ⟨_, call_lenD, a, es, rfl, e, ok_val rs h RD.int⟩
        | true =>
          obtain ⟨es, rfl, q⟩ := q
          rw [Paired.length q] at h
          exact ⟨_, call_len_dT, a, es, rfl, e, ok_val rs h RD.int⟩
      · exact h.elim
    · exact h.elim
  · exact h.elim
def vAbs : VL
  | [.int i], S => .ok (.int (if i < 0 then -i else i)) S
  | _, _ => .bad
theorem cb_abs : CallR X (.builtin "abs") (wL X.K cl E vAbs) := by
  refine CallR.siz call_abs fun xs H Q z h => ?_
  obtain ⟨ρ, S, ds, rs, rd, h⟩ := h
  unfold vAbs at h
  split at h
  · obtain ⟨v, rfl, r⟩ := rd.one
    cases r.ofInt
    exact ⟨_, rfl, ok_val rs h RD.int⟩
  · exact h.elim
def vIntC : VL
  | [.int i], S => .ok (.int i) S
  | [.bl k], S => .ok (.int (if k then 1 else 0)) S
  | _, _ => .bad
theorem cb_int : CallR X (.type "int") (wL X.K cl E vIntC) := by
  refine CallR.siz call_int1 fun xs H Q z h => ?_
  obtain ⟨ρ, S, ds, rs, rd, h⟩ := h
  unfold vIntC at h
  split at h
  · obtain ⟨v, rfl, r⟩ := rd.one
    cases r.ofInt
    exact .inl ⟨_, rfl, ok_val rs h RD.int⟩
  · obtain ⟨v, rfl, r⟩ := rd.one
    cases r.ofBl
    exact .inr ⟨_, rfl, ok_val rs h RD.int⟩
  · exact h.elim
def listInts (S : Store) (d : D) : Option (List Int) := (listOf S d).bind intsOf
theorem listInts_at (rs : RelS K ρ S H) {d : D} {ns : List Int} {v : V} (h : listInts S d = some ns) (r : RD K ρ H d v) : ∃ a, v = .ref a ∧ H a = some (.lst (ns.map V.int)) := by
  unfold listInts at h
  cases e : listOf S d with
  | none => rw [e] at h; cases h
  | some xs =>
    rw [e] at h
    obtain ⟨a, vs, rfl, hs, qs⟩ := list_at rs e r
    rw [intsOf_at (show intsOf xs = some ns from h) qs] at hs
    exact ⟨a, rfl, hs⟩
def vSum : VL
  | [d], S => match listInts S d with
    | some ns => .ok (.int ns.sum) S
    | none => .bad
  | _, _ => .bad
theorem cb_sum (hc : X.calm = true) : CallR X (.builtin "sum") (wL X.K cl E vSum) := by
  refine CallR.siz (cr_sum hc) fun xs H Q z h => ?_
  obtain ⟨ρ, S, ds, rs, rd, h⟩ := h
  unfold vSum at h
  split at h
  · obtain ⟨v, rfl, r⟩ := rd.one
    split at h
    · rename_i hi
      obtain ⟨a, rfl, hs⟩ := listInts_at rs hi r
      exact ⟨a, _, rfl, SqL.of hs, ok_val rs h RD.int⟩
    · exact h.elim
  · exact h.elim
def maxI : Int → List Int → Int
  | m, [] => m
  | m, x :: xs => maxI (if x > m then x else m) xs
def minI : Int → List Int → Int
  | m, [] => m
  | m, x :: xs => minI (if x < m then x else m) xs
theorem maxI_ge : ∀ (xs : List Int) (m : Int), m ≤ maxI m xs ∧ ∀ y ∈ xs, y ≤ maxI m xs
  | [], m => ⟨Int.le_refl _, by simp⟩
  | x :: xs, m => by
    obtain ⟨h1, h2⟩ := maxI_ge xs (if x > m then x else m)
    have g : m ≤ (if x > m then x else m) ∧ x ≤ (if x > m then x else m) := by constructor <;> split <;> omega
    show m ≤ maxI _ xs ∧ ∀ y ∈ x :: xs, y ≤ maxI _ xs
    refine ⟨by omega, fun y hy => ?_⟩
    rcases List.mem_cons.mp hy with rfl | hy
    · omega
    · exact h2 y hy
theorem maxI_mem : ∀ (xs : List Int) (m : Int), maxI m xs ∈ m :: xs
  | [], m => by simp [maxI]
  | x :: xs, m => by
    have h := maxI_mem xs (if x > m then x else m)
    show maxI _ xs ∈ _
    rcases List.mem_cons.mp h with e | e
    · rw [e]; split <;> simp
    · simp [e]
theorem minI_le : ∀ (xs : List Int) (m : Int), minI m xs ≤ m ∧ ∀ y ∈ xs, minI m xs ≤ y
  | [], m => ⟨Int.le_refl _, by simp⟩
  | x :: xs, m => by
    obtain ⟨h1, h2⟩ := minI_le xs (if x < m then x else m)
    have g : (if x < m then x else m) ≤ m ∧ (if x < m then x else m) ≤ x := by constructor <;> split <;> omega
    show minI _ xs ≤ m ∧ ∀ y ∈ x :: xs, minI _ xs ≤ y
    refine ⟨by omega, fun y hy => ?_⟩
    rcases List.mem_cons.mp hy with rfl | hy
    · omega
    · exact h2 y hy
theorem minI_mem : ∀ (xs : List Int) (m : Int), minI m xs ∈ m :: xs
  | [], m => by simp [minI]
  | x :: xs, m => by
    have h := minI_mem xs (if x < m then x else m)
    show minI _ xs ∈ _
    rcases List.mem_cons.mp h with e | e
    · rw [e]; split <;> simp
    · simp [e]
def vMax : VL
  | [d], S => match listInts S d with
    | some (n :: ns) => .ok (.int (maxI n ns)) S
    | _ => .bad
  | [.int i, .int j], S => .ok (.int (if j > i then j else i)) S
  | _, _ => .bad
def vMin : VL
  | [d], S => match listInts S d with
    | some (n :: ns) => .ok (.int (minI n ns)) S
    | _ => .bad
  | [.int i, .int j], S => .ok (.int (if j < i then j else i)) S
  | _, _ => .bad
theorem cb_max (hc : X.calm = true) : CallR X (.builtin "max") (wL X.K cl E vMax) := by
  refine CallR.cases fun xs H Q z h => ?_
  obtain ⟨ρ, S, ds, rs, rd, h⟩ := h
  unfold vMax at h
  split at h
  · obtain ⟨v, rfl, r⟩ := rd.one
    split at h
    · rename_i n ns hi
      obtain ⟨a, rfl, hs⟩ := listInts_at rs hi r
      refine ⟨_, cr_max hc, a, _, rfl, SqL.of hs, by simp, fun m hm hy => ?_⟩
      have e : m = maxI n ns := by
        have h1 := hy _ (maxI_mem ns n)
        obtain ⟨h2, h3⟩ := maxI_ge ns n
        rcases List.mem_cons.mp hm with rfl | hm
        · omega
        · have := h3 m hm; omega
      rw [e]
      exact ok_val rs h RD.int
    · exact h.elim
  · obtain ⟨v, u, rfl, r1, r2⟩ := rd.two
    cases r1.ofInt; cases r2.ofInt
    exact ⟨_, call_max2 hc, _, _, rfl, ok_val rs h RD.int⟩
  · exact h.elim
theorem cb_min (hc : X.calm = true) : CallR X (.builtin "min") (wL X.K cl E vMin) := by
  refine CallR.cases fun xs H Q z h => ?_
  obtain ⟨ρ, S, ds, rs, rd, h⟩ := h
  unfold vMin at h
  split at h
  · obtain ⟨v, rfl, r⟩ := rd.one
    split at h
    · rename_i n ns hi
      obtain ⟨a, rfl, hs⟩ := listInts_at rs hi r
      refine ⟨_, cr_min hc, a, _, rfl, SqL.of hs, by simp, fun m hm hy => ?_⟩
      have e : m = minI n ns := by
        have h1 := hy _ (minI_mem ns n)
        obtain ⟨h2, h3⟩ := minI_le ns n
        rcases List.mem_cons.mp hm with rfl | hm
        · omega
        · have := h3 m hm; omega
      rw [e]
      exact ok_val rs h RD.int
    · exact h.elim
  · obtain ⟨v, u, rfl, r1, r2⟩ := rd.two
    cases r1.ofInt; cases r2.ofInt
    exact ⟨_, call_min2 hc, _, _, rfl, ok_val rs h RD.int⟩
  · exact h.elim
def blOf : D → Option Bool
  | .bl b => some b
  | _ => none
theorem blsOf_at : ∀ {ds : List D} {bs : List Bool} {vs : List V}, ds.mapM blOf = some bs → RDs K ρ H ds vs → vs = bs.map V.bl
  | [], ns, vs, e, r => by
    cases (show some [] = some ns from e)
    unfold RDs at r
    exact r
  | d :: ds, ns, vs, e, r => by
    unfold RDs at r
    obtain ⟨v, us, rfl, r1, r2⟩ := r
    rw [List.mapM_cons] at e
    cases d with
    | bl i =>
      cases h : List.mapM blOf ds with
      | none => rw [h] at e; cases e
      | some ms =>
        rw [h] at e
        cases (show some (i :: ms) = some ns from e)
        rw [r1.ofBl, blsOf_at (ds := ds) h r2]
        rfl
    | _ => cases e
def vAnyAll (all : Bool) : VL
  | [d], S => match (listOf S d).bind fun xs => xs.mapM blOf with
    | some bs => .ok (.bl (if all then bs.all id else bs.any id)) S
    | none => .bad
  | _, _ => .bad
theorem cb_anyAll (hc : X.calm = true) {all : Bool} : CallR X (.builtin (if all then "all" else "any")) (wL X.K cl E (vAnyAll all)) := by
  refine CallR.cases fun xs H Q z h => ?_
  obtain ⟨ρ, S, ds, rs, rd, h⟩ := h
  unfold vAnyAll at h
  split at h
  · obtain ⟨v, rfl, r⟩ := rd.one
    split at h
    · rename_i bs hi
      obtain ⟨xs, h1, h2⟩ := Option.bind_eq_some_iff.mp hi
      obtain ⟨a, vs, rfl, hs, qs⟩ := list_at rs h1 r
      rw [blsOf_at h2 qs] at hs
      cases all with
      | true => exact ⟨_, cr_all hc, a, bs, rfl, SqL.of hs, ok_val rs h RD.bl⟩
      | false => exact ⟨_, cr_any hc, a, bs, rfl, SqL.of hs, ok_val rs h RD.bl⟩
    · exact h.elim
  · exact h.elim
def vList (mt : Bool) : VL
  | [d], S => match seqOf S d with
    | some xs => mkL mt xs S
    | none => .bad
  | _, _ => .bad
theorem cb_list {mt : Bool} : CallR X (.type "list") (wL X.K cl E (vList mt)) := by
  refine CallR.cases fun xs H Q z h => ?_
  obtain ⟨ρ, S, ds, rs, rd, h⟩ := h
  unfold vList at h
  split at h
  · obtain ⟨v, rfl, r⟩ := rd.one
    split at h
    · rename_i hi
      obtain ⟨a, vs, rfl, hs, qs⟩ := seq_at rs hi r
      exact ⟨_, call_list_of, a, vs, rfl, hs, mkL_ok rs qs h⟩
    · exact h.elim
  · exact h.elim
theorem seq_two {d : D} {xs : List D} (h : seqOf S d = some xs) : d = .tup xs ∨ listOf S d = some xs := by
  cases d with
  | tup ys => exact .inl (congrArg D.tup (Option.some.inj h))
  | _ => exact .inr h
def vTuple : VL
  | [d], S => match seqOf S d with
    | some xs => .ok (.tup xs) S
    | none => .bad
  | _, _ => .bad
theorem cb_tuple : CallR X (.type "tuple") (wL X.K cl E vTuple) := by
  refine CallR.cases fun xs H Q z h => ?_
  obtain ⟨ρ, S, ds, rs, rd, h⟩ := h
  unfold vTuple at h
  split at h
  · obtain ⟨v, rfl, r⟩ := rd.one
    split at h
    · rename_i hi
      rcases seq_two hi with e | e
      · subst e
        obtain ⟨a, vs, rfl, hs, qs⟩ := r.tupT
        exact ⟨_, call_tuple_of, a, vs, rfl, .inr ⟨hs, ok_val rs h r⟩⟩
      · obtain ⟨a, vs, rfl, hs, qs⟩ := list_at rs e r
        exact ⟨_, call_tuple_of, a, vs, rfl, .inl ⟨SqL.of hs, tup_ok rs qs h⟩⟩
    · exact h.elim
  · exact h.elim
/-- a sort by places -/
def insI (x : Int) : List Int → List Int
  | [] => [x]
  | y :: ys => if x ≤ y then x :: y :: ys else y :: insI x ys
def sortI : List Int → List Int
  | [] => []
  | x :: xs => insI x (sortI xs)
theorem insI_perm (x : Int) : ∀ ys, (insI x ys).Perm (x :: ys)
  | [] => List.Perm.refl _
  | y :: ys => by
    unfold insI
    split
    · exact List.Perm.refl _
    · exact ((insI_perm x ys).cons y).trans (List.Perm.swap x y ys)
theorem insI_sorted (x : Int) : ∀ ys : List Int, ys.Pairwise (· ≤ ·) → (insI x ys).Pairwise (· ≤ ·)
  | [], _ => by simp [insI]
  | y :: ys, h => by
    unfold insI
    rw [List.pairwise_cons] at h
    split
    · rename_i hx
      rw [List.pairwise_cons]
      refine ⟨fun z hz => ?_, List.pairwise_cons.mpr h⟩
      rcases List.mem_cons.mp hz with rfl | hz
      · exact hx
      · exact Int.le_trans hx (h.1 z hz)
    · rename_i hx
      rw [List.pairwise_cons]
      refine ⟨fun z hz => ?_, insI_sorted x ys h.2⟩
      rcases List.mem_cons.mp ((insI_perm x ys).mem_iff.mp hz) with rfl | hz
      · omega
      · exact h.1 z hz
theorem sortI_perm : ∀ xs, (sortI xs).Perm xs
  | [] => List.Perm.refl _
  | x :: xs => (insI_perm x (sortI xs)).trans ((sortI_perm xs).cons x)
theorem sortI_sorted : ∀ xs, (sortI xs).Pairwise (· ≤ ·)
  | [] => List.Pairwise.nil
  | x :: xs => insI_sorted x _ (sortI_sorted xs)
theorem ints_rds : ∀ ns : List Int, RDs K ρ H (ns.map D.int) (ns.map V.int)
  | [] => RDs.nil
  | n :: ns => RDs.cons RD.int (ints_rds ns)
def vSorted (mt : Bool) : VL
  | [d], S => match listInts S d with
    | some ns => mkL mt ((sortI ns).map D.int) S
    | none => .bad
  | _, _ => .bad
theorem cb_sorted {mt : Bool} : CallR X (.builtin "sorted") (wL X.K cl E (vSorted mt)) := by
  refine CallR.siz cr_sortedI fun xs H Q z h => ?_
  obtain ⟨ρ, S, ds, rs, rd, h⟩ := h
  unfold vSorted at h
  split at h
  · obtain ⟨v, rfl, r⟩ := rd.one
    split at h
    · rename_i ns hi
      obtain ⟨a, rfl, hs⟩ := listInts_at rs hi r
      refine ⟨a, ns, rfl, SqL.of hs, fun ns' p hp ho np => ?_⟩
      have e : ns' = sortI ns := (hp.trans (sortI_perm ns).symm).eq_of_pairwise (fun x y _ _ h1 h2 => Int.le_antisymm h1 h2) ho (sortI_sorted ns)
      rw [e]
      exact mkL_ok rs (ints_rds _) h p np
    · exact h.elim
  · exact h.elim
end
end Mir
end

section
set_option Elab.async false
set_option linter.all false
set_option maxRecDepth 100000
/-! Mir5: expressions as functions of the slots and the store. -/
namespace Mir
open PySem PySem.Spec L2

abbrev SE := Env → Store → Out D
abbrev ST := Env → Store → Out Bool
abbrev SA := Env → Store → Out (List D)
abbrev FSem := List D → Store → Out D

def mVar (i : Nat) : SE := fun env S => match env[i]? with
  | some (some d) => .ok d S
  | _ => .bad
def mC (d : D) : SE := fun _ S => .ok d S
def mBad : SE := fun _ _ => .bad
def m1 (f : V1) (a : SE) : SE := fun env S => (a env S).bind f
def m2 (f : V2) (a c : SE) : SE := fun env S => (a env S).bind fun x S1 => (c env S1).bind fun y S2 => f x y S2
def mTst (a : SE) : ST := fun env S => (a env S).bind fun x S1 => match x with
  | .bl k => .ok k S1
  | _ => .bad
def mTru (a : SE) : ST := fun env S => (a env S).bind fun x S1 => match truD S1 x with
  | some k => .ok k S1
  | none => .bad
def mNotT (t : ST) : ST := fun env S => (t env S).bind fun k S1 => .ok (!k) S1
def mAndT (t u : ST) : ST := fun env S => (t env S).bind fun k S1 => if k then u env S1 else .ok false S1
def mOrT (t u : ST) : ST := fun env S => (t env S).bind fun k S1 => if k then .ok true S1 else u env S1
def mAndV (a c : SE) : SE := fun env S => (a env S).bind fun x S1 => match x with
  | .bl true => c env S1
  | .bl false => .ok (.bl false) S1
  | _ => .bad
def mOrV (a c : SE) : SE := fun env S => (a env S).bind fun x S1 => match x with
  | .bl true => .ok (.bl true) S1
  | .bl false => c env S1
  | _ => .bad
def mNotV (a : SE) : SE := fun env S => (a env S).bind fun x S1 => match x with
  | .bl k => .ok (.bl (!k)) S1
  | _ => .bad
def mIf (t : ST) (a c : SE) : SE := fun env S => (t env S).bind fun k S1 => if k then a env S1 else c env S1
def mChain (f g : V2) (a b c : SE) : SE := fun env S => (a env S).bind fun x S1 => (b env S1).bind fun y S2 => (f x y S2).bind fun z S3 => match z with
  | .bl true => (c env S3).bind fun w S4 => g y w S4
  | .bl false => .ok (.bl false) S3
  | _ => .bad
def mNil : SA := fun _ S => .ok [] S
def mCons (a : SE) (as : SA) : SA := fun env S => (a env S).bind fun x S1 => (as env S1).bind fun xs S2 => .ok (x :: xs) S2
def mTup (as : SA) : SE := fun env S => (as env S).bind fun xs S1 => if Nat.ble xs.length 16777216 then .ok (.tup xs) S1 else .bad
def mLst (mt : Bool) (as : SA) : SE := fun env S => (as env S).bind fun xs S1 => if Nat.ble xs.length 16777216 then mkL mt xs S1 else .bad
def mCall (f : FSem) (as : SA) : SE := fun env S => (as env S).bind f
def mDic (t : Bool) : SE := fun _ S => .ok (.ref S.length) (S ++ [.dic t []])
def intO : Option SE → Env → Store → Out (Option Int)
  | none, _, S => .ok none S
  | some a, env, S => (a env S).bind fun x S1 => match x with
    | .int i => .ok (some i) S1
    | _ => .bad
def mSl (mt : Bool) (a : SE) (lo hi : Option SE) : SE := fun env S => (a env S).bind fun x S1 => (intO lo env S1).bind fun l S2 => (intO hi env S2).bind fun h S3 => vSl mt x l h S3

section
variable {K : PySem.W.Frag} {cl : Nat → Addr} {E : XK} {ρ : Rho} {H : Hp} {S : Store} {σ : L2.St} {X : Cx}
theorem PE.imp {e : Expr} {t t' : TE} (h : PE X e t) (i : ∀ σ H Q, t' σ H Q → t σ H Q) : PE X e t' := ⟨fun pins s σ H Q I q => h.run pins s σ H Q I (i σ H Q q)⟩
theorem PT.imp {e : Expr} {t t' : TT} (h : PT X e t) (i : ∀ σ H Q, t' σ H Q → t σ H Q) : PT X e t' := ⟨fun pins s σ H Q I q => h.run pins s σ H Q I (i σ H Q q)⟩
theorem PW.imp {e : Expr} {t t' : TT} (h : PW X e t) (i : ∀ σ H Q, t' σ H Q → t σ H Q) : PW X e t' := ⟨fun w pins s σ H Q I q => h.run w pins s σ H Q I (i σ H Q q)⟩
theorem PA.imp {e : List Expr} {t t' : TA} (h : PA X e t) (i : ∀ σ H Q, t' σ H Q → t σ H Q) : PA X e t' := ⟨fun w pins s σ H Q I q => h.run w pins s σ H Q I (i σ H Q q)⟩

/-- one step of a reading -/
theorem lE_step {ma : SE} {γ δ : Type} {R2 : Rho → Hp → γ → δ → Prop} {Q2 : δ → Hp → Prop} {f : D → Store → Out γ} {env : Env} (rs : RelS K ρ S H) (re : RelE K ρ H env σ) (h : OKo K cl E ρ H R2 Q2 ((ma env S).bind f)) {P : V → Hp → Prop}
    (k : ∀ x H1 ρ1 S1 a, Siz H1 → Grow ρ H ρ1 H1 → RelS K ρ1 S1 H1 → RelE K ρ1 H1 env σ → RD K ρ1 H1 a x → OKo K cl E ρ1 H1 R2 Q2 (f a S1) → P x H1) : lE K cl E ma σ H P :=
  ⟨ρ, env, S, rs, re, OKo.mono (OKo.bind h) fun x H1 z ⟨ρ1, S1, a, g, rs1, ra, h1⟩ => k x H1 ρ1 S1 a z g rs1 (re.grow g) ra h1⟩
theorem lT_step {ma : ST} {γ δ : Type} {R2 : Rho → Hp → γ → δ → Prop} {Q2 : δ → Hp → Prop} {f : Bool → Store → Out γ} {env : Env} (rs : RelS K ρ S H) (re : RelE K ρ H env σ) (h : OKo K cl E ρ H R2 Q2 ((ma env S).bind f)) {P : Bool → Hp → Prop}
    (k : ∀ x H1 ρ1 S1, Siz H1 → Grow ρ H ρ1 H1 → RelS K ρ1 S1 H1 → RelE K ρ1 H1 env σ → OKo K cl E ρ1 H1 R2 Q2 (f x S1) → P x H1) : lT K cl E ma σ H P :=
  ⟨ρ, env, S, rs, re, OKo.mono (OKo.bind h) fun x H1 z ⟨ρ1, S1, a, g, rs1, ra, h1⟩ => by
    cases (show a = x from ra)
    exact k _ H1 ρ1 S1 z g rs1 (re.grow g) h1⟩
theorem lA_step {ma : SA} {γ δ : Type} {R2 : Rho → Hp → γ → δ → Prop} {Q2 : δ → Hp → Prop} {f : List D → Store → Out γ} {env : Env} (rs : RelS K ρ S H) (re : RelE K ρ H env σ) (h : OKo K cl E ρ H R2 Q2 ((ma env S).bind f)) {P : List V → Hp → Prop}
    (k : ∀ x H1 ρ1 S1 a, Siz H1 → Grow ρ H ρ1 H1 → RelS K ρ1 S1 H1 → RelE K ρ1 H1 env σ → RDs K ρ1 H1 a x → OKo K cl E ρ1 H1 R2 Q2 (f a S1) → P x H1) : lA K cl E ma σ H P :=
  ⟨ρ, env, S, rs, re, OKo.mono (OKo.bind h) fun x H1 z ⟨ρ1, S1, a, g, rs1, ra, h1⟩ => k x H1 ρ1 S1 a z g rs1 (re.grow g) ra h1⟩
theorem lE_is {ma : SE} {Q : VK} {env : Env} (rs : RelS K ρ S H) (re : RelE K ρ H env σ) (h : OKo K cl E ρ H (RD K) Q (ma env S)) : lE K cl E ma σ H Q := ⟨ρ, env, S, rs, re, h⟩
theorem lT_is {ma : ST} {Q : Bool → Hp → Prop} {env : Env} (rs : RelS K ρ S H) (re : RelE K ρ H env σ) (h : OKo K cl E ρ H RB Q (ma env S)) : lT K cl E ma σ H Q := ⟨ρ, env, S, rs, re, h⟩

theorem c_var {i : Nat} {x : Str} {pos : Pos} (hN : X.N[i]? = some x) (hv : Vis X.env.scope x) (hd : (x == ("__debug__" : Str)) = false) (hcd : (x == ("__classdict__" : Str)) = false) : PE X (.Name x pos) (lE X.K cl E (mVar i)) := by
  refine PE.via (pe_var hN hv hd hcd) fun σ H Q z h => ?_
  obtain ⟨ρ, env, S, rs, re, h⟩ := h
  unfold mVar at h
  split at h
  · rename_i d hd
    obtain ⟨v, e, r⟩ := re.2 i d hd
    exact ⟨v, e, fun z' => ok_val rs h r z'⟩
  · exact h.elim
theorem c_val {e : Expr} {v : V} {d : D} (h : PE X e (tC v)) (r : ∀ ρ H, RD X.K ρ H d v) : PE X e (lE X.K cl E (mC d)) := by
  refine PE.via h fun σ H Q z h => ?_
  obtain ⟨ρ, env, S, rs, re, h⟩ := h
  exact fun z' => ok_val rs h (r ρ H) z'
theorem l_op {f : V2} {ma mb : SE} (σ : L2.St) (H : Hp) (Q : VK) (h : lE K cl E (m2 f ma mb) σ H Q) : tOp (w2 K cl E f) (lE K cl E ma) (lE K cl E mb) σ H Q := by
  obtain ⟨ρ, env, S, rs, re, h⟩ := h
  refine lE_step rs re h fun x H1 ρ1 S1 a z1 g1 rs1 re1 ra h1 => ?_
  refine lE_step rs1 re1 h1 fun y H2 ρ2 S2 b z2 g2 rs2 re2 rb h2 => ?_
  exact ⟨ρ2, S2, a, b, rs2, ra.grow g2, rb, h2⟩
theorem c_bin {e : Expr} {f : V2} {ma mb : SE} (h : PE X e (tOp (w2 X.K cl E f) (lE X.K cl E ma) (lE X.K cl E mb))) : PE X e (lE X.K cl E (m2 f ma mb)) := PE.imp h l_op
theorem c_un {e : Expr} {f : V1} {ma : SE} (h : PE X e (tUn (w1 X.K cl E f) (lE X.K cl E ma))) : PE X e (lE X.K cl E (m1 f ma)) := by
  refine PE.imp h fun σ H Q h => ?_
  obtain ⟨ρ, env, S, rs, re, h⟩ := h
  refine lE_step rs re h fun x H1 ρ1 S1 a z1 g1 rs1 re1 ra h1 => ?_
  exact ⟨ρ1, S1, a, rs1, ra, h1⟩
theorem l_chain {f g : V2} {ma mb mc : SE} (σ : L2.St) (H : Hp) (Q : VK) (h : lE K cl E (mChain f g ma mb mc) σ H Q) : tChain (w2 K cl E f) (w2 K cl E g) (lE K cl E ma) (lE K cl E mb) (lE K cl E mc) σ H Q := by
  obtain ⟨ρ, env, S, rs, re, h⟩ := h
  refine lE_step rs re h fun x H1 ρ1 S1 a z1 g1 rs1 re1 ra h1 => ?_
  refine lE_step rs1 re1 h1 fun y H2 ρ2 S2 b z2 g2 rs2 re2 rb h2 => ?_
  refine ⟨ρ2, S2, a, b, rs2, ra.grow g2, rb, OKo.mono (OKo.bind h2) fun x3 H3 z3 ⟨ρ3, S3, c, g3, rs3, rc, h3⟩ => ?_⟩
  split at h3
  · cases rc.ofBl
    refine ⟨true, rfl, ?_⟩
    rw [if_pos rfl]
    refine lE_step rs3 (re2.grow g3) h3 fun y4 H4 ρ4 S4 d z4 g4 rs4 re4 rd h4 => ?_
    exact ⟨ρ4, S4, b, d, rs4, (rb.grow g3).grow g4, rd, h4⟩
  · cases rc.ofBl
    exact ⟨false, rfl, ok_val rs3 h3 RD.bl z3⟩
  · exact h3.elim
theorem c_chain {e : Expr} {f g : V2} {ma mb mc : SE} (h : PE X e (tChain (w2 X.K cl E f) (w2 X.K cl E g) (lE X.K cl E ma) (lE X.K cl E mb) (lE X.K cl E mc))) : PE X e (lE X.K cl E (mChain f g ma mb mc)) := PE.imp h l_chain
theorem c_tst {e : Expr} {t : TE} {ma : SE} (ht : PT X e (tTest t)) (hi : ∀ σ H Q, lE X.K cl E ma σ H Q → t σ H Q) : PT X e (lT X.K cl E (mTst ma)) := by
  refine PT.imp ht fun σ H Q h => ?_
  obtain ⟨ρ, env, S, rs, re, h⟩ := h
  refine hi σ H _ (lE_step rs re h fun x H1 ρ1 S1 a z1 g1 rs1 re1 ra h1 => ?_)
  split at h1
  · cases ra.ofBl
    exact ⟨_, rfl, h1 ρ1 H1 _ Grow.refl rs1 rfl z1⟩
  · exact h1.elim
theorem c_truth {e : Expr} {ma : SE} (ha : PE X e (lE X.K cl E ma)) (he : ∀ whole, isTrue e X.env whole = (do let v ← whole; standAt e.pos; holding [v] (truthy v))) : PT X e (lT X.K cl E (mTru ma)) := by
  refine PT.via (pt_truth ha he) fun σ H Q z h => ?_
  obtain ⟨ρ, env, S, rs, re, h⟩ := h
  refine lE_step rs re h fun x H1 ρ1 S1 a z1 g1 rs1 re1 ra h1 => ?_
  split at h1
  · rename_i k hk
    exact ⟨k, truD_at rs1 hk ra, h1 ρ1 H1 k Grow.refl rs1 rfl⟩
  · exact h1.elim
theorem c_notT {e : Expr} {pos : Pos} {t : ST} (h : PT X e (lT X.K cl E t)) : PT X (.UnaryOp .Not e pos) (lT X.K cl E (mNotT t)) := by
  refine PT.via (pt_not h) fun σ H Q z h => ?_
  obtain ⟨ρ, env, S, rs, re, h⟩ := h
  refine lT_step rs re h fun x H1 ρ1 S1 z1 g1 rs1 re1 h1 => ?_
  exact h1 ρ1 H1 (!x) Grow.refl rs1 rfl
theorem c_and1 {e : Expr} {pos : Pos} {t : ST} (h : PT X e (lT X.K cl E t)) : PW X (.BoolOp .And [e] pos) (lT X.K cl E t) := pw_and1 h
theorem c_or1 {e : Expr} {pos : Pos} {t : ST} (h : PT X e (lT X.K cl E t)) : PW X (.BoolOp .Or [e] pos) (lT X.K cl E t) := pw_or1 h
theorem PW.via {e : Expr} {t t' : TT} (h : PW X e t) (i : ∀ σ H Q, Siz H → t' σ H Q → t σ H (fun v H' => Siz H' → Q v H')) : PW X e t' :=
  ⟨fun w pins s σ H Q I q => thn (h.run w pins s σ H _ I (i σ H Q (siz_of I.hok) q)) fun v s' ⟨H', I', q'⟩ => ⟨H', I', q' (siz_of I'.hok)⟩⟩
theorem c_andT {a b : Expr} {rest : List Expr} {pos : Pos} {t u : ST} (h : PT X a (lT X.K cl E t)) (h' : PW X (.BoolOp .And (b :: rest) pos) (lT X.K cl E u)) : PW X (.BoolOp .And (a :: b :: rest) pos) (lT X.K cl E (mAndT t u)) := by
  refine PW.via (pw_and h h') fun σ H Q z h => ?_
  obtain ⟨ρ, env, S, rs, re, h⟩ := h
  refine lT_step rs re h fun x H1 ρ1 S1 z1 g1 rs1 re1 h1 => ?_
  cases x with
  | true =>
    rw [if_pos rfl] at h1 ⊢
    exact lT_is rs1 re1 (h1.mono fun _ _ _ q _ => q)
  | false => exact h1 ρ1 H1 false Grow.refl rs1 rfl
theorem c_orT {a b : Expr} {rest : List Expr} {pos : Pos} {t u : ST} (h : PT X a (lT X.K cl E t)) (h' : PW X (.BoolOp .Or (b :: rest) pos) (lT X.K cl E u)) : PW X (.BoolOp .Or (a :: b :: rest) pos) (lT X.K cl E (mOrT t u)) := by
  refine PW.via (pw_or h h') fun σ H Q z h => ?_
  obtain ⟨ρ, env, S, rs, re, h⟩ := h
  refine lT_step rs re h fun x H1 ρ1 S1 z1 g1 rs1 re1 h1 => ?_
  cases x with
  | true => exact h1 ρ1 H1 true Grow.refl rs1 rfl
  | false => exact lT_is rs1 re1 (h1.mono fun _ _ _ q _ => q)
theorem c_andV {a b : Expr} {rest : List Expr} {pos : Pos} {ma mb : SE} (h : PE X a (lE X.K cl E ma)) (h' : PE X (.BoolOp .And (b :: rest) pos) (lE X.K cl E mb)) : PE X (.BoolOp .And (a :: b :: rest) pos) (lE X.K cl E (mAndV ma mb)) := by
  refine PE.via (pe_and h h') fun σ H Q z h => ?_
  obtain ⟨ρ, env, S, rs, re, h⟩ := h
  refine lE_step rs re h fun x H1 ρ1 S1 a z1 g1 rs1 re1 ra h1 => ?_
  split at h1
  · cases ra.ofBl
    exact ⟨true, rfl, lE_is rs1 re1 (h1.mono fun _ _ _ q _ => q)⟩
  · cases ra.ofBl
    exact ⟨false, rfl, ok_val rs1 h1 RD.bl⟩
  · exact h1.elim
theorem c_orV {a b : Expr} {rest : List Expr} {pos : Pos} {ma mb : SE} (h : PE X a (lE X.K cl E ma)) (h' : PE X (.BoolOp .Or (b :: rest) pos) (lE X.K cl E mb)) : PE X (.BoolOp .Or (a :: b :: rest) pos) (lE X.K cl E (mOrV ma mb)) := by
  refine PE.via (pe_or h h') fun σ H Q z h => ?_
  obtain ⟨ρ, env, S, rs, re, h⟩ := h
  refine lE_step rs re h fun x H1 ρ1 S1 a z1 g1 rs1 re1 ra h1 => ?_
  split at h1
  · cases ra.ofBl
    exact ⟨true, rfl, ok_val rs1 h1 RD.bl⟩
  · cases ra.ofBl
    exact ⟨false, rfl, lE_is rs1 re1 (h1.mono fun _ _ _ q _ => q)⟩
  · exact h1.elim
theorem c_notV {a : Expr} {pos : Pos} {t : ST} (h : PT X a (lT X.K cl E t)) (h' : PE X (.UnaryOp .Not a pos) (fun σ H Q => lT X.K cl E t σ H fun k H1 => Q (.bl (!k)) H1)) : PE X (.UnaryOp .Not a pos) (lE X.K cl E (fun env S => (t env S).bind fun k S1 => .ok (.bl (!k)) S1)) := by
  refine PE.via h' fun σ H Q z h => ?_
  obtain ⟨ρ, env, S, rs, re, h⟩ := h
  refine lT_step rs re h fun x H1 ρ1 S1 z1 g1 rs1 re1 h1 => ?_
  exact ok_val rs1 h1 RD.bl
theorem c_if {c a b : Expr} {pos : Pos} {t : ST} {ma mb : SE} (hc : PT X c (lT X.K cl E t)) (ha : PE X a (lE X.K cl E ma)) (hb : PE X b (lE X.K cl E mb)) : PE X (.IfExp c a b pos) (lE X.K cl E (mIf t ma mb)) := by
  refine PE.via (pe_ifExp hc ha hb) fun σ H Q z h => ?_
  obtain ⟨ρ, env, S, rs, re, h⟩ := h
  refine lT_step rs re h fun x H1 ρ1 S1 z1 g1 rs1 re1 h1 => ?_
  cases x with
  | true => exact lE_is rs1 re1 (h1.mono fun _ _ _ q _ => q)
  | false => exact lE_is rs1 re1 (h1.mono fun _ _ _ q _ => q)
theorem c_nil : PA X [] (lA X.K cl E mNil) := by
  refine PA.via pa_nil fun σ H Q z h => ?_
  obtain ⟨ρ, env, S, rs, re, h⟩ := h
  exact h ρ H [] Grow.refl rs RDs.nil
theorem c_cons {e : Expr} {es : List Expr} {a : SE} {as : SA} (ha : PE X e (lE X.K cl E a)) (hr : PA X es (lA X.K cl E as)) (hs : starEach (e :: es) X.env = (false, eval e X.env) :: starEach es X.env) : PA X (e :: es) (lA X.K cl E (mCons a as)) := by
  refine PA.via (pa_cons ha hr hs) fun σ H Q z h => ?_
  obtain ⟨ρ, env, S, rs, re, h⟩ := h
  refine lE_step rs re h fun x H1 ρ1 S1 a z1 g1 rs1 re1 ra h1 => ?_
  refine lA_step rs1 re1 h1 fun xs H2 ρ2 S2 as z2 g2 rs2 re2 ras h2 => ?_
  exact h2 ρ2 H2 (x :: xs) Grow.refl rs2 (RDs.cons (ra.grow g2) ras)
theorem c_tup {es : List Expr} {k : Nat} {pos : Pos} {as : SA} (h : PA X es (lA X.K cl E as)) : PE X (.Tuple es k pos) (lE X.K cl E (mTup as)) := by
  have hsl := sizeLine_eq
  refine PE.via (pe_tup h) fun σ H Q z h => ?_
  obtain ⟨ρ, env, S, rs, re, h⟩ := h
  refine lA_step rs re h fun xs H1 ρ1 S1 a z1 g1 rs1 re1 ra h1 => ?_
  split at h1
  · rename_i hc
    have hc := Nat.le_of_ble_eq_true hc
    have l := ra.length
    exact ⟨by omega, tup_ok rs1 ra h1⟩
  · exact h1.elim
theorem c_lst {es : List Expr} {pos : Pos} {as : SA} {mt : Bool} (h : PA X es (lA X.K cl E as)) : PE X (.List es pos) (lE X.K cl E (mLst mt as)) := by
  have hsl := sizeLine_eq
  refine PE.via (pe_lst h) fun σ H Q z h => ?_
  obtain ⟨ρ, env, S, rs, re, h⟩ := h
  refine lA_step rs re h fun xs H1 ρ1 S1 a z1 g1 rs1 re1 ra h1 => ?_
  split at h1
  · rename_i hc
    have hc := Nat.le_of_ble_eq_true hc
    have l := ra.length
    exact ⟨by omega, mkL_ok rs1 ra h1⟩
  · exact h1.elim
theorem c_dic {pos : Pos} {t : Bool} : PE X (.Dict [] [] pos) (lE X.K cl E (mDic t)) := by
  cases t with
  | false =>
    refine PE.via pe_dnewK fun σ H Q z h => ?_
    obtain ⟨ρ, env, S, rs, re, h⟩ := h
    exact fun p np z => h (ρ.push p) _ _ (grow_new np) (rs.push np ⟨[], rfl, .nil⟩) (RD.newRef rs) z
  | true =>
    refine PE.via pe_dnewT fun σ H Q z h => ?_
    obtain ⟨ρ, env, S, rs, re, h⟩ := h
    exact fun p np z => h (ρ.push p) _ _ (grow_new np) (rs.push np ⟨[], rfl, .nil⟩) (RD.newRef rs) z
theorem c_callB {e : Expr} {f : VL} {as : SA} (h : PE X e (tCB (wL X.K cl E f) (lA X.K cl E as))) : PE X e (lE X.K cl E (mCall f as)) := by
  refine PE.imp h fun σ H Q h => ?_
  obtain ⟨ρ, env, S, rs, re, h⟩ := h
  refine lA_step rs re h fun xs H1 ρ1 S1 a z1 g1 rs1 re1 ra h1 => ?_
  exact ⟨ρ1, S1, a, rs1, ra, h1⟩
def RO : Rho → Hp → Option Int → Option Int → Prop := fun _ _ a b => a = b
def lO (K : PySem.W.Frag) (cl : Nat → Addr) (E : XK) (m : Option SE) : TO := fun σ H Q => ∃ ρ env S, RelS K ρ S H ∧ RelE K ρ H env σ ∧ OKo K cl E ρ H RO Q (intO m env S)
theorem po_n : PO X none (lO X.K cl E none) := by
  refine ⟨fun pins s σ H Q I q => po_none.run pins s σ H Q I ?_⟩
  obtain ⟨ρ, env, S, rs, re, h⟩ := q
  exact h ρ H none Grow.refl rs rfl (siz_of I.hok)
theorem po_s {e : Expr} {m : SE} (he : PE X e (lE X.K cl E m)) : PO X (some e) (lO X.K cl E (some m)) := by
  refine ⟨fun pins s σ H Q I q => (po_some he).run pins s σ H Q I ?_⟩
  obtain ⟨ρ, env, S, rs, re, h⟩ := q
  refine lE_step rs re h fun x H1 ρ1 S1 a z1 g1 rs1 re1 ra h1 => ?_
  split at h1
  · cases ra.ofInt
    exact ⟨_, rfl, h1 ρ1 H1 _ Grow.refl rs1 rfl z1⟩
  · exact h1.elim
theorem lO_step {m : Option SE} {γ δ : Type} {R2 : Rho → Hp → γ → δ → Prop} {Q2 : δ → Hp → Prop} {f : Option Int → Store → Out γ} {env : Env} (rs : RelS K ρ S H) (re : RelE K ρ H env σ) (h : OKo K cl E ρ H R2 Q2 ((intO m env S).bind f)) {P : Option Int → Hp → Prop}
    (k : ∀ x H1 ρ1 S1, Siz H1 → Grow ρ H ρ1 H1 → RelS K ρ1 S1 H1 → RelE K ρ1 H1 env σ → OKo K cl E ρ1 H1 R2 Q2 (f x S1) → P x H1) : lO K cl E m σ H P :=
  ⟨ρ, env, S, rs, re, OKo.mono (OKo.bind h) fun x H1 z ⟨ρ1, S1, a, g, rs1, ra, h1⟩ => by
    cases (show a = x from ra)
    exact k _ H1 ρ1 S1 z g rs1 (re.grow g) h1⟩
theorem c_sl {e : Expr} {lo hi : Option Expr} {p2 pos : Pos} {mt : Bool} {ma : SE} {ml mh : Option SE} (ha : PE X e (lE X.K cl E ma)) (hl : PO X lo (lO X.K cl E ml)) (hh : PO X hi (lO X.K cl E mh)) :
    PE X (.Subscript e (.Slice lo hi none p2) pos) (lE X.K cl E (mSl mt ma ml mh)) := by
  refine PE.imp (pe_slice (sr_cut (cl := cl) (E := E) (mt := mt)) ha hl hh) fun σ H Q h => ?_
  obtain ⟨ρ, env, S, rs, re, h⟩ := h
  refine lE_step rs re h fun x H1 ρ1 S1 a z1 g1 rs1 re1 ra h1 => ?_
  refine lO_step rs1 re1 h1 fun l H2 ρ2 S2 z2 g2 rs2 re2 h2 => ?_
  refine lO_step rs2 re2 h2 fun u H3 ρ3 S3 z3 g3 rs3 re3 h3 => ?_
  exact ⟨ρ3, S3, a, rs3, (ra.grow g2).grow g3, h3⟩

/-! ### defs -/
/-- what a def's function promises -/
def spM (K : PySem.W.Frag) (cl : Nat → Addr) (f : FSem) : Sp := fun vs H Q E => ∃ ρ S ds, RelS K ρ S H ∧ RDs K ρ H ds vs ∧ OKo K cl E ρ H (RD K) Q (f ds S)
/-- a def's promise, called where no object is being told -/
structure FnG (P : Program) (w : World) (K : PySem.W.Frag) (mg : Str → Option Value) (base : Heap) (k : Nat) (f : Addr) (fd : FuncData) (ps : List Str) (sp : Sp) : Prop where
  many : ∀ vs H Q E, sp vs H Q E → vs.length = ps.length
  does : ∀ (A : Around) (outer : List PySem.Env) (s : Shared) (H : Hp) (args : Args) (us : List Value) (vs : List V) (Q : VK) (E : XK), Room k A → A.guards = some [] → Env0 P w K mg base A outer s H → BindsTo s fd args (ps.zip us) → Vals vs us → sp vs H Q E →
    codeAny (model P w) A (.call (.ref f) args) (CR (L2.CX P w) outer P w H s Q E) s
theorem FnG.up {P : Program} {w : World} {K : PySem.W.Frag} {mg : Str → Option Value} {base : Heap} {j k : Nat} {f : Addr} {fd : FuncData} {ps : List Str} {sp : Sp} (F : FnG P w K mg base j f fd ps sp) (h : j ≤ k) : FnG P w K mg base k f fd ps sp :=
  ⟨F.many, fun A outer s H args us vs Q E hr => F.does A outer s H args us vs Q E (hr.mono h)⟩
/-- a def as its callers see it -/
structure Cal (P : Program) (w : World) (K : PySem.W.Frag) (mg : Str → Option Value) (base : Heap) (cl : Nat → Addr) (k : Nat) (x : Str) (f : FSem) : Prop where
  ex : ∃ (a : Addr) (fd : FuncData) (ps : List Str), FnG P w K mg base k a fd ps (spM K cl f) ∧ mg x = some (.ref a) ∧ PySem.W.keepIn K (.ref a) = true ∧ Binds K fd ps []
theorem Cal.mono {P : Program} {w : World} {mg : Str → Option Value} {base : Heap} {j k : Nat} {x : Str} {f : FSem} (C : Cal P w K mg base cl j x f) (h : j ≤ k) : Cal P w K mg base cl k x f :=
  ⟨let ⟨a, fd, ps, F, r⟩ := C.ex; ⟨a, fd, ps, F.up h, r⟩⟩
theorem c_call {x : Str} {p pos : Pos} {e : Expr} {es : List Expr} {as : SA} {k : Nat} {f : FSem} (C : Cal X.prog X.w X.K X.mg X.base cl k x f) (hr : Room k X.A) (hgd : X.A.guards = some []) (hg : Gl X x) (tk : Takes X (fun c d _ H => E c d H)) (ha : PA X (e :: es) (lA X.K cl E as))
    (hdb : (x == ("__debug__" : Str)) = false) (he : starEach (e :: es) X.env = (false, eval e X.env) :: starEach es X.env) (hpl : (backTo pos (starEach es X.env)).any (·.1) = false) :
    PE X (.Call (.Name x p) (e :: es) [] pos) (lE X.K cl E (mCall f as)) := by
  obtain ⟨a, fd, ps, F, hm, hk, hb⟩ := C.ex
  refine ⟨fun pins s σ H Q I h => ?_⟩
  obtain ⟨ρ, env, S, rs, re, h⟩ := h
  have hA := lA_step rs re h (P := fun vs H1 => spM X.K cl f vs H1 Q E) fun xs H1 ρ1 S1 ds z1 g1 rs1 re1 ra h1 => ⟨ρ1, S1, ds, rs1, ra, h1⟩
  refine wpAny_Call_Name_kw (ld_glob I hg hm ?_ hdb)
  refine PySem.W.callWith_K (h₀ := X.base) I.ok.mod.kin hk (thn (ha.run pos pins s σ H _ I hA) fun us s1 ⟨vs, H1, I1, r, q⟩ => ⟨I1.kIn, ?_⟩) he hpl
  have hl : us.length = ps.length := r.length.symm.trans (F.many _ _ _ _ q)
  have b := hb s1 us I1.kIn (by simpa using hl)
  simp only [List.append_nil] at b
  refine wpAny_call (codeAny_mono (F.does X.A X.stack s1 H1 ⟨us, []⟩ us vs Q E hr hgd I1.env0 b r q) fun res s2 hq => ?_)
  cases res with
  | ok fl => cases fl with
    | ret u => exact I1.after hq
    | next => exact (show False from hq).elim
    | brk => exact (show False from hq).elim
    | cont => exact (show False from hq).elim
  | error ev => exact passAt tk σ pins H1 s1 ev s2 I1 hq
end
end Mir
end

section
set_option Elab.async false
set_option linter.all false
set_option maxRecDepth 100000
/-! Mir6: targets, what is walked, comprehensions. -/
namespace Mir
open PySem PySem.Spec L2
section
variable {K : PySem.W.Frag} {cl : Nat → Addr} {E : XK} {ρ : Rho} {H : Hp} {S : Store} {σ : L2.St} {X : Cx} {ow : Option (List Nat)}

/-! ### targets -/
abbrev SG := D → Env → Store → Out Env
abbrev SGs := List D → Env → Store → Out Env
def RE (K : PySem.W.Frag) : Rho → Hp → Env → L2.St → Prop := fun ρ H env σ => RelE K ρ H env σ
/-- in a comprehension: only its own slots are changed -/
def WOk (ow : Option (List Nat)) (σ σ' : L2.St) : Prop := match ow with
  | none => True
  | some vs => wipe σ' vs = wipe σ vs
theorem WOk.refl {ow : Option (List Nat)} {σ : L2.St} : WOk ow σ σ := by
  cases ow with
  | none => trivial
  | some vs => exact rfl
theorem WOk.trans {ow : Option (List Nat)} {σ σ' σ'' : L2.St} (a : WOk ow σ σ') (b : WOk ow σ' σ'') : WOk ow σ σ'' := by
  cases ow with
  | none => trivial
  | some vs => exact Eq.trans (show wipe σ'' vs = wipe σ' vs from b) a
theorem wipe_get : ∀ (vs : List Nat) (σ : L2.St) (j : Nat), (wipe σ vs)[j]? = if j ∈ vs then σ[j]?.map (fun _ => none) else σ[j]?
  | [], σ, j => by simp [wipe]
  | v :: vs, σ, j => by
    unfold wipe
    by_cases hj : v = j
    · subst hj
      by_cases hl : v < (wipe σ vs).length
      · rw [List.getElem?_set_self hl]
        rw [wipe_length] at hl
        simp [List.getElem?_eq_getElem hl]
      · rw [List.getElem?_eq_none (by simpa using hl)]
        rw [wipe_length] at hl
        simp [List.getElem?_eq_none (Nat.not_lt.mp hl)]
    · rw [List.getElem?_set_ne hj, wipe_get vs σ j]
      have : (j ∈ v :: vs) ↔ j ∈ vs := by simp [Ne.symm hj]
      simp only [this]
theorem wipe_idem (σ : L2.St) (vs : List Nat) : wipe (wipe σ vs) vs = wipe σ vs := by
  apply List.ext_getElem?
  intro j
  rw [wipe_get, wipe_get]
  split
  · cases σ[j]? <;> rfl
  · rfl
theorem wipe_set {σ : L2.St} {vs : List Nat} {i : Nat} {x : Option V} (hi : i ∈ vs) : wipe (σ.set i x) vs = wipe σ vs := by
  apply List.ext_getElem?
  intro j
  rw [wipe_get, wipe_get]
  by_cases hj : i = j
  · subst hj
    rw [if_pos hi, if_pos hi]
    by_cases hl : i < σ.length
    · rw [List.getElem?_set_self hl, List.getElem?_eq_getElem hl]; rfl
    · rw [List.getElem?_eq_none (by simpa using hl), List.getElem?_eq_none (Nat.not_lt.mp hl)]
  · rw [List.getElem?_set_ne hj]
def lG (K : PySem.W.Frag) (cl : Nat → Addr) (E : XK) (ow : Option (List Nat)) (g : SG) : TG := fun v σ H Q => ∃ ρ env S d, RelS K ρ S H ∧ RelE K ρ H env σ ∧ RD K ρ H d v ∧ OKo K cl E ρ H (RE K) (fun σ' H' => WOk ow σ σ' → Q σ' H') (g d env S)
def lGs (K : PySem.W.Frag) (cl : Nat → Addr) (E : XK) (ow : Option (List Nat)) (g : SGs) : TGs := fun vs σ H Q => ∃ ρ env S ds, RelS K ρ S H ∧ RelE K ρ H env σ ∧ RDs K ρ H ds vs ∧ OKo K cl E ρ H (RE K) (fun σ' H' => WOk ow σ σ' → Q σ' H') (g ds env S)
def gSet (i : Nat) : SG := fun d env S => .ok (env.set i (some d)) S
def gNone : SGs := fun ds env S => match ds with
  | [] => .ok env S
  | _ => .bad
def gMore (g : SG) (gs : SGs) : SGs := fun ds env S => match ds with
  | d :: r => (g d env S).bind fun env1 S1 => gs r env1 S1
  | [] => .bad
def gTupD (n : Nat) (gs : SGs) : SG := fun d env S => match d with
  | .tup ds => if ds.length = n then gs ds env S else .bad
  | _ => .bad
theorem PG.imp {e : Expr} {t t' : TG} (h : PG X e t) (i : ∀ v σ H Q, Siz H → t' v σ H Q → t v σ H fun σ' H' => Siz H' → Q σ' H') : PG X e t' :=
  ⟨fun pins s σ H v u Q I r q => thn (h.run pins s σ H v u _ I r (i v σ H Q (siz_of I.hok) q)) fun _ s' ⟨σ', H', I', q'⟩ => ⟨σ', H', I', q' (siz_of I'.hok)⟩⟩
theorem PGs.imp {e : List Expr} {t t' : TGs} (h : PGs X e t) (i : ∀ v σ H Q, Siz H → t' v σ H Q → t v σ H fun σ' H' => Siz H' → Q σ' H') : PGs X e t' :=
  ⟨fun pins s σ H v u Q I r q => thn (h.run pins s σ H v u _ I r (i v σ H Q (siz_of I.hok) q)) fun _ s' ⟨σ', H', I', q'⟩ => ⟨σ', H', I', q' (siz_of I'.hok)⟩⟩
theorem RelE.set {env : Env} {i : Nat} {d : D} {v : V} (re : RelE K ρ H env σ) (r : RD K ρ H d v) : RelE K ρ H (env.set i (some d)) (σ.set i (some v)) := by
  refine ⟨by simp [re.1], fun j e h => ?_⟩
  by_cases hj : i = j
  · subst hj
    have hl : i < (env.set i (some d)).length := (List.getElem?_eq_some_iff.mp h).1
    rw [List.length_set] at hl
    rw [List.getElem?_set_self hl] at h
    cases h
    exact ⟨v, List.getElem?_set_self (by rw [← re.1]; exact hl), r⟩
  · rw [List.getElem?_set_ne hj] at h ⊢
    exact re.2 j e h
theorem g_name {i : Nat} {x : Str} {pos : Pos} (hN : X.N.Nodup) (hi : X.N[i]? = some x) (hx : Loc X.env.scope x) (hf : X.fn x = true ∨ X.env.scope.names.lookup x = some .local) (ho : ∀ vs, ow = some vs → i ∈ vs) : PG X (.Name x pos) (lG X.K cl E ow (gSet i)) := by
  refine PG.imp (pg_name hN hi hx hf) fun v σ H Q z h => ?_
  obtain ⟨ρ, env, S, d, rs, re, r, h⟩ := h
  refine fun z' => h ρ H _ Grow.refl rs (re.set r) z' ?_
  cases ow with
  | none => trivial
  | some vs => exact wipe_set (ho vs rfl)
theorem g_nil : PGs X [] (lGs X.K cl E ow gNone) := by
  refine PGs.imp pgs_nil fun v σ H Q z h => ?_
  obtain ⟨ρ, env, S, ds, rs, re, r, h⟩ := h
  unfold gNone at h
  split at h
  · unfold RDs at r
    exact ⟨r, fun z' => h ρ H σ Grow.refl rs re z' WOk.refl⟩
  · exact h.elim
theorem g_cons {e : Expr} {es : List Expr} {g : SG} {gs : SGs} (h1 : PG X e (lG X.K cl E ow g)) (h2 : PGs X es (lGs X.K cl E ow gs)) (hs : (assignEach (e :: es) X.env).map (·.2) = assign e X.env :: (assignEach es X.env).map (·.2)) : PGs X (e :: es) (lGs X.K cl E ow (gMore g gs)) := by
  refine PGs.imp (pgs_cons h1 h2 hs) fun v σ H Q z h => ?_
  obtain ⟨ρ, env, S, ds, rs, re, r, h⟩ := h
  unfold gMore at h
  split at h
  · rename_i d ds
    unfold RDs at r
    obtain ⟨v, vs, rfl, r1, r2⟩ := r
    refine ⟨v, vs, rfl, ρ, env, S, d, rs, re, r1, OKo.mono (OKo.bind h) fun σ1 H1 z1 ⟨ρ1, S1, env1, g1, rs1, re1, h1⟩ => ?_⟩
    exact fun w1 => ⟨ρ1, env1, S1, ds, rs1, re1, r2.grow g1, h1.mono fun _ _ _ q w2 _ => q (w1.trans w2)⟩
  · exact h.elim
theorem g_tup {es : List Expr} {k : Nat} {pos : Pos} {gs : SGs} {n : Nat} (hc : X.calm = true) (h : PGs X es (lGs X.K cl E ow gs)) (hn : (assignEach es X.env).length = n) (hst : (assignEach es X.env).findIdx? (·.1) = none) : PG X (.Tuple es k pos) (lG X.K cl E ow (gTupD n gs)) := by
  refine PG.imp (pg_tup hc h hn hst) fun v σ H Q z h => ?_
  obtain ⟨ρ, env, S, d, rs, re, r, h⟩ := h
  unfold gTupD at h
  split at h
  · split at h
    · rename_i ds hl
      obtain ⟨a, vs, rfl, hs, q⟩ := r.tupT
      exact ⟨a, vs, rfl, hs, by rw [← q.length]; exact hl, ρ, env, S, ds, rs, re, q, h.mono fun _ _ _ q w _ => q w⟩
    · exact h.elim
  · exact h.elim
def gSubD (o i : SE) : SG := fun d env S => (o env S).bind fun c S1 => (i env S1).bind fun k S2 => (vSet c k d S2).bind fun _ S3 => .ok env S3
theorem g_sub {o i : Expr} {pos : Pos} {mo mi : SE} (hu : X.A.units + 1 < cLine) (ho : PE X o (lE X.K cl E mo)) (hi : PE X i (lE X.K cl E mi)) (ha : ∀ v, assign (.Subscript o i pos) X.env v = (do
      let ov ← holding [v] (eval o X.env)
      let iv ← holding [v, ov] (eval i X.env)
      standAt pos
      holding [v, ov, iv] (setItem ov iv v)
      release [v, ov, iv] [])) : PG X (.Subscript o i pos) (lG X.K cl E ow (gSubD mo mi)) := by
  refine PG.imp (pg_sub ho hi (sr_set (cl := cl) (E := E) hu) ha) fun v σ H Q z h => ?_
  obtain ⟨ρ, env, S, d, rs, re, r, h⟩ := h
  refine lE_step rs re h fun x H1 ρ1 S1 c z1 g1 rs1 re1 rc h1 => ?_
  refine lE_step rs1 re1 h1 fun y H2 ρ2 S2 k z2 g2 rs2 re2 rk h2 => ?_
  refine ⟨ρ2, S2, c, k, d, rs2, rc.grow g2, rk, (r.grow g1).grow g2, OKo.mono (OKo.bind h2) fun _ H3 z3 ⟨ρ3, S3, _, g3, rs3, _, h3⟩ => ?_⟩
  exact fun z' => h3 ρ3 H3 σ Grow.refl rs3 (re2.grow g3) z' WOk.refl

/-! ### what is walked -/
structure Src where
  len : Nat
  get : Nat → Store → Option D
  fin : Store → Bool
def Src.items (ds : List D) : Src := ⟨ds.length, fun i _ => ds[i]?, fun _ => true⟩
def Src.live (n len : Nat) : Src := ⟨len, fun i S => match S[n]? with
  | some (.lst xs) => if xs.length = len then xs[i]? else none
  | _ => none, fun S => match S[n]? with
  | some (.lst xs) => decide (xs.length = len)
  | _ => false⟩
/-- an iterator gives what a source says -/
def Serves0 (K : PySem.W.Frag) (J : It) (s : Src) (ρ : Rho) (H : Hp) : Prop := ∀ ρ1 H1 S1, Grow ρ H ρ1 H1 → RelS K ρ1 S1 H1 →
  (∀ i d, i < s.len → s.get i S1 = some d → J.go i H1 ∧ ∀ x H2, J.yld i H1 x H2 → Grow ρ1 H1 ρ1 H2 ∧ RelS K ρ1 S1 H2 ∧ RD K ρ1 H2 d x) ∧ (s.fin S1 = true → J.stop s.len H1)
/-- a hidden object is let go, or nothing -/
inductive Shr (ρ : Rho) (H : Hp) : Rho → Hp → Prop
  | refl : Shr ρ H ρ H
  | one {p : Addr} (h : p ∈ ρ.h) : Shr ρ H (ρ.shw p) (del H p)
theorem RD.shr {K : PySem.W.Frag} {ρ ρ0 : Rho} {H H0 : Hp} (h : Shr ρ H ρ0 H0) {d : D} {v : V} (r : RD K ρ H d v) : RD K ρ0 H0 d v := by
  cases h with
  | refl => exact r
  | one h => exact r.shw h
theorem RelS.shr {K : PySem.W.Frag} {ρ ρ0 : Rho} {H H0 : Hp} (h : Shr ρ H ρ0 H0) {S : Store} (r : RelS K ρ S H) : RelS K ρ0 S H0 := by
  cases h with
  | refl => exact r
  | one h => exact r.shw h
def Serves (K : PySem.W.Frag) (J : It) (s : Src) (ρ : Rho) (H : Hp) : Prop := ∀ ρ0 H0, Shr ρ H ρ0 H0 → Serves0 K J s ρ0 H0
def lI (K : PySem.W.Frag) (cl : Nat → Addr) (E : XK) (m : Env → Store → Out Src) : TI := fun σ H R => ∃ ρ env S, RelS K ρ S H ∧ RelE K ρ H env σ ∧ OKo K cl E ρ H (fun ρ H s J => Serves K J s ρ H) R (m env S)
theorem PI.imp {tg e : Expr} {t t' : TI} (h : PI X tg e t) (i : ∀ σ H R, Siz H → t' σ H R → t σ H fun J H' => Siz H' → R J H') : PI X tg e t' :=
  ⟨fun pins s σ H R I q => thn (h.run pins s σ H _ I (i σ H R (siz_of I.hok) q)) fun _ _ h1 => thn h1 fun _ s2 ⟨it, fp, tn, J, H', e, I', T, t0, f, r⟩ => ⟨it, fp, tn, J, H', e, I', T, t0, f, r (siz_of I'.hok)⟩⟩
theorem serves0_tup {ds : List D} {v : V} (r : RD K ρ H (.tup ds) v) : ∃ a, v = .ref a ∧ (∃ xs, SqT K H a xs) ∧ Serves0 K (Itt K a) (.items ds) ρ H := by
  unfold RD at r
  obtain ⟨a, vs, rfl, h, q⟩ := r
  refine ⟨a, rfl, ⟨vs, SqT.of h.1⟩, fun ρ1 H1 S1 g rs => ?_⟩
  have h1 := at_grow g h
  have q1 := q.grow g
  refine ⟨fun i d hi hd => ?_, fun _ => ⟨vs, SqT.of h1.1, by rw [← q.length]; exact Nat.le_refl _⟩⟩
  obtain ⟨v, hv, rv⟩ := q1.get (show ds[i]? = some d from hd)
  refine ⟨⟨vs, v, SqT.of h1.1, hv⟩, fun x H2 y => ?_⟩
  obtain ⟨e, y⟩ := y
  subst e
  have e2 := y vs (SqT.of h1.1)
  rw [hv] at e2
  cases e2
  exact ⟨Grow.refl, rs, rv⟩
theorem serves0_lst {ds : List D} {v : V} (r : RD K ρ H (.lst ds) v) : ∃ a, v = .ref a ∧ (∃ xs, SqL K H a xs) ∧ Serves0 K (Itl K a) (.items ds) ρ H := by
  unfold RD at r
  obtain ⟨a, vs, rfl, h, q⟩ := r
  refine ⟨a, rfl, ⟨vs, SqL.of h.1⟩, fun ρ1 H1 S1 g rs => ?_⟩
  have h1 := at_grow g h
  have q1 := q.grow g
  refine ⟨fun i d hi hd => ?_, fun _ => ⟨vs, SqL.of h1.1, by rw [← q.length]; exact Nat.le_refl _⟩⟩
  obtain ⟨v, hv, rv⟩ := q1.get (show ds[i]? = some d from hd)
  refine ⟨⟨vs, v, SqL.of h1.1, hv⟩, fun x H2 y => ?_⟩
  obtain ⟨e, y⟩ := y
  subst e
  have e2 := y vs (SqL.of h1.1)
  rw [hv] at e2
  cases e2
  exact ⟨Grow.refl, rs, rv⟩
theorem serves0_live {n : Nat} {xs : List D} {v : V} (rs : RelS K ρ S H) (hS : S[n]? = some (.lst xs)) (r : RD K ρ H (.ref n) v) : ∃ a, v = .ref a ∧ (∃ xs, SqL K H a xs) ∧ Serves0 K (Itl K a) (.live n xs.length) ρ H := by
  unfold RD at r
  obtain ⟨a, rfl, hn⟩ := r
  obtain ⟨o, e, vs, rfl, q⟩ := rs.ob n a _ hn hS
  refine ⟨a, rfl, ⟨vs, SqL.of e⟩, fun ρ1 H1 S1 g rs1 => ?_⟩
  have hn1 := g.ix hn
  refine ⟨fun i d hi hd => ?_, fun hf => ?_⟩
  · simp only [Src.live] at hd
    split at hd
    · rename_i ys hS1
      split at hd
      · obtain ⟨o, e1, vs1, rfl, q1⟩ := rs1.ob n a _ hn1 hS1
        obtain ⟨v, hv, rv⟩ := q1.get hd
        refine ⟨⟨vs1, v, SqL.of e1, hv⟩, fun x H2 y => ?_⟩
        obtain ⟨e, y⟩ := y
        subst e
        have e2 := y vs1 (SqL.of e1)
        rw [hv] at e2
        cases e2
        exact ⟨Grow.refl, rs1, rv⟩
      · cases hd
    · cases hd
  · simp only [Src.live] at hf
    split at hf
    · rename_i ys hS1
      obtain ⟨o, e1, vs1, rfl, q1⟩ := rs1.ob n a _ hn1 hS1
      exact ⟨vs1, SqL.of e1, by rw [← q1.length, of_decide_eq_true hf]; exact Nat.le_refl _⟩
    · cases hf
def rangeD (lo : Int) (n : Nat) : List D := (List.range n).map fun i : Nat => D.int (lo + (i : Int))
theorem serves0_range {lo : Int} {n : Nat} : Serves0 K (Itr lo n) (.items (rangeD lo n)) ρ H := by
  intro ρ1 H1 S1 g rs
  have hl : (rangeD lo n).length = n := by simp [rangeD]
  refine ⟨fun i d hi hd => ?_, fun _ => by show n ≤ (rangeD lo n).length; omega⟩
  have hi : i < n := by
    have : i < (rangeD lo n).length := hi
    omega
  refine ⟨hi, fun x H2 y => ?_⟩
  obtain ⟨e, y⟩ := y
  subst e; subst y
  have e2 : (rangeD lo n)[i]? = some (.int (lo + (i : Nat))) := by
    unfold rangeD
    rw [List.getElem?_map, List.getElem?_range hi]
    rfl
  rw [show (rangeD lo n)[i]? = some d from hd] at e2
  cases e2
  exact ⟨Grow.refl, rs, RD.int⟩
theorem serves_tup {ds : List D} {v : V} (r : RD K ρ H (.tup ds) v) : ∃ a, v = .ref a ∧ (∃ xs, SqT K H a xs) ∧ Serves K (Itt K a) (.items ds) ρ H := by
  obtain ⟨a, rfl, h, _⟩ := serves0_tup r
  refine ⟨a, rfl, h, fun ρ0 H0 sh => ?_⟩
  obtain ⟨b, e, _, z⟩ := serves0_tup (r.shr sh)
  cases e
  exact z
theorem serves_lst {ds : List D} {v : V} (r : RD K ρ H (.lst ds) v) : ∃ a, v = .ref a ∧ (∃ xs, SqL K H a xs) ∧ Serves K (Itl K a) (.items ds) ρ H := by
  obtain ⟨a, rfl, h, _⟩ := serves0_lst r
  refine ⟨a, rfl, h, fun ρ0 H0 sh => ?_⟩
  obtain ⟨b, e, _, z⟩ := serves0_lst (r.shr sh)
  cases e
  exact z
theorem serves_live {n : Nat} {xs : List D} {v : V} (rs : RelS K ρ S H) (hS : S[n]? = some (.lst xs)) (r : RD K ρ H (.ref n) v) : ∃ a, v = .ref a ∧ (∃ xs, SqL K H a xs) ∧ Serves K (Itl K a) (.live n xs.length) ρ H := by
  obtain ⟨a, rfl, h, _⟩ := serves0_live rs hS r
  refine ⟨a, rfl, h, fun ρ0 H0 sh => ?_⟩
  obtain ⟨b, e, _, z⟩ := serves0_live (rs.shr sh) hS (r.shr sh)
  cases e
  exact z
theorem serves_range {lo : Int} {n : Nat} : Serves K (Itr lo n) (.items (rangeD lo n)) ρ H := fun _ _ _ => serves0_range
/-- a value that is walked -/
def srcOf (S : Store) : D → Option Src
  | .tup ds => some (.items ds)
  | .lst ds => some (.items ds)
  | .ref n => match S[n]? with
    | some (.lst xs) => some (.live n xs.length)
    | _ => none
  | _ => none
def mSrc (a : SE) : Env → Store → Out Src := fun env S => (a env S).bind fun x S1 => match srcOf S1 x with
  | some s => .ok s S1
  | none => .bad
theorem pi_value {tg e : Expr} {te : TE} (he : PE X e te) : PI X tg e (fun σ H R => te σ H fun x H1 => ∃ a, x = .ref a ∧ (((∃ xs, SqL X.K H1 a xs) ∧ R (Itl X.K a) H1) ∨ ((∃ xs, SqT X.K H1 a xs) ∧ R (Itt X.K a) H1))) := by
  refine ⟨fun pins s σ H R I h => thn (he.run pins s σ H _ I h) fun v s1 ⟨x, H1, I1, r1, a, e, q⟩ => ?_⟩
  subst e
  cases (show v = Value.ref a from r1)
  have fr : ∀ b ∈ [s1.heap.objs.size], FpOk X pins H1 b := fun b hb => by
    rw [List.mem_singleton.mp hb]
    exact I1.fpOk (Nat.le_refl _) (I1.hok.fresh (Nat.le_refl _))
  rcases q with ⟨⟨xs, hq⟩, q⟩ | ⟨⟨xs, hq⟩, q⟩
  · obtain ⟨its, rv, p, _⟩ := I1.list hq
    exact wpAny_pyIter_list p.isList ⟨_, _, _, _, H1, rfl, I1.kept (t' := s1.toks) fun b o e => Heap.get?_push_of_some _ e, turn_list a _, ⟨_, Heap.get?_push_size _ rfl, rfl, rfl⟩, fr, q⟩
  · obtain ⟨its, rv, p, _⟩ := I1.tuple hq
    exact wpAny_pyIter_tuple (show s1.heap.IsTuple a its.toArray from p) ⟨_, _, _, _, H1, rfl, I1.kept (t' := s1.toks) fun b o e => Heap.get?_push_of_some _ e, turn_tuple a _, ⟨_, Heap.get?_push_size _ rfl, rfl, rfl⟩, fr, q⟩
theorem i_value {tg e : Expr} {ma : SE} (he : PE X e (lE X.K cl E ma)) : PI X tg e (lI X.K cl E (mSrc ma)) := by
  refine PI.imp (pi_value he) fun σ H R z h => ?_
  obtain ⟨ρ, env, S, rs, re, h⟩ := h
  refine lE_step rs re h fun x H1 ρ1 S1 d z1 g1 rs1 re1 rd h1 => ?_
  split at h1
  · rename_i sr hs
    unfold srcOf at hs
    split at hs
    · cases hs
      obtain ⟨a, e, hq, sv⟩ := serves_tup rd
      exact ⟨a, e, .inr ⟨hq, h1 ρ1 H1 _ Grow.refl rs1 sv⟩⟩
    · cases hs
      obtain ⟨a, e, hq, sv⟩ := serves_lst rd
      exact ⟨a, e, .inl ⟨hq, h1 ρ1 H1 _ Grow.refl rs1 sv⟩⟩
    · split at hs
      · rename_i xs hS
        cases hs
        obtain ⟨a, e, hq, sv⟩ := serves_live rs1 hS rd
        exact ⟨a, e, .inl ⟨hq, h1 ρ1 H1 _ Grow.refl rs1 sv⟩⟩
      · cases hs
    · cases hs
  · exact h1.elim
def rngOk (i : Int) : Bool := decide (-4611686018427387904 ≤ i) && decide (i < 4611686018427387904)
def mRange1 (as : SA) : Env → Store → Out Src := fun env S => (as env S).bind fun xs S1 => match xs with
  | [.int j] => if rngOk j then .ok (.items (rangeD 0 j.toNat)) S1 else .bad
  | _ => .bad
def mRange2 (as : SA) : Env → Store → Out Src := fun env S => (as env S).bind fun xs S1 => match xs with
  | [.int i, .int j] => if rngOk i && rngOk j then .ok (.items (rangeD i (j - i).toNat)) S1 else .bad
  | _ => .bad
theorem rngOk_ok {i : Int} (h : rngOk i = true) : -(2 ^ 62) ≤ i ∧ i < 2 ^ 62 := by
  unfold rngOk at h
  simp only [Bool.and_eq_true, decide_eq_true_eq] at h
  omega
theorem i_range1 {tg a : Expr} {p pos : Pos} {as : SA} (hg : Gl X "range") (hm : X.mg "range" = none) (ha : PA X [a] (lA X.K cl E as)) (hs : starEach [a] X.env = [(false, eval a X.env)]) : PI X tg (.Call (.Name "range" p) [a] [] pos) (lI X.K cl E (mRange1 as)) := by
  refine PI.imp (pi_range1 hg hm ha hs) fun σ H R z h => ?_
  obtain ⟨ρ, env, S, rs, re, h⟩ := h
  refine lA_step rs re h fun xs H1 ρ1 S1 ds z1 g1 rs1 re1 rd h1 => ?_
  split at h1
  · split at h1
    · rename_i hr
      obtain ⟨v, rfl, r⟩ := rd.one
      cases r.ofInt
      obtain ⟨b1, b2⟩ := rngOk_ok hr
      exact ⟨_, rfl, b1, b2, h1 ρ1 H1 _ Grow.refl rs1 serves_range⟩
    · exact h1.elim
  · exact h1.elim
theorem i_range2 {tg a b : Expr} {p pos : Pos} {as : SA} (hg : Gl X "range") (hm : X.mg "range" = none) (ha : PA X [a, b] (lA X.K cl E as)) (hs : starEach [a, b] X.env = [(false, eval a X.env), (false, eval b X.env)]) (hs2 : starEach [b] X.env = [(false, eval b X.env)]) :
    PI X tg (.Call (.Name "range" p) [a, b] [] pos) (lI X.K cl E (mRange2 as)) := by
  refine PI.imp (pi_range2 hg hm ha hs hs2) fun σ H R z h => ?_
  obtain ⟨ρ, env, S, rs, re, h⟩ := h
  refine lA_step rs re h fun xs H1 ρ1 S1 ds z1 g1 rs1 re1 rd h1 => ?_
  split at h1
  · split at h1
    · rename_i hr
      rw [Bool.and_eq_true] at hr
      obtain ⟨v, u, rfl, r, r'⟩ := rd.two
      cases r.ofInt; cases r'.ofInt
      obtain ⟨b1, b2⟩ := rngOk_ok hr.1
      obtain ⟨b3, b4⟩ := rngOk_ok hr.2
      exact ⟨_, _, rfl, ⟨b1, b2, b3, b4⟩, h1 ρ1 H1 _ Grow.refl rs1 serves_range⟩
    · exact h1.elim
  · exact h1.elim

/-! ### list comprehensions -/
/-- what is made of the items that are left -/
def compL (get : Nat → Store → Option D) (fin : Store → Bool) (f : D → Store → Out (Option D)) : Nat → Nat → Store → Out (List D)
  | 0, _, S => if fin S then .ok [] S else .bad
  | k + 1, i, S => match get i S with
    | some d => match f d S with
      | .ok o S1 => match compL get fin f k (i + 1) S1 with
        | .ok ys S2 => .ok (o.toList ++ ys) S2
        | _ => .bad
      | _ => .bad
    | none => .bad
def wipeE (env : Env) : List Nat → Env
  | [] => env
  | v :: vs => (wipeE env vs).set v none
/-- one item: the target, the tests, the element -/
def mElt (own : List Nat) (g : SG) (t : ST) (e : SE) (env : Env) (d : D) (S : Store) : Out (Option D) :=
  (g d (wipeE env own) S).bind fun env1 S1 => (t env1 S1).bind fun c S2 => if c then (e env1 S2).bind fun y S3 => .ok (some y) S3 else .ok none S2
def mLC (own : List Nat) (mt : Bool) (src : Env → Store → Out Src) (g : SG) (t : ST) (e : SE) : SE := fun env S => (src env S).bind fun s S1 =>
  if Nat.ble s.len 16777216 then (match compL s.get s.fin (mElt own g t e env) s.len 0 S1 with
  | .ok ys S2 => mkL mt ys S2
  | _ => .bad) else .bad
theorem wipeE_get : ∀ (vs : List Nat) (σ : Env) (j : Nat), (wipeE σ vs)[j]? = if j ∈ vs then σ[j]?.map (fun _ => none) else σ[j]?
  | [], σ, j => by simp [wipeE]
  | v :: vs, σ, j => by
    unfold wipeE
    by_cases hj : v = j
    · subst hj
      by_cases hl : v < (wipeE σ vs).length
      · rw [List.getElem?_set_self hl]
        have hl2 : v < σ.length := by
          have h := wipeE_get vs σ v
          rw [List.getElem?_eq_getElem hl] at h
          by_cases q : v < σ.length
          · exact q
          · rw [List.getElem?_eq_none (Nat.not_lt.mp q)] at h
            split at h <;> cases h
        simp [List.getElem?_eq_getElem hl2]
      · rw [List.getElem?_eq_none (by simpa using hl)]
        have h := wipeE_get vs σ v
        rw [List.getElem?_eq_none (by simpa using hl)] at h
        have hn : σ[v]? = none := by
          cases q : σ[v]? with
          | none => rfl
          | some x => rw [q] at h; split at h <;> cases h
        simp [hn]
    · rw [List.getElem?_set_ne hj, wipeE_get vs σ j]
      have : (j ∈ v :: vs) ↔ j ∈ vs := by simp [Ne.symm hj]
      simp only [this]
theorem wipeE_length (env : Env) : ∀ vs, (wipeE env vs).length = env.length
  | [] => rfl
  | v :: vs => by unfold wipeE; rw [List.length_set, wipeE_length env vs]
theorem RelE.wipe {env : Env} (re : RelE K ρ H env σ) (vs : List Nat) : RelE K ρ H (wipeE env vs) (L2.wipe σ vs) := by
  refine ⟨by rw [wipeE_length, wipe_length]; exact re.1, fun i d h => ?_⟩
  rw [wipeE_get] at h
  rw [wipe_get]
  split at h
  · cases q : env[i]? with
    | none => rw [q] at h; cases h
    | some x => rw [q] at h; cases h
  · rename_i hn
    rw [if_neg hn]
    exact re.2 i d h
/-- what is left of the walk, to be put behind what is made -/
def compW (mt : Bool) (r : Out (List D)) (acc : List D) : Out D := match r with
  | .ok ys S2 => mkL mt (acc ++ ys) S2
  | _ => .bad
theorem l_lc {mt : Bool} {vs : List Nat} {src : Env → Store → Out Src} {g : SG} {t : ST} {e : SE} (σ : L2.St) (H : Hp) (Q : VK) (h : lE K cl E (mLC vs mt src g t e) σ H Q) :
    tLc (lI K cl E src) (lG K cl E0 (some vs) g) (lT K cl E0 t) (lE K cl E0 e) vs σ H (fun v H' => Siz H' → Q v H') := by
  have hsl := sizeLine_eq
  obtain ⟨ρ, env, S, rs, re, h⟩ := h
  refine ⟨ρ, env, S, rs, re, OKo.mono (OKo.bind h) fun J H1 z1 ⟨ρ1, S1, s, g1, rs1, sv, h1⟩ => ?_⟩
  clear h
  have hle : s.len ≤ 16777216 := by
    cases q : Nat.ble s.len 16777216 with
    | true => exact Nat.le_of_ble_eq_true q
    | false => rw [q] at h1; exact h1.elim
  rw [if_pos (Nat.ble_eq_true_of_le hle)] at h1
  intro p np
  have re1 := re.grow g1
  refine ⟨fun i m H2 => ∃ ρ2 S2 G acc ws, H2 = upd G p (.lst ws) ∧ G p = none ∧ Grow ρ1 H1 ρ2 G ∧ RelS K ρ2 S2 G ∧ RDs K ρ2 G acc ws ∧ ws.length ≤ i ∧ m = s.len - i ∧ i ≤ s.len ∧ OKo K cl E ρ2 G (RD K) Q (compW mt (compL s.get s.fin (mElt vs g t e env) (s.len - i) i S2) acc),
    ⟨s.len, ρ1, S1, H1, [], [], rfl, np, Grow.refl, rs1, RDs.nil, Nat.le_refl _, by simp, Nat.zero_le _, ?_⟩, ?_⟩
  · unfold compW
    simp only [List.nil_append, Nat.sub_zero]
    exact h1
  · rintro i m H2 ⟨ρ2, S2, G, acc, ws, rfl, nG, g2, rs2, ra, hwl, rfl, hi2, hq⟩
    have g2' : Grow ρ1 H1 (ρ2.hide p) (upd G p (.lst ws)) := g2.trans (grow_hide nG)
    have rs2' : RelS K (ρ2.hide p) S2 (upd G p (.lst ws)) := rs2.hide nG ntab_lst
    have nh : p ∉ ρ2.h := fun z => rs2.fresh nG (List.mem_append_right _ z)
    obtain ⟨sv1, sv2⟩ := sv _ _ .refl (ρ2.hide p) _ S2 g2' rs2'
    by_cases hlt : i < s.len
    · refine .inr ?_
      have hk : s.len - i = (s.len - (i + 1)) + 1 := by omega
      rw [hk] at hq
      unfold compL at hq
      cases hget : s.get i S2 with
      | none => rw [hget] at hq; exact hq.elim
      | some d =>
        rw [hget] at hq
        obtain ⟨go, yld⟩ := sv1 i d hlt hget
        refine ⟨go, fun H3 => ∃ ρ2 S2 G acc ws, H3 = upd G p (.lst ws) ∧ G p = none ∧ Grow ρ1 H1 ρ2 G ∧ RelS K ρ2 S2 G ∧ RDs K ρ2 G acc ws ∧ ws.length ≤ i + 1 ∧ OKo K cl E ρ2 G (RD K) Q (compW mt (compL s.get s.fin (mElt vs g t e env) (s.len - (i + 1)) (i + 1) S2) acc),
          fun H3 ⟨ρ3, S3, G3, acc3, ws3, e1, e2, e3, e4, e5, el, e6⟩ => ⟨s.len - (i + 1), by omega, ρ3, S3, G3, acc3, ws3, e1, e2, e3, e4, e5, el, rfl, hlt, e6⟩, fun x H3 y => ?_⟩
        obtain ⟨gy, rsy, ry⟩ := yld x H3 y
        -- the end of a turn: what is hidden is shown again
        have back : ∀ {ρ4 : Rho} {H4 : Hp} {S4 : Store}, Grow (ρ2.hide p) (upd G p (.lst ws)) ρ4 H4 → RelS K ρ4 S4 H4 → H4 p = some (.lst ws) ∧ del H4 p p = none ∧ Grow ρ2 G (ρ4.shw p) (del H4 p) ∧ RelS K (ρ4.shw p) S4 (del H4 p) ∧ p ∈ ρ4.h := by
          intro ρ4 H4 S4 g4 rs4
          obtain ⟨_, ga, gm⟩ := Grow.shw nG nh g4
          have pl : p ∉ (ρ2.hide p).l := fun z => nl_of (rs2.fresh nG) z
          exact ⟨g4.fr p _ upd_same pl (fun _ z => by cases z), del_same, ga, rs4.shw gm, gm⟩
        have rew : RelE K (ρ2.hide p) H3 (wipeE env vs) (L2.wipe σ vs) := ((re1.grow g2').grow gy).wipe vs
        dsimp only at hq
        rw [mElt] at hq
        refine ⟨ρ2.hide p, wipeE env vs, S2, d, rsy, rew, ry, ?_⟩
        cases hg1 : g d (wipeE env vs) S2 with
        | bad => rw [hg1] at hq; exact hq.elim
        | ex c S3 => rw [hg1] at hq; exact hq.elim
        | ok env1 S3 =>
          rw [hg1] at hq
          intro ρ4 H4 σ4 g4 rs4 re4 z4 w4
          refine ⟨(show wipe σ4 vs = wipe (wipe σ vs) vs from w4).trans (wipe_idem σ vs), ρ4, env1, S3, rs4, re4, ?_⟩
          have g4 := gy.trans g4
          cases ht1 : t env1 S3 with
          | bad => simp only [Out.bind, ht1] at hq; exact hq.elim
          | ex c S5 => simp only [Out.bind, ht1] at hq; exact hq.elim
          | ok c S5 =>
            simp only [Out.bind, ht1] at hq
            intro ρ5 H5 c' g5 rs5 rc z5
            cases (show c = c' from rc)
            have g5' := g4.trans g5
            cases c with
            | false =>
              rw [if_neg Bool.false_ne_true] at hq ⊢
              obtain ⟨hp5, n5, ga5, rsa5, gm5⟩ := back g5' rs5
              refine ⟨ρ5.shw p, S5, del H5 p, acc, ws, (del_upd hp5).symm, n5, g2.trans ga5, rsa5, ra.grow ga5, by omega, ?_⟩
              have hq := OKo.grow ga5 hq
              simp only [Option.toList, List.nil_append] at hq
              generalize compL s.get s.fin (mElt vs g t e env) (s.len - (i + 1)) (i + 1) S5 = r at hq ⊢
              cases r with
              | ok ys S6 => exact hq
              | ex c S6 => exact hq.elim
              | bad => exact hq.elim
            | true =>
              rw [if_pos rfl] at hq ⊢
              refine ⟨ρ5, env1, S5, rs5, re4.grow g5, ?_⟩
              cases he1 : e env1 S5 with
              | bad => simp only [he1] at hq; exact hq.elim
              | ex c S6 => simp only [he1] at hq; exact hq.elim
              | ok y S6 =>
                simp only [he1] at hq
                intro ρ6 H6 v g6 rs6 rv z6
                have g6' := g5'.trans g6
                obtain ⟨hp6, n6, ga6, rsa6, gm6⟩ := back g6' rs6
                have hlen : ws.length < sizeLine := by omega
                refine ⟨ws, hp6, hlen, ρ6.shw p, S6, del H6 p, acc ++ [y], ws ++ [v], ?_, n6, g2.trans ga6, rsa6, (ra.grow ga6).append (RDs.cons (rv.shw gm6) RDs.nil), by simp; omega, ?_⟩
                · funext a
                  by_cases ea : a = p
                  · subst ea; rw [upd_same, upd_same]
                  · rw [upd_ne ea, upd_ne ea, del_ne ea]
                · have hq := OKo.grow ga6 hq
                  generalize compL s.get s.fin (mElt vs g t e env) (s.len - (i + 1)) (i + 1) S6 = r at hq ⊢
                  cases r with
                  | ok ys S7 =>
                    unfold compW at hq ⊢
                    simp only [Option.toList, List.append_assoc] at hq ⊢
                    exact hq
                  | ex c S7 => exact hq.elim
                  | bad => exact hq.elim
    · have hie : i = s.len := by omega
      subst hie
      refine .inl ?_
      rw [Nat.sub_self] at hq
      unfold compL at hq
      cases hf : s.fin S2 with
      | false => rw [hf] at hq; exact hq.elim
      | true =>
        rw [hf] at hq
        refine ⟨sv2 hf, fun z3 => ?_⟩
        unfold compW at hq
        simp only [if_true, List.append_nil] at hq
        exact mkL_ok rs2 ra hq p nG z3
theorem c_lc {elt tg iter : Expr} {ifs : List Expr} {scope : Scope} {own : List (Str × Nat)} {pos : Pos} {mt : Bool} {src : Env → Store → Out Src} {g : SG} {t : ST} {e : SE} (hc : X.calm = true) (hN : X.N.Nodup) (hi : PI X tg iter (lI X.K cl E src)) (ok : BlkOk X.N X.env.scope scope own)
    (hg : ∀ (s : Shared) (H : Hp) (C : Addr) (cs : List (Str × Addr)) (fp : List Addr), PG (X.blk s H scope (compEnvC scope cs C X.env) fp) tg (lG X.K cl E0 (some (own.map (·.2))) g))
    (ht : ∀ (s : Shared) (H : Hp) (C : Addr) (cs : List (Str × Addr)) (fp : List Addr), PTs (X.blk s H scope (compEnvC scope cs C X.env) fp) ifs (lT X.K cl E0 t))
    (he : ∀ (s : Shared) (H : Hp) (C : Addr) (cs : List (Str × Addr)) (fp : List Addr), PE (X.blk s H scope (compEnvC scope cs C X.env) fp) elt (lE X.K cl E0 e)) (hs : ∀ x, foldedSetIterable iter X.env x = pure x) :
    PE X (.ListComp elt [⟨tg, iter, ifs, 0⟩] scope pos) (lE X.K cl E (mLC (own.map (·.2)) mt src g t e)) := by
  exact PE.via (pe_lc hc hN hi ok hg ht he hs) fun σ H Q _ h => l_lc σ H Q h
end
end Mir
end

section
set_option Elab.async false
set_option linter.all false
set_option maxRecDepth 100000
set_option maxHeartbeats 2000000
/-! Mir6a: isinstance; range of three; list(range(..)); repr; texts compared. -/
namespace Mir
open PySem PySem.Spec PyProof.Rows L2
section
variable {K : PySem.W.Frag} {cl : Nat → Addr} {E : XK} {ρ : Rho} {H : Hp} {S : Store} {σ : L2.St} {X : Cx}

/-! ### isinstance -/
inductive Ty where
  | non | bl | int | str | tup | lst | dic
  deriving DecidableEq
def Ty.name : Ty → String
  | .non => "NoneType"
  | .bl => "bool"
  | .int => "int"
  | .str => "str"
  | .tup => "tuple"
  | .lst => "list"
  | .dic => "dict"
def Ty.is : Ty → Ty → Bool
  | .non, .non => true
  | .bl, .bl => true
  | .bl, .int => true
  | .int, .int => true
  | .str, .str => true
  | .tup, .tup => true
  | .lst, .lst => true
  | .dic, .dic => true
  | _, _ => false
theorem ty_is : ∀ a b : Ty, b ≠ .non → kitB a.name b.name = some (a.is b) := by
  intro a b h
  cases b <;> first | exact absurd rfl h | (cases a <;> decide +kernel)
def tyOf (x : Str) : Option Ty := if x = "int" then some .int else if x = "bool" then some .bl else if x = "tuple" then some .tup else if x = "list" then some .lst else if x = "str" then some .str else none
def tyD (S : Store) : D → Option Ty
  | .non => some .non
  | .bl _ => some .bl
  | .int _ => some .int
  | .str _ => some .str
  | .tup _ => some .tup
  | .lst _ => some .lst
  | .scr _ => some .lst
  | .ref n => match S[n]? with
    | some (.lst _) => some .lst
    | some (.dic _ _) => some .dic
    | none => none
theorem tyD_at (rs : RelS K ρ S H) {d : D} {v : V} {t : Ty} (h : tyD S d = some t) (r : RD K ρ H d v) : TyX K H v (.type t.name) := by
  cases d with
  | non => cases r.ofNon; cases h; exact .base .non
  | bl b => cases r.ofBl; cases h; exact .base (.bl b)
  | int b => cases r.ofInt; cases h; exact .base (.int b)
  | str b => cases r.ofStr; cases h; exact .base (.str b)
  | tup xs =>
    cases h
    unfold RD at r
    obtain ⟨a, vs, rfl, h1, _⟩ := r
    exact .base (.tup h1.1)
  | lst xs =>
    cases h
    unfold RD at r
    obtain ⟨a, vs, rfl, h1, _⟩ := r
    exact .base (.lst h1.1)
  | scr ns =>
    cases h
    unfold RD at r
    obtain ⟨a, rfl, ⟨o, h1, _⟩ | ⟨o, its, n, h1, h2, _⟩⟩ := r
    · exact .base (.frz h1)
    · exact .kList h1 h2
  | ref n =>
    unfold RD at r
    obtain ⟨a, rfl, hn⟩ := r
    simp only [tyD] at h
    split at h
    · rename_i xs hS
      cases h
      obtain ⟨o, e, vs, rfl, _⟩ := rs.ob n a _ hn hS
      exact .base (.lst e)
    · rename_i k kvs hS
      cases h
      obtain ⟨o, e, q⟩ := rs.ob n a _ hn hS
      cases k with
      | false => obtain ⟨es, rfl, _⟩ := q; exact .base (.dK e)
      | true => obtain ⟨es, rfl, _⟩ := q; exact .base (.dT e)
    · cases h
def mIs (t : Ty) (a : SE) : SE := fun env S => (a env S).bind fun d S1 => match tyD S1 d with
  | some u => .ok (.bl (u.is t)) S1
  | none => .bad
theorem c_isi {x : Str} {a : Expr} {p q pos : Pos} {t : Ty} {ma : SE} (hb : bootBuiltins x = some (.type t.name)) (hnn : t ≠ .non) (hm : X.mg x = none) (hgx : Gl X x) (hn : x ≠ "__name__") (hd : (x == ("__debug__" : Str)) = false) (hg : Gl X "isinstance") (hi : X.mg "isinstance" = none)
    (ha : PE X a (lE X.K cl E ma)) (s1 : starEach [a, .Name x q] X.env = (false, eval a X.env) :: starEach [.Name x q] X.env) : PE X (.Call (.Name "isinstance" p) [a, .Name x q] [] pos) (lE X.K cl E (mIs t ma)) := by
  refine PE.via (pe_callB call_isi hg hi boot_isinstance (pa_cons ha (pa_cons (pe_bltn (v := .ty t.name) hgx hm hb rfl hn hd) pa_nil) s1) (by decide +kernel) (by decide +kernel) s1 rfl) fun σ H Q z h => ?_
  obtain ⟨ρ, env, S, rs, re, h⟩ := h
  refine lE_step rs re h fun v H1 ρ1 S1 d z1 g1 rs1 re1 rd h1 => ?_
  split at h1
  · rename_i u hu
    exact ⟨v, .ty t.name, _, _, _, rfl, .ty _, tyD_at rs1 hu rd, kit_ty (ty_is _ _ hnn), ok_val rs1 h1 RD.bl⟩
  · exact h1.elim

/-! ### range(a, b, c) -/
def rg3Ok (i j c : Int) : Bool := decide (c ≠ 0) && (Nat.blt c.natAbs 1073741824 && Builtin.Range.small i j c)
def rangeC (i c : Int) (n : Nat) : List D := (List.range n).map fun k : Nat => D.int (i + (k : Int) * c)
def mRange3 (as : SA) : Env → Store → Out Src := fun env S => (as env S).bind fun xs S1 => match xs with
  | [.int i, .int j, .int c] => if rg3Ok i j c then .ok (.items (rangeC i c (Builtin.Range.rangeSize i j c).toNat)) S1 else .bad
  | _ => .bad
theorem serves_rangeC {i c : Int} {n : Nat} : Serves K (Itc i c n) (.items (rangeC i c n)) ρ H := by
  intro ρ0 H0 _
  intro ρ1 H1 S1 g rs
  have hl : (Src.items (rangeC i c n)).len = n := by simp [Src.items, rangeC]
  refine ⟨fun k d hk e => ?_, fun _ => ?_⟩
  · rw [hl] at hk
    refine ⟨hk, fun x H2 y => ?_⟩
    obtain ⟨e1, e2⟩ := y
    subst e1 e2
    have e3 : (rangeC i c n)[k]? = some d := e
    unfold rangeC at e3
    rw [List.getElem?_map, List.getElem?_range hk] at e3
    cases e3
    exact ⟨Grow.refl, rs, RD.int⟩
  · show n ≤ (Src.items (rangeC i c n)).len
    rw [hl]
    exact Nat.le_refl _
theorem i_range3 {tg a b c : Expr} {p pos : Pos} {as : SA} (hg : Gl X "range") (hm : X.mg "range" = none) (ha : PA X [a, b, c] (lA X.K cl E as)) (hs : starEach [a, b, c] X.env = (false, eval a X.env) :: starEach [b, c] X.env)
    (hpl : (backTo pos (starEach [b, c] X.env)).any (·.1) = false) : PI X tg (.Call (.Name "range" p) [a, b, c] [] pos) (lI X.K cl E (mRange3 as)) := by
  refine PI.imp (pi_range3 hg hm ha hs hpl) fun σ H R z h => ?_
  obtain ⟨ρ, env, S, rs, re, h⟩ := h
  refine lA_step rs re h fun xs H1 ρ1 S1 ds z1 g1 rs1 re1 rd h1 => ?_
  split at h1
  · rename_i i j c
    split at h1
    · rename_i hr
      unfold rg3Ok at hr
      rw [Bool.and_eq_true, Bool.and_eq_true, decide_eq_true_eq] at hr
      obtain ⟨r1, r2, r3⟩ := hr
      have e0 := rd
      unfold RDs at e0
      obtain ⟨v, r, rfl, h1', e0⟩ := e0
      obtain ⟨u, w, rfl, h2', h3'⟩ := e0.two
      cases h1'.ofInt; cases h2'.ofInt; cases h3'.ofInt
      have nn : 0 ≤ Builtin.Range.rangeSize i j c := by
        unfold Builtin.Range.rangeSize
        split
        · split
          · have : 0 ≤ (j - i - 1) / c := Int.ediv_nonneg (by omega) (by omega)
            omega
          · omega
        · split
          · have : 0 ≤ (i - j - 1) / (-c) := Int.ediv_nonneg (by omega) (by omega)
            omega
          · omega
      refine ⟨i, j, c, (Builtin.Range.rangeSize i j c).toNat, rfl, ⟨r1, by simpa [Nat.blt_eq] using r2, r3, by omega⟩, h1 ρ1 H1 _ Grow.refl rs1 serves_rangeC⟩
    · exact h1.elim
  · exact h1.elim

/-! ### texts compared -/
def vEqS : V2 := fun a b S => match a, b with
  | .str x, .str y => .ok (.bl (decide (x = y))) S
  | a, b => vEq a b S
def vNeS : V2 := fun a b S => match a, b with
  | .str x, .str y => .ok (.bl (!decide (x = y))) S
  | a, b => vNe a b S
theorem or_eqS (hu : X.A.units + 65 < cLine) : OpR X (compareOp .Eq) (w2 X.K cl E vEqS) := by
  refine OpR.cases fun x y H Q z h => ?_
  obtain ⟨ρ, S, a, b, rs, ra, rb, h⟩ := h
  unfold vEqS at h
  split at h
  · cases ra.ofStr; cases rb.ofStr
    refine ⟨_, op_eq, rfl, ?_⟩
    have h2 := ok_val rs h RD.bl
    simpa using h2
  · exact ⟨_, or_eq (by omega), ρ, S, a, b, rs, ra, rb, OKo.mono h fun v H1 z q _ => q⟩
theorem or_neS (hu : X.A.units + 65 < cLine) : OpR X (compareOp .NotEq) (w2 X.K cl E vNeS) := by
  refine OpR.cases fun x y H Q z h => ?_
  obtain ⟨ρ, S, a, b, rs, ra, rb, h⟩ := h
  unfold vNeS at h
  split at h
  · cases ra.ofStr; cases rb.ofStr
    refine ⟨_, op_ne, rfl, ?_⟩
    have h2 := ok_val rs h RD.bl
    simpa using h2
  · exact ⟨_, or_ne (by omega), ρ, S, a, b, rs, ra, rb, OKo.mono h fun v H1 z q _ => q⟩
end
end Mir
end

section
set_option Elab.async false
set_option linter.all false
set_option maxRecDepth 100000
set_option maxHeartbeats 2000000
/-! Mir6b: chains of three; zip; -/
namespace Mir
open PySem PySem.Spec PyProof.Rows L2
section
variable {K : PySem.W.Frag} {cl : Nat → Addr} {E : XK} {ρ : Rho} {H : Hp} {S : Store} {σ : L2.St} {X : Cx}

/-! ### a op b op c op d -/
abbrev SK := D → Env → Store → Out D
def mLast (f : V2) (b : SE) : SK := fun x env S => (b env S).bind fun y S2 => f x y S2
def mLk (f : V2) (b : SE) (k : SK) : SK := fun x env S => (b env S).bind fun y S2 => (f x y S2).bind fun z S3 => match z with
  | .bl true => k y env S3
  | .bl false => .ok (.bl false) S3
  | _ => .bad
def mChain3 (f g h : V2) (a b c d : SE) : SE := fun env S => (a env S).bind fun x S1 => mLk f b (mLk g c (mLast h d)) x env S1
/-- what is behind a link, as a value, as a test -/
def CK (X : Cx) (cl : Nat → Addr) (E : XK) (pos : Pos) (ops : List CmpOp) (rs : List (Sem Value)) (k : SK) : Prop :=
  ∀ (pins : List (Addr × Obj)) (s : Shared) (σ : L2.St) (H : Hp) (ρ : Rho) (env : Env) (S : Store) (x : D) (v : V) (u : Value) (Q : VK), L2.Inv X pins σ H s → RelS X.K ρ S H → RelE X.K ρ H env σ → RD X.K ρ H x v → L2.RelV v u → OKo X.K cl E ρ H (RD X.K) Q (k x env S) →
    wpAny (model X.prog X.w) X.A (compareChain pos u ops rs) (EP X pins σ Q) X.xe s
def tstO (o : Out D) : Out Bool := o.bind fun x S1 => match x with
  | .bl k => .ok k S1
  | _ => .bad
def TK (X : Cx) (cl : Nat → Addr) (E : XK) (pos : Pos) (ops : List CmpOp) (rs : List (Sem Value)) (k : SK) : Prop :=
  ∀ (pins : List (Addr × Obj)) (s : Shared) (σ : L2.St) (H : Hp) (ρ : Rho) (env : Env) (S : Store) (x : D) (v : V) (u : Value) (Q : Bool → Hp → Prop), L2.Inv X pins σ H s → RelS X.K ρ S H → RelE X.K ρ H env σ → RD X.K ρ H x v → L2.RelV v u → OKo X.K cl E ρ H RB Q (tstO (k x env S)) →
    wpAny (model X.prog X.w) X.A (testChain pos u ops rs) (fun t s' => ∃ H', L2.Inv X pins σ H' s' ∧ Q t H') X.xe s
theorem fin_siz {pins : List (Addr × Obj)} {Q : VK} {v : Value} {s : Shared} (h : EP X pins σ (fun v H => Siz H → Q v H) v s) : EP X pins σ Q v s :=
  let ⟨x, H, I, r, q⟩ := h; ⟨x, H, I, r, q (siz_of I.hok)⟩
theorem ck_last {pos : Pos} {op : CmpOp} {b : Expr} {f : V2} {m : SE} (ho : OpR X (compareOp op) (w2 X.K cl E f)) (hb : PE X b (lE X.K cl E m)) : CK X cl E pos [op] [eval b X.env] (mLast f m) := by
  intro pins s σ H ρ env S x v u Q I rs re rx rv h
  refine chain_last (thn (hb.run pins s σ H _ I (lE_step rs re h fun y H1 ρ1 S1 d z1 g1 rs1 re1 rd h1 => (⟨ρ1, S1, x, d, rs1, rx.grow g1, rd, h1⟩ : w2 X.K cl E f v y H1 Q))) fun w s1 ⟨y, H1, I1, r1, q1⟩ => ?_)
  exact ho pins s1 σ H1 v y u w Q I1 rv r1 q1
theorem ck_link {pos : Pos} {op op' : CmpOp} {ops : List CmpOp} {r' : Sem Value} {rs' : List (Sem Value)} {b : Expr} {f : V2} {m : SE} {k : SK} (ho : OpR X (compareOp op) (w2 X.K cl E f)) (hb : PE X b (lE X.K cl E m)) (hk : CK X cl E pos (op' :: ops) (r' :: rs') k) :
    CK X cl E pos (op :: op' :: ops) (eval b X.env :: r' :: rs') (mLk f m k) := by
  intro pins s σ H ρ env S x v u Q I rs re rx rv h
  refine chain_link (thn (hb.run pins s σ H _ I (lE_step rs re h (P := fun y H1 => ∃ ρ1 S1 d, RelS X.K ρ1 S1 H1 ∧ RelE X.K ρ1 H1 env σ ∧ RD X.K ρ1 H1 x v ∧ RD X.K ρ1 H1 d y ∧ OKo X.K cl E ρ1 H1 (RD X.K) Q ((f x d S1).bind fun z S3 => match z with
    | .bl true => k d env S3
    | .bl false => .ok (.bl false) S3
    | _ => .bad)) fun y H1 ρ1 S1 d z1 g1 rs1 re1 rd h1 => ⟨ρ1, S1, d, rs1, re1, rx.grow g1, rd, h1⟩)) fun w s1 ⟨y, H1, I1, r1, ρ1, S1, d, rs1, re1, rx1, rd, h1⟩ => ?_)
  refine thn (ho pins s1 σ H1 v y u w _ I1 rv r1 ⟨ρ1, S1, x, d, rs1, rx1, rd, OKo.bind h1⟩) fun c s2 ⟨z, H2, I2, r2, ρ2, S2, zd, g2, rs2, rz, h2⟩ => ?_
  split at h2
  · cases rz.ofBl
    cases (show c = Value.bool true from r2)
    refine wpAny_truthy_bool (ite_tt ?_)
    exact hk pins s2 σ H2 ρ2 env S2 d y w Q I2 rs2 (re1.grow g2) (rd.grow g2) r1 h2
  · cases rz.ofBl
    cases (show c = Value.bool false from r2)
    exact wpAny_truthy_bool (ite_ff ⟨.bl false, H2, I2, rfl, ok_val rs2 h2 RD.bl (siz_of I2.hok)⟩)
  · exact h2.elim
theorem tst_bind {α : Type} (o : Out α) (f : α → Store → Out D) : tstO (o.bind f) = o.bind fun a S => tstO (f a S) := by cases o <;> rfl
theorem tk_last {pos : Pos} {op : CmpOp} {b : Expr} {f : V2} {m : SE} (ho : OpR X (compareOp op) (w2 X.K cl E f)) (hb : PE X b (lE X.K cl E m)) : TK X cl E pos [op] [eval b X.env] (mLast f m) := by
  intro pins s σ H ρ env S x v u Q I rs re rx rv h
  unfold mLast at h
  rw [tst_bind] at h
  refine test_last (thn (hb.run pins s σ H _ I (lE_step rs re h (P := fun y H1 => ∃ ρ1 S1 d, RelS X.K ρ1 S1 H1 ∧ RD X.K ρ1 H1 x v ∧ RD X.K ρ1 H1 d y ∧ OKo X.K cl E ρ1 H1 RB Q (tstO (f x d S1))) fun y H1 ρ1 S1 d z1 g1 rs1 re1 rd h1 => ⟨ρ1, S1, d, rs1, rx.grow g1, rd, h1⟩)) fun w s1 ⟨y, H1, I1, r1, ρ1, S1, d, rs1, rx1, rd, h1⟩ => ?_)
  refine thn (ho pins s1 σ H1 v y u w _ I1 rv r1 ⟨ρ1, S1, x, d, rs1, rx1, rd, OKo.bind h1⟩) fun c s2 ⟨z, H2, I2, r2, ρ2, S2, zd, g2, rs2, rz, h2⟩ => ?_
  split at h2
  · rename_i t
    cases rz.ofBl
    cases (show c = Value.bool t from r2)
    exact wpAny_truthy_bool ⟨H2, I2, h2 ρ2 H2 t Grow.refl rs2 rfl (siz_of I2.hok)⟩
  · exact h2.elim
theorem tk_link {pos : Pos} {op op' : CmpOp} {ops : List CmpOp} {r' : Sem Value} {rs' : List (Sem Value)} {b : Expr} {f : V2} {m : SE} {k : SK} (ho : OpR X (compareOp op) (w2 X.K cl E f)) (hb : PE X b (lE X.K cl E m)) (hk : TK X cl E pos (op' :: ops) (r' :: rs') k) :
    TK X cl E pos (op :: op' :: ops) (eval b X.env :: r' :: rs') (mLk f m k) := by
  intro pins s σ H ρ env S x v u Q I rs re rx rv h
  unfold mLk at h
  rw [tst_bind] at h
  refine test_link (thn (hb.run pins s σ H _ I (lE_step rs re h (P := fun y H1 => ∃ ρ1 S1 d, RelS X.K ρ1 S1 H1 ∧ RelE X.K ρ1 H1 env σ ∧ RD X.K ρ1 H1 x v ∧ RD X.K ρ1 H1 d y ∧ OKo X.K cl E ρ1 H1 RB Q (tstO ((f x d S1).bind fun z S3 => match z with
    | .bl true => k d env S3
    | .bl false => .ok (.bl false) S3
    | _ => .bad))) fun y H1 ρ1 S1 d z1 g1 rs1 re1 rd h1 => ⟨ρ1, S1, d, rs1, re1, rx.grow g1, rd, h1⟩)) fun w s1 ⟨y, H1, I1, r1, ρ1, S1, d, rs1, re1, rx1, rd, h1⟩ => ?_)
  rw [tst_bind] at h1
  refine thn (ho pins s1 σ H1 v y u w _ I1 rv r1 ⟨ρ1, S1, x, d, rs1, rx1, rd, OKo.bind h1⟩) fun c s2 ⟨z, H2, I2, r2, ρ2, S2, zd, g2, rs2, rz, h2⟩ => ?_
  split at h2
  · cases rz.ofBl
    cases (show c = Value.bool true from r2)
    refine wpAny_truthy_bool (ite_tt ?_)
    exact hk pins s2 σ H2 ρ2 env S2 d y w Q I2 rs2 (re1.grow g2) (rd.grow g2) r1 h2
  · cases rz.ofBl
    cases (show c = Value.bool false from r2)
    exact wpAny_truthy_bool (ite_ff ⟨H2, I2, h2 ρ2 H2 false Grow.refl rs2 rfl (siz_of I2.hok)⟩)
  · exact h2.elim
theorem c_chain3 {o1 o2 o3 : CmpOp} {a b c d : Expr} {pos : Pos} {f g h : V2} {ma mb mc md : SE} (h1 : OpR X (compareOp o1) (w2 X.K cl E f)) (h2 : OpR X (compareOp o2) (w2 X.K cl E g)) (h3 : OpR X (compareOp o3) (w2 X.K cl E h))
    (ha : PE X a (lE X.K cl E ma)) (hb : PE X b (lE X.K cl E mb)) (hc : PE X c (lE X.K cl E mc)) (hd : PE X d (lE X.K cl E md)) (hm : lastMarks [o1, o2, o3] [b, c, d] = false) :
    PE X (.Compare a [o1, o2, o3] [b, c, d] pos) (lE X.K cl E (mChain3 f g h ma mb mc md)) ∧ PT X (.Compare a [o1, o2, o3] [b, c, d] pos) (lT X.K cl E (mTst (mChain3 f g h ma mb mc md))) := by
  refine ⟨⟨fun pins s σ H Q I q => ?_⟩, ⟨fun pins s σ H Q I q => ?_⟩⟩
  · obtain ⟨ρ, env, S, rs, re, q⟩ := q
    refine Compare_chain (thn (ha.run pins s σ H _ I (lE_step rs re q (P := fun y H1 => ∃ ρ1 S1 d, RelS X.K ρ1 S1 H1 ∧ RelE X.K ρ1 H1 env σ ∧ RD X.K ρ1 H1 d y ∧ OKo X.K cl E ρ1 H1 (RD X.K) Q (mLk f mb (mLk g mc (mLast h md)) d env S1)) fun y H1 ρ1 S1 d z1 g1 rs1 re1 rd h1 => ⟨ρ1, S1, d, rs1, re1, rd, h1⟩)) fun w s1 ⟨y, H1, I1, r1, ρ1, S1, d', rs1, re1, rd, q1⟩ => ?_) hm
    exact ck_link h1 hb (ck_link h2 hc (ck_last h3 hd)) pins s1 σ H1 ρ1 env S1 d' y w Q I1 rs1 re1 rd r1 q1
  · obtain ⟨ρ, env, S, rs, re, q⟩ := q
    have q : OKo X.K cl E ρ H RB Q (tstO ((ma env S).bind fun x S1 => mLk f mb (mLk g mc (mLast h md)) x env S1)) := q
    rw [tst_bind] at q
    refine isTrue_chain (thn (ha.run pins s σ H _ I (lE_step rs re q (P := fun y H1 => ∃ ρ1 S1 d, RelS X.K ρ1 S1 H1 ∧ RelE X.K ρ1 H1 env σ ∧ RD X.K ρ1 H1 d y ∧ OKo X.K cl E ρ1 H1 RB Q (tstO (mLk f mb (mLk g mc (mLast h md)) d env S1))) fun y H1 ρ1 S1 d z1 g1 rs1 re1 rd h1 => ⟨ρ1, S1, d, rs1, re1, rd, h1⟩)) fun w s1 ⟨y, H1, I1, r1, ρ1, S1, d', rs1, re1, rd, q1⟩ => ?_) hm
    exact tk_link h1 hb (tk_link h2 hc (tk_last h3 hd)) pins s1 σ H1 ρ1 env S1 d' y w Q I1 rs1 re1 rd r1 q1

/-! ### zip of two -/
def pairsD : List D → List D → List D
  | x :: xs, y :: ys => .tup [x, y] :: pairsD xs ys
  | _, _ => []
def mZip (as : SA) : Env → Store → Out Src := fun env S => (as env S).bind fun xs S1 => match xs with
  | [.tup a, .tup b] => .ok (.items (pairsD a b)) S1
  | [.lst a, .lst b] => .ok (.items (pairsD a b)) S1
  | _ => .bad
theorem pairsD_get : ∀ {xs ys : List D} {i : Nat} {d : D}, (pairsD xs ys)[i]? = some d → ∃ x y, xs[i]? = some x ∧ ys[i]? = some y ∧ d = .tup [x, y]
  | [], _, _, _, h => by simp [pairsD] at h
  | _ :: _, [], _, _, h => by simp [pairsD] at h
  | x :: xs, y :: ys, i, d, h => by
    cases i with
    | zero => simp [pairsD] at h; exact ⟨x, y, rfl, rfl, h.symm⟩
    | succ i => exact pairsD_get (i := i) (xs := xs) (ys := ys) (by simpa [pairsD] using h)
theorem pairsD_len : ∀ xs ys : List D, (pairsD xs ys).length = min xs.length ys.length
  | [], _ => by simp [pairsD]
  | _ :: _, [] => by simp [pairsD]
  | x :: xs, y :: ys => by simp [pairsD, pairsD_len xs ys]
theorem serves0_zipT {as bs : List D} {v w : V} (r : RD K ρ H (.tup as) v) (r' : RD K ρ H (.tup bs) w) : ∃ a b xs ys, v = .ref a ∧ w = .ref b ∧ SqT K H a xs ∧ SqT K H b ys ∧ Serves0 K (RZ.ItzT K a b) (.items (pairsD as bs)) ρ H := by
  unfold RD at r r'
  obtain ⟨a, vs, rfl, h, q⟩ := r
  obtain ⟨b, ws, rfl, h', q'⟩ := r'
  refine ⟨a, b, vs, ws, rfl, rfl, SqT.of h.1, SqT.of h'.1, fun ρ1 H1 S1 g rs => ?_⟩
  have k1 := at_grow g h
  have k2 := at_grow g h'
  have q1 := q.grow g
  have q2 := q'.grow g
  have l1 := q.length
  have l2 := q'.length
  refine ⟨fun i d hi hd => ?_, fun _ => ⟨vs, ws, SqT.of k1.1, SqT.of k2.1, ?_⟩⟩
  · obtain ⟨x, y, hx, hy, rfl⟩ := pairsD_get (show (pairsD as bs)[i]? = some d from hd)
    obtain ⟨vx, hvx, rx⟩ := q1.get hx
    obtain ⟨vy, hvy, ry⟩ := q2.get hy
    refine ⟨⟨vs, ws, vx, vy, SqT.of k1.1, SqT.of k2.1, hvx, hvy⟩, fun z H2 yl => ?_⟩
    obtain ⟨T, x', y', rfl, hT, rfl, f1, f2⟩ := yl
    have e1 := f1 vs (SqT.of k1.1)
    have e2 := f2 ws (SqT.of k2.1)
    rw [hvx] at e1; rw [hvy] at e2
    cases e1; cases e2
    exact ⟨grow_upd hT, rs.out hT, RD.newTup rs hT (RDs.cons rx (RDs.cons ry RDs.nil))⟩
  · show vs.length ≤ (pairsD as bs).length ∨ ws.length ≤ (pairsD as bs).length
    rw [pairsD_len]
    omega
theorem serves0_zipL {as bs : List D} {v w : V} (r : RD K ρ H (.lst as) v) (r' : RD K ρ H (.lst bs) w) : ∃ a b xs ys, v = .ref a ∧ w = .ref b ∧ SqL K H a xs ∧ SqL K H b ys ∧ Serves0 K (Itz K a b) (.items (pairsD as bs)) ρ H := by
  unfold RD at r r'
  obtain ⟨a, vs, rfl, h, q⟩ := r
  obtain ⟨b, ws, rfl, h', q'⟩ := r'
  refine ⟨a, b, vs, ws, rfl, rfl, SqL.of h.1, SqL.of h'.1, fun ρ1 H1 S1 g rs => ?_⟩
  have k1 := at_grow g h
  have k2 := at_grow g h'
  have q1 := q.grow g
  have q2 := q'.grow g
  have l1 := q.length
  have l2 := q'.length
  refine ⟨fun i d hi hd => ?_, fun _ => ⟨vs, ws, SqL.of k1.1, SqL.of k2.1, ?_⟩⟩
  · obtain ⟨x, y, hx, hy, rfl⟩ := pairsD_get (show (pairsD as bs)[i]? = some d from hd)
    obtain ⟨vx, hvx, rx⟩ := q1.get hx
    obtain ⟨vy, hvy, ry⟩ := q2.get hy
    refine ⟨⟨vs, ws, vx, vy, SqL.of k1.1, SqL.of k2.1, hvx, hvy⟩, fun z H2 yl => ?_⟩
    obtain ⟨T, x', y', rfl, hT, rfl, f1, f2⟩ := yl
    have e1 := f1 vs (SqL.of k1.1)
    have e2 := f2 ws (SqL.of k2.1)
    rw [hvx] at e1; rw [hvy] at e2
    cases e1; cases e2
    exact ⟨grow_upd hT, rs.out hT, RD.newTup rs hT (RDs.cons rx (RDs.cons ry RDs.nil))⟩
  · show vs.length ≤ (pairsD as bs).length ∨ ws.length ≤ (pairsD as bs).length
    rw [pairsD_len]
    omega
theorem serves_zipT {as bs : List D} {v w : V} (r : RD K ρ H (.tup as) v) (r' : RD K ρ H (.tup bs) w) : ∃ a b xs ys, v = .ref a ∧ w = .ref b ∧ SqT K H a xs ∧ SqT K H b ys ∧ Serves K (RZ.ItzT K a b) (.items (pairsD as bs)) ρ H := by
  obtain ⟨a, b, xs, ys, rfl, rfl, h1, h2, _⟩ := serves0_zipT r r'
  refine ⟨a, b, xs, ys, rfl, rfl, h1, h2, fun ρ0 H0 sh => ?_⟩
  obtain ⟨_, _, _, _, e1, e2, _, _, z⟩ := serves0_zipT (r.shr sh) (r'.shr sh)
  cases e1; cases e2
  exact z
theorem serves_zipL {as bs : List D} {v w : V} (r : RD K ρ H (.lst as) v) (r' : RD K ρ H (.lst bs) w) : ∃ a b xs ys, v = .ref a ∧ w = .ref b ∧ SqL K H a xs ∧ SqL K H b ys ∧ Serves K (Itz K a b) (.items (pairsD as bs)) ρ H := by
  obtain ⟨a, b, xs, ys, rfl, rfl, h1, h2, _⟩ := serves0_zipL r r'
  refine ⟨a, b, xs, ys, rfl, rfl, h1, h2, fun ρ0 H0 sh => ?_⟩
  obtain ⟨_, _, _, _, e1, e2, _, _, z⟩ := serves0_zipL (r.shr sh) (r'.shr sh)
  cases e1; cases e2
  exact z
theorem i_zip {elts : List Expr} {kk : Nat} {a b : Expr} {p pos tpos : Pos} {as : SA} (hg : Gl X "zip") (hm : X.mg "zip" = none) (ha : PA X [a, b] (lA X.K cl E as)) (hs : starEach [a, b] X.env = (false, eval a X.env) :: starEach [b] X.env)
    (hpl : (backTo pos (starEach [b] X.env)).any (·.1) = false) : PI X (.Tuple elts kk tpos) (.Call (.Name "zip" p) [a, b] [] pos) (lI X.K cl E (mZip as)) := by
  refine PI.imp (RZ.pi_zipA hg hm ha hs hpl) fun σ H R z h => ?_
  obtain ⟨ρ, env, S, rs, re, h⟩ := h
  refine lA_step rs re h fun xs H1 ρ1 S1 ds z1 g1 rs1 re1 rd h1 => ?_
  split at h1
  · obtain ⟨v, w, rfl, r1, r2⟩ := rd.two
    obtain ⟨a, b, xs, ys, rfl, rfl, q1, q2, sv⟩ := serves_zipT r1 r2
    exact ⟨a, b, xs, ys, rfl, .inr ⟨q1, q2, h1 ρ1 H1 _ Grow.refl rs1 sv⟩⟩
  · obtain ⟨v, w, rfl, r1, r2⟩ := rd.two
    obtain ⟨a, b, xs, ys, rfl, rfl, q1, q2, sv⟩ := serves_zipL r1 r2
    exact ⟨a, b, xs, ys, rfl, .inl ⟨q1, q2, h1 ρ1 H1 _ Grow.refl rs1 sv⟩⟩
  · exact h1.elim

/-! ### enumerate of a list -/
def enumD : Nat → List D → List D
  | _, [] => []
  | i, x :: xs => .tup [.int (i : Nat), x] :: enumD (i + 1) xs
theorem enumD_get : ∀ {xs : List D} {k i : Nat} {d : D}, (enumD k xs)[i]? = some d → ∃ x, xs[i]? = some x ∧ d = .tup [.int ((k + i : Nat) : Int), x]
  | [], _, _, _, h => by simp [enumD] at h
  | x :: xs, k, i, d, h => by
    cases i with
    | zero => simp [enumD] at h; exact ⟨x, rfl, h.symm⟩
    | succ i =>
      obtain ⟨y, h1, h2⟩ := enumD_get (i := i) (k := k + 1) (xs := xs) (by simpa [enumD] using h)
      refine ⟨y, h1, ?_⟩
      rw [h2]
      have e : k + 1 + i = k + (i + 1) := by omega
      rw [e]
theorem enumD_len : ∀ (k : Nat) (xs : List D), (enumD k xs).length = xs.length
  | _, [] => rfl
  | k, x :: xs => by simp [enumD, enumD_len (k + 1) xs]
def mEnum (as : SA) : Env → Store → Out Src := fun env S => (as env S).bind fun xs S1 => match xs with
  | [.lst a] => .ok (.items (enumD 0 a)) S1
  | _ => .bad
theorem serves0_enum {as : List D} {v : V} (r : RD K ρ H (.lst as) v) : ∃ a xs, v = .ref a ∧ SqL K H a xs ∧ Serves0 K (Ite K a) (.items (enumD 0 as)) ρ H := by
  unfold RD at r
  obtain ⟨a, vs, rfl, h, q⟩ := r
  refine ⟨a, vs, rfl, SqL.of h.1, fun ρ1 H1 S1 g rs => ?_⟩
  have k1 := at_grow g h
  have q1 := q.grow g
  have l1 := q.length
  refine ⟨fun i d hi hd => ?_, fun _ => ⟨vs, SqL.of k1.1, ?_⟩⟩
  · obtain ⟨x, hx, rfl⟩ := enumD_get (show (enumD 0 as)[i]? = some d from hd)
    obtain ⟨vx, hvx, rx⟩ := q1.get hx
    refine ⟨⟨vs, vx, SqL.of k1.1, hvx⟩, fun z H2 yl => ?_⟩
    obtain ⟨T, x', rfl, hT, rfl, f1⟩ := yl
    have e1 := f1 vs (SqL.of k1.1)
    rw [hvx] at e1
    cases e1
    refine ⟨grow_upd hT, rs.out hT, ?_⟩
    rw [Nat.zero_add]
    exact RD.newTup rs hT (RDs.cons RD.int (RDs.cons rx RDs.nil))
  · show vs.length ≤ (enumD 0 as).length
    rw [enumD_len]
    omega
theorem serves_enum {as : List D} {v : V} (r : RD K ρ H (.lst as) v) : ∃ a xs, v = .ref a ∧ SqL K H a xs ∧ Serves K (Ite K a) (.items (enumD 0 as)) ρ H := by
  obtain ⟨a, xs, rfl, h, _⟩ := serves0_enum r
  refine ⟨a, xs, rfl, h, fun ρ0 H0 sh => ?_⟩
  obtain ⟨_, _, e, _, z⟩ := serves0_enum (r.shr sh)
  cases e
  exact z
theorem i_enum {elts : List Expr} {kk : Nat} {a : Expr} {p pos tpos : Pos} {as : SA} (hg : Gl X "enumerate") (hm : X.mg "enumerate" = none) (ha : PA X [a] (lA X.K cl E as)) (hs : starEach [a] X.env = [(false, eval a X.env)]) :
    PI X (.Tuple elts kk tpos) (.Call (.Name "enumerate" p) [a] [] pos) (lI X.K cl E (mEnum as)) := by
  refine PI.imp (pi_enum hg hm ha hs) fun σ H R z h => ?_
  obtain ⟨ρ, env, S, rs, re, h⟩ := h
  refine lA_step rs re h fun xs H1 ρ1 S1 ds z1 g1 rs1 re1 rd h1 => ?_
  split at h1
  · obtain ⟨v, rfl, r1⟩ := rd.one
    obtain ⟨a, xs, rfl, q1, sv⟩ := serves_enum r1
    exact ⟨a, xs, rfl, q1, h1 ρ1 H1 _ Grow.refl rs1 sv⟩
  · exact h1.elim
end
end Mir
end

section
set_option Elab.async false
set_option linter.all false
set_option maxRecDepth 100000
set_option maxHeartbeats 4000000
/-! Mir6c: {k: v for ..}, keys of either kind. -/
namespace Mir
open PySem PySem.Spec PyProof.Rows L2
section
variable {X : Cx}
theorem d_put {pins : List (Addr × Obj)} {σ : L2.St} {H H' : Hp} {s : Shared} {Ex : Value → Shared → Prop} {D : Addr} {y v : V} {u r : Value} {Q : Unit → Shared → Prop} (hu : X.A.units + 1 < cLine) (I : L2.Inv X pins σ H s) (g : DPut H D y v H') (ry : L2.RelV y u) (rv : L2.RelV v r)
    (h : ∀ s', L2.Inv X pins σ H' s' → Q () s') : wpAny (model X.prog X.w) X.A (dictSet D u r) Q Ex s := by
  rcases g with ⟨kvs, k, e, ey, l, eH⟩ | ⟨kvs, k, b, e, ey, eb, l, eH⟩
  · subst ey
    subst eH
    exact d_dictSet I e l ry rv h
  · subst ey
    subst eH
    cases (show u = Value.ref b from ry)
    obtain ⟨z, hd, xs, rel, dd⟩ := dt_of I.hok e
    have small : xs.length ≤ sizeLine := Nat.le_trans (Nat.le_of_eq (Paired.length rel).symm) z
    have grown := length_putK kvs k v
    refine wpAny_dictSet_heap (hsz := small) (show X.A.units < cLine by omega) (key_of I.hok eb) dd fun h2 dd2 hs2 => h _ ?_
    obtain ⟨ob, es, ep, hob, c1, c2, c3, _, c4⟩ := dd2
    refine d_write I (by rw [e]; exact True.intro) hs2 ⟨ob, hob⟩ ⟨by omega, hd, _, (rel.put k eb rv).keeps fun c ys ec => ?_, ob, es, ep, hob, c1, c2, c3, c4⟩
    rw [upd_ne (ne_of ec e (fun z => nomatch z))]
    exact ec
/-- the new dict -/
def dic0 (t : Bool) : HO := if t then .dT [] else .dK []
theorem dic0_ok {P : Program} {w : World} {H : Hp} (t : Bool) (h : Heap) (hb : sysModules < h.objs.size) : ObjOk P w H (h.push { cls := .type "dict", data := .dict #[] }) h.objs.size (dic0 t) := by
  cases t with
  | false => exact dk_empty h hb
  | true => exact dt_empty h hb
/-- {k: v for target in iter if ..}: D the new dict -/
def tDcA (t : Bool) (wi : TI) (g : TG) (tt : TT) (tk tv : TE) (vs : List Nat) : TE := fun σ H Q => wi σ H fun J H1 => ∀ D, H1 D = none → ∃ W : Nat → Nat → Hp → Prop, (∃ m, W 0 m (upd H1 D (dic0 t))) ∧ ∀ i m H, W i m H →
  (J.stop i H ∧ Q (.ref D) H) ∨ (J.go i H ∧ ∃ Nx : Hp → Prop, (∀ H', Nx H' → ∃ m', m' < m ∧ W (i + 1) m' H') ∧ ∀ x H', J.yld i H x H' → g x (wipe σ vs) H' fun σ2 H2 => wipe σ2 vs = wipe σ vs ∧ tt σ2 H2 fun b H3 =>
    if b = true then tk σ2 H3 fun y H4 => tv σ2 H4 fun z H5 => ∃ H6, DPut H5 D y z H6 ∧ Nx H6 else Nx H3)
theorem pe_dcA {t : Bool} {kx vx tg iter : Expr} {ifs : List Expr} {scope : Scope} {own : List (Str × Nat)} {pos : Pos} {wi : TI} {g : TG} {tt : TT} {tk tv : TE} (hu : X.A.units + 1 < cLine) (calm : X.calm = true) (nd : X.N.Nodup) (hi : PI X tg iter wi) (ok : BlkOk X.N X.env.scope scope own)
    (hg : ∀ (s : Shared) (H : Hp) (C : Addr) (cl : List (Str × Addr)) (fp : List Addr), PG (X.blk s H scope (compEnvC scope cl C X.env) fp) tg g)
    (ht : ∀ (s : Shared) (H : Hp) (C : Addr) (cl : List (Str × Addr)) (fp : List Addr), PTs (X.blk s H scope (compEnvC scope cl C X.env) fp) ifs tt)
    (hk : ∀ (s : Shared) (H : Hp) (C : Addr) (cl : List (Str × Addr)) (fp : List Addr), PE (X.blk s H scope (compEnvC scope cl C X.env) fp) kx tk)
    (he : ∀ (s : Shared) (H : Hp) (C : Addr) (cl : List (Str × Addr)) (fp : List Addr), PE (X.blk s H scope (compEnvC scope cl C X.env) fp) vx tv)
    (hs : ∀ x, foldedSetIterable iter X.env x = pure x) : PE X (.DictComp kx vx [⟨tg, iter, ifs, 0⟩] scope pos) (tDcA t wi g tt tk tv (own.map (·.2))) := by
  refine ⟨fun pins s σ H Q I h => ?_⟩
  rw [arm_eval_DictComp]
  have cells : ∀ y ∈ scope.names, y.2 = .free → ∃ c, X.env.cells.lookup y.1 = some c := by
    intro y hy e
    rcases ok.free y hy e with k | k
    · exact I.ok.has _ (.inl k)
    · exact I.ok.has _ (.inr k)
  refine wpAny_comprehension_free (use := none) rfl hs (closure_ok cells) ok.kind (fun y hy e => (ok.uniq y hy).trans (congrArg some e)) ?_
  refine thn (hi.run pins s σ H _ I h) fun xv sa hx => thn hx fun itv sb hb => ?_
  obtain ⟨it, fp, tn, J, Hb, rfl, Ib, T, stb, fb, q⟩ := hb
  refine wpAny_newObj_type (newEnv_comp ?_)
  generalize hD : sb.heap.objs.size = D
  have newD : Hb D = none := Ib.hok.fresh (Nat.le_of_eq hD)
  obtain ⟨W, ⟨m0, w0⟩, turn⟩ := q D newD
  generalize hsc : ({ sb with heap := sb.heap.push { cls := .type "dict", data := .dict #[] } } : Shared) = sc
  have Ic : L2.Inv X pins σ (upd Hb D (dic0 t)) sc := by
    subst hsc
    subst hD
    exact Ib.laid (t' := sb.toks) (fun b o e => Heap.get?_push_of_some _ e) (Nat.le_refl _) (dic0_ok t sb.heap Ib.big)
  have hpc : sc.heap = sb.heap.push { cls := .type "dict", data := .dict #[] } := by rw [← hsc]
  have older : ∀ b ∈ fp, b < sb.heap.objs.size := by
    intro b hb
    obtain ⟨o, e, _⟩ := T.obj _ _ stb b hb
    exact Heap.lt_size e
  have fc : ∀ b ∈ fp, FpOk X pins (upd Hb D (dic0 t)) b ∧ b < sc.heap.objs.size := by
    intro b hb
    have lt := older b hb
    refine ⟨⟨?_, (fb b hb).2⟩, ?_⟩
    · rw [upd_ne (Nat.ne_of_lt (hD ▸ lt))]
      exact (fb b hb).1
    · rw [hpc, Heap.size_push]
      exact Nat.lt_succ_of_lt lt
  have stc : tn 0 sc.heap := T.keep _ _ _ stb fun b _ o e => by
    rw [hpc]
    exact Heap.get?_push_of_some _ e
  have Id := block_start Ic ok nd fc
  have pg := hg sc (upd Hb D (dic0 t)) sc.heap.objs.size (cellsFrom (sc.heap.objs.size + 1) scope.names (cloFrom X.env.cells scope.names [])) fp
  have pt := ht sc (upd Hb D (dic0 t)) sc.heap.objs.size (cellsFrom (sc.heap.objs.size + 1) scope.names (cloFrom X.env.cells scope.names [])) fp
  have pk := hk sc (upd Hb D (dic0 t)) sc.heap.objs.size (cellsFrom (sc.heap.objs.size + 1) scope.names (cloFrom X.env.cells scope.names [])) fp
  have pv := he sc (upd Hb D (dic0 t)) sc.heap.objs.size (cellsFrom (sc.heap.objs.size + 1) scope.names (cloFrom X.env.cells scope.names [])) fp
  show codeAny _ _ (.compStart (.DictComp kx vx [⟨tg, iter, ifs, 0⟩] scope pos) 0 (.ref it) (.ref D) (compEnvC scope (cellsFrom (sc.heap.objs.size + 1) scope.names (cloFrom X.env.cells scope.names [])) sc.heap.objs.size X.env)) (compPost (model X.prog X.w) X.A X.xe none (EP X pins σ Q) (.ref D) sc.heap.objs.size) { sc with heap := pushCells (sc.heap.push { cls := .type "dict", data := .dict #[] }) scope.names }
  have unseen : ∀ b ∈ fp, (upd Hb D (dic0 t)) b = none := fun b hb => (fc b hb).1.1
  generalize hce : compEnvC scope (cellsFrom (sc.heap.objs.size + 1) scope.names (cloFrom X.env.cells scope.names [])) sc.heap.objs.size X.env = ce at Id pg pt pk pv ⊢
  have ceL : ce.locals = sc.heap.objs.size := by rw [← hce]; rfl
  generalize hHc : upd Hb D (dic0 t) = Hc at Ic Id pg pt pk pv w0 unseen fc
  generalize hsd : ({ sc with heap := pushCells (sc.heap.push { cls := .type "dict", data := .dict #[] }) scope.names } : Shared) = sd at Id ⊢
  have std : tn 0 sd.heap := T.keep _ _ _ stc fun b _ o e => by
    rw [← hsd]
    exact pushCells_keeps _ _ _ _ (Heap.get?_push_of_some _ e)
  have own1 : ∀ {σ' : L2.St} {H' : Hp} {s' : Shared}, L2.Inv (X.blk sc Hc scope ce fp) [] σ' H' s' → (∀ b ∈ fp, H' b = none) → ∀ b ∈ fp, FpOk (X.blk sc Hc scope ce fp) [] H' b := by
    intro σ' H' s' I' hn b hb
    exact ⟨hn b hb, (I'.ok.exf b hb).1, I'.ok.exfs b hb, .inl hb, fun x c e => (I'.ok.exf b hb).2 x c e, fun p hp => absurd (show p ∈ ([] : List (Addr × Obj)) ++ [] from hp) (by simp)⟩
  suffices walk : codeAny (model X.prog X.w) X.A (.compLoop (.DictComp kx vx [⟨tg, iter, ifs, 0⟩] scope pos) 0 (.ref it) (.ref D) ce) (compPost (model X.prog X.w) X.A X.xe none (EP X pins σ Q) (.ref D) sc.heap.objs.size) sd from
    codeAny_compStart_dict walk (T.self X.A 0 _ _ _ std walk)
  · refine compLoop_anyD (fun n s' => ∃ i H', L2.Inv (X.blk sc Hc scope ce fp) [] (wipe σ (own.map (·.2))) H' s' ∧ tn i s'.heap ∧ (∀ b ∈ fp, H' b = none) ∧ W i n H') ?_ m0 ⟨0, Hc, Id, std, unseen, w0⟩
    rintro n se ⟨i, He, Ie, ste, ne, we⟩
    rcases turn i n He we with ⟨stop, qq⟩ | ⟨go, Nx, less, step⟩
    · refine thnF (T.done (X.blk sc Hc scope ce fp) rfl rfl rfl calm i [] se _ He (fun _ _ => False) Ie (own1 Ie ne) ste stop) fun r sf ⟨hr, If⟩ => ?_
      subst hr
      have Ig : L2.Inv X pins σ He sf := Ic.call' (ch := fp) If.os If.base If.hok If.bare fun b hb => ⟨(fc b hb).1.2.2.2.1, (fc b hb).1.2.1, (fc b hb).1.2.2.2.2.1, (fc b hb).1.2.2.2.2.2⟩
      have nC : He sc.heap.objs.size = none := by
        have z : He ce.locals = none := If.free
        rwa [ceL] at z
      obtain ⟨m, hn, _⟩ := If.loc
      have hn : sf.heap.Ns ce.locals m := hn
      rw [ceL] at hn
      obtain ⟨f0, f1, f2, f3, f4, f5⟩ := Ic.fpOk (H' := He) (Nat.le_refl _) nC
      exact ⟨m, hn, fun h'' sb' => ⟨.ref D, He, Ig.turned (t' := sf.toks) (fun b o hb e => (sb'.2 b hb).trans e) f0 f1 f3 f4 f5, rfl, qq⟩⟩
    · refine thnF (T.item (X.blk sc Hc scope ce fp) rfl rfl rfl calm i [] se _ He (fun _ _ => False) Ie (own1 Ie ne) ste go) fun r sf ⟨u, hr, hf⟩ => ?_
      subst hr
      refine thnF hf fun _ sg ⟨x, Hg, Ig, rg, yg, stg, ng⟩ => ?_
      have Ig' := Ig.pinned (own1 Ig ng) (T.obj _ _ stg)
      refine thnF (pg.run _ sg _ Hg x u _ Ig' rg (step x Hg yg)) fun _ sh ⟨σh, Hh, Ih, wh, qh⟩ => ?_
      refine thnF (pt.run _ sh σh Hh _ Ih qh) fun b si ⟨Hi, Ii, qi⟩ => ?_
      have fin : ∀ {s' : Shared} {H' : Hp}, L2.Inv (X.blk sc Hc scope ce fp) ([] ++ pinsAt fp sg.heap) σh H' s' → Nx H' → ∃ m, m < n ∧ ∃ i H', L2.Inv (X.blk sc Hc scope ce fp) [] (wipe σ (own.map (·.2))) H' s' ∧ tn i s'.heap ∧ (∀ b ∈ fp, H' b = none) ∧ W i m H' := by
        intro s' H' I' nx
        obtain ⟨m', hm, w'⟩ := less H' nx
        have held : ∀ b ∈ fp, ∀ o, sg.heap.get? b = some o → s'.heap.get? b = some o ∧ H' b = none := by
          intro b hb o e
          have z := I'.pin (b, o) (List.mem_append_right _ (List.mem_append_right _ (mem_pinsAt hb e)))
          exact ⟨z.1, z.2.1⟩
        have hl : (wipe σ (own.map (·.2))).length = σh.length := by rw [← wh, wipe_length]
        refine ⟨m', hm, i + 1, H', (I'.unpinned (pins := [])).weak hl (fun j v e => ?_), T.keep _ _ _ stg fun b hb o e => (held b hb o e).1, fun b hb => ?_, w'⟩
        · rw [← wh] at e
          exact (wipe_some e).1
        · obtain ⟨o, e, _⟩ := T.obj _ _ stg b hb
          exact (held b hb o e).2
      cases b with
      | false =>
        simp only [Bool.false_eq_true, if_false] at qi ⊢
        exact fin Ii qi
      | true =>
        simp only [if_true] at qi ⊢
        refine thnF (pk.run _ si σh Hi _ Ii qi) fun zk sj ⟨yk, Hj, Ij, rj, qj⟩ => ?_
        refine thnF (pv.run _ sj σh Hj _ Ij qj) fun zv sk ⟨yv, Hk, Ik, rk, H6, put, nx⟩ => ?_
        exact d_put (X := X.blk sc Hc scope ce fp) hu Ik put rj rk fun sl Il => fin Il nx
end
end Mir
namespace Mir
open PySem PySem.Spec PyProof.Rows L2
section
variable {K : PySem.W.Frag} {cl : Nat → Addr} {E : XK} {ρ : Rho} {H : Hp} {S : Store} {σ : L2.St} {X : Cx}
def dcL (t : Bool) (get : Nat → Store → Option D) (fin : Store → Bool) (f : D → Store → Out (Option (D × D))) : Nat → Nat → List (D × D) → Store → Out (List (D × D))
  | 0, _, kvs, S => if fin S then .ok kvs S else .bad
  | k + 1, i, kvs, S => match get i S with
    | some d => match f d S with
      | .ok none S1 => dcL t get fin f k (i + 1) kvs S1
      | .ok (some (a, b)) S1 => if isKey t a && Nat.ble kvs.length 16000000 then dcL t get fin f k (i + 1) (dPut t kvs a b) S1 else .bad
      | _ => .bad
    | none => .bad
def mPair (own : List Nat) (g : SG) (t : ST) (k v : SE) (env : Env) (d : D) (S : Store) : Out (Option (D × D)) :=
  (g d (wipeE env own) S).bind fun env1 S1 => (t env1 S1).bind fun c S2 => if c then (k env1 S2).bind fun y S3 => (v env1 S3).bind fun z S4 => .ok (some (y, z)) S4 else .ok none S2
def newDic (t : Bool) : Out (List (D × D)) → Out D
  | .ok kvs S2 => .ok (.ref S2.length) (S2 ++ [.dic t kvs])
  | _ => .bad
def mDC (own : List Nat) (t : Bool) (src : Env → Store → Out Src) (g : SG) (c : ST) (k v : SE) : SE := fun env S => (src env S).bind fun s S1 => newDic t (dcL t s.get s.fin (mPair own g c k v env) s.len 0 [] S1)
theorem dput_ob {ρ' : Rho} {H5 H' : Hp} {p : Addr} {t : Bool} {kvs : List (D × D)} {h : HO} {a b : D} {y z : V} (r : ROb K ρ' H' (.dic t kvs) h) (ra : RD K ρ' H' a y) (rb : RD K ρ' H' b z) (hk : isKey t a = true) (hl : kvs.length ≤ 16000000) (e : H5 p = some h)
    (sub : ∀ q u, H' q = some u → H5 q = some u) : ∃ h', DPut H5 p y z (upd H5 p h') ∧ ROb K ρ' H' (.dic t (dPut t kvs a b)) h' := by
  have line := sizeLine_eq
  cases t with
  | false =>
    obtain ⟨es, rfl, q⟩ := r
    obtain ⟨kk, hkk⟩ := Option.isSome_iff_exists.mp (show (keyD a).isSome = true from hk)
    have hle : kvs.length = es.length := Paired.length q
    cases keyD_at hkk ra
    exact ⟨_, DPut.k e (by omega), _, rfl, put_at q hkk rb⟩
  | true =>
    obtain ⟨es, rfl, q⟩ := r
    obtain ⟨kk, hkk⟩ := Option.isSome_iff_exists.mp (show (keyT a).isSome = true from hk)
    have hle : kvs.length = es.length := Paired.length q
    obtain ⟨c, rfl, hc⟩ := keyT_at hkk ra
    exact ⟨_, DPut.t e (sub _ _ hc) (by omega), _, rfl, put_at q hkk rb⟩
theorem dic0_ob (t : Bool) : ROb K ρ H (.dic t []) (dic0 t) := by
  cases t with
  | false => exact ⟨[], rfl, .nil⟩
  | true => exact ⟨[], rfl, .nil⟩
theorem l_dc {t : Bool} {vs : List Nat} {src : Env → Store → Out Src} {g : SG} {c : ST} {k v : SE} (σ : L2.St) (H : Hp) (Q : VK) (h : lE K cl E (mDC vs t src g c k v) σ H Q) :
    tDcA t (lI K cl E src) (lG K cl E0 (some vs) g) (lT K cl E0 c) (lE K cl E0 k) (lE K cl E0 v) vs σ H (fun v H' => Siz H' → Q v H') := by
  obtain ⟨ρ, env, S, rs, re, h⟩ := h
  refine ⟨ρ, env, S, rs, re, OKo.mono (OKo.bind h) fun J H1 z1 ⟨ρ1, S1, s, g1, rs1, sv, h1⟩ => ?_⟩
  clear h
  intro p np
  have re1 := re.grow g1
  refine ⟨fun i m H2 => ∃ ρ2 S2 G kvs hd, H2 = upd G p hd ∧ G p = none ∧ Grow ρ1 H1 ρ2 G ∧ RelS K ρ2 S2 G ∧ ROb K ρ2 G (.dic t kvs) hd ∧ m = s.len - i ∧ i ≤ s.len ∧ OKo K cl E ρ2 G (RD K) Q (newDic t (dcL t s.get s.fin (mPair vs g c k v env) (s.len - i) i kvs S2)),
    ⟨s.len, ρ1, S1, H1, [], _, rfl, np, Grow.refl, rs1, dic0_ob t, by simp, Nat.zero_le _, h1⟩, ?_⟩
  rintro i m H2 ⟨ρ2, S2, G, kvs, hd, rfl, nG, g2, rs2, ra, rfl, hi2, hq⟩
  have g2' : Grow ρ1 H1 (ρ2.hide p) (upd G p hd) := g2.trans (grow_hide nG)
  have rs2' : RelS K (ρ2.hide p) S2 (upd G p hd) := rs2.hide nG (ntab_ob ra)
  have nh : p ∉ ρ2.h := fun z => rs2.fresh nG (List.mem_append_right _ z)
  obtain ⟨sv1, sv2⟩ := sv _ _ .refl (ρ2.hide p) _ S2 g2' rs2'
  by_cases hlt : i < s.len
  · refine .inr ?_
    have hk : s.len - i = (s.len - (i + 1)) + 1 := by omega
    rw [hk] at hq
    unfold dcL at hq
    cases hget : s.get i S2 with
    | none => rw [hget] at hq; exact hq.elim
    | some d =>
      rw [hget] at hq
      obtain ⟨go, yld⟩ := sv1 i d hlt hget
      refine ⟨go, fun H3 => ∃ ρ2 S2 G kvs hd, H3 = upd G p hd ∧ G p = none ∧ Grow ρ1 H1 ρ2 G ∧ RelS K ρ2 S2 G ∧ ROb K ρ2 G (.dic t kvs) hd ∧ OKo K cl E ρ2 G (RD K) Q (newDic t (dcL t s.get s.fin (mPair vs g c k v env) (s.len - (i + 1)) (i + 1) kvs S2)),
        fun H3 ⟨ρ3, S3, G3, kv3, hd3, e1, e2, e3, e4, e5, e6⟩ => ⟨s.len - (i + 1), by omega, ρ3, S3, G3, kv3, hd3, e1, e2, e3, e4, e5, rfl, hlt, e6⟩, fun x H3 y => ?_⟩
      obtain ⟨gy, rsy, ry⟩ := yld x H3 y
      have back : ∀ {ρ4 : Rho} {H4 : Hp} {S4 : Store}, Grow (ρ2.hide p) (upd G p hd) ρ4 H4 → RelS K ρ4 S4 H4 → H4 p = some hd ∧ Grow ρ2 G (ρ4.shw p) (del H4 p) ∧ RelS K (ρ4.shw p) S4 (del H4 p) ∧ p ∈ ρ4.h := by
        intro ρ4 H4 S4 g4 rs4
        obtain ⟨_, ga, gm⟩ := Grow.shw nG nh g4
        have pl : p ∉ (ρ2.hide p).l := fun z => nl_of (rs2.fresh nG) z
        exact ⟨g4.fr p _ upd_same pl (ntab_ob ra).1, ga, rs4.shw gm, gm⟩
      have rew : RelE K (ρ2.hide p) H3 (wipeE env vs) (L2.wipe σ vs) := ((re1.grow g2').grow gy).wipe vs
      dsimp only at hq
      rw [mPair] at hq
      refine ⟨ρ2.hide p, wipeE env vs, S2, d, rsy, rew, ry, ?_⟩
      cases hg1 : g d (wipeE env vs) S2 with
      | bad => rw [hg1] at hq; exact hq.elim
      | ex c S3 => rw [hg1] at hq; exact hq.elim
      | ok env1 S3 =>
        rw [hg1] at hq
        intro ρ4 H4 σ4 g4 rs4 re4 z4 w4
        refine ⟨(show wipe σ4 vs = wipe (wipe σ vs) vs from w4).trans (wipe_idem σ vs), ρ4, env1, S3, rs4, re4, ?_⟩
        have g4 := gy.trans g4
        cases ht1 : c env1 S3 with
        | bad => simp only [Out.bind, ht1] at hq; exact hq.elim
        | ex c S5 => simp only [Out.bind, ht1] at hq; exact hq.elim
        | ok c1 S5 =>
          simp only [Out.bind, ht1] at hq
          intro ρ5 H5 c' g5 rs5 rc z5
          cases (show c1 = c' from rc)
          have g5' := g4.trans g5
          cases c1 with
          | false =>
            rw [if_neg Bool.false_ne_true] at hq ⊢
            obtain ⟨hp5, ga5, rsa5, gm5⟩ := back g5' rs5
            exact ⟨ρ5.shw p, S5, del H5 p, kvs, hd, (del_upd hp5).symm, del_same, g2.trans ga5, rsa5, ra.grow ga5, OKo.grow ga5 hq⟩
          | true =>
            rw [if_pos rfl] at hq ⊢
            refine ⟨ρ5, env1, S5, rs5, re4.grow g5, ?_⟩
            cases hk1 : k env1 S5 with
            | bad => simp only [hk1] at hq; exact hq.elim
            | ex c S6 => simp only [hk1] at hq; exact hq.elim
            | ok a S6 =>
              simp only [hk1] at hq
              intro ρ6 H6 va g6 rs6 rva z6
              refine ⟨ρ6, env1, S6, rs6, (re4.grow g5).grow g6, ?_⟩
              cases hv1 : v env1 S6 with
              | bad => simp only [hv1] at hq; exact hq.elim
              | ex c S7 => simp only [hv1] at hq; exact hq.elim
              | ok b S7 =>
                simp only [hv1] at hq
                intro ρ7 H7 vb g7 rs7 rvb z7
                have g7' := (g5'.trans g6).trans g7
                obtain ⟨hp7, ga7, rsa7, gm7⟩ := back g7' rs7
                split at hq
                · rename_i hc
                  rw [Bool.and_eq_true] at hc
                  obtain ⟨h', put, ob⟩ := dput_ob (ra.grow ga7) ((rva.grow g7).shw gm7) (rvb.shw gm7) hc.1 (Nat.le_of_ble_eq_true hc.2) hp7 fun q u e => by
                    by_cases eq : q = p
                    · subst eq; rw [del_same] at e; cases e
                    · rw [del_ne eq] at e; exact e
                  refine ⟨_, put, ρ7.shw p, S7, del H7 p, _, h', ?_, del_same, g2.trans ga7, rsa7, ob, OKo.grow ga7 hq⟩
                  funext q
                  by_cases eq : q = p
                  · subst eq; rw [upd_same, upd_same]
                  · rw [upd_ne eq, upd_ne eq, del_ne eq]
                · exact hq.elim
  · have hie : i = s.len := by omega
    subst hie
    refine .inl ?_
    rw [Nat.sub_self] at hq
    unfold dcL at hq
    cases hf : s.fin S2 with
    | false => rw [hf] at hq; exact hq.elim
    | true =>
      rw [hf] at hq
      refine ⟨sv2 hf, fun z3 => ?_⟩
      exact hq (ρ2.push p) _ _ (grow_new nG) (rs2.push nG ra) (RD.newRef rs2) z3
theorem c_dc {t : Bool} {kx vx tg iter : Expr} {ifs : List Expr} {scope : Scope} {own : List (Str × Nat)} {pos : Pos} {src : Env → Store → Out Src} {g : SG} {c : ST} {k v : SE} (hu : X.A.units + 1 < cLine) (hc : X.calm = true) (hN : X.N.Nodup) (hi : PI X tg iter (lI X.K cl E src)) (ok : BlkOk X.N X.env.scope scope own)
    (hg : ∀ (s : Shared) (H : Hp) (C : Addr) (cs : List (Str × Addr)) (fp : List Addr), PG (X.blk s H scope (compEnvC scope cs C X.env) fp) tg (lG X.K cl E0 (some (own.map (·.2))) g))
    (ht : ∀ (s : Shared) (H : Hp) (C : Addr) (cs : List (Str × Addr)) (fp : List Addr), PTs (X.blk s H scope (compEnvC scope cs C X.env) fp) ifs (lT X.K cl E0 c))
    (hk : ∀ (s : Shared) (H : Hp) (C : Addr) (cs : List (Str × Addr)) (fp : List Addr), PE (X.blk s H scope (compEnvC scope cs C X.env) fp) kx (lE X.K cl E0 k))
    (hv : ∀ (s : Shared) (H : Hp) (C : Addr) (cs : List (Str × Addr)) (fp : List Addr), PE (X.blk s H scope (compEnvC scope cs C X.env) fp) vx (lE X.K cl E0 v)) (hs : ∀ x, foldedSetIterable iter X.env x = pure x) :
    PE X (.DictComp kx vx [⟨tg, iter, ifs, 0⟩] scope pos) (lE X.K cl E (mDC (own.map (·.2)) t src g c k v)) :=
  PE.via (pe_dcA (t := t) hu hc hN hi ok hg ht hk hv hs) fun σ H Q _ h => l_dc σ H Q h
end
end Mir
end

section
set_option Elab.async false
set_option linter.all false
set_option maxRecDepth 100000
set_option maxHeartbeats 2000000
/-! Mir6d: sums, greatest and least of tuples of ints; displays of one pair. -/
namespace Mir
open PySem PySem.Spec PyProof.Rows L2
section
variable {prog : Program} {w : World} {A : Around} {E : Value → Shared → Prop} {s : Shared} {l : Addr} {xs : Array (Int × Tok)} {its : List Value} {ns : List Int} {Q : Value → Shared → Prop}
abbrev tupIt (l : Addr) : Obj := { cls := .type "tuple_iterator", data := .fields #[.ref l, .int 0 0] }
theorem iter_tupI (ht : s.heap.IsTuple l (intItems xs))
    (h : ∀ s₂ : Shared, s₂ = { s with heap := s.heap.push (tupIt l) } → (s₂.heap.IsTupleIter s.heap.objs.size l 0 ∧ s₂.heap.IsTuple l (intItems xs)) → (∀ b ∈ [s.heap.objs.size, l], b < s₂.heap.objs.size) → l ≠ s.heap.objs.size → Q (.ref s.heap.objs.size) s₂) : wpAny (model prog w) A (pyIter (.ref l)) Q E s := by
  have lt : l < s.heap.objs.size := by
    obtain ⟨_, e, _⟩ := ht
    exact Heap.lt_size e
  refine wpAny_pyIter_tuple ht (h _ rfl ⟨⟨_, Heap.get?_push_size _ rfl, rfl, rfl⟩, ht.push _⟩ ?_ (Nat.ne_of_lt lt))
  intro b hb
  show b < (s.heap.push _).objs.size
  rw [Heap.size_push]
  have : b = s.heap.objs.size ∨ b = l := by simpa using hb
  rcases this with e | e
  · rw [e]; exact Nat.lt_succ_self _
  · rw [e]; exact Nat.lt_succ_of_lt lt
theorem kept_tupI {h' : Heap} (hk : ∀ b o, b ∉ [s.heap.objs.size] → (s.heap.push (tupIt l)).get? b = some o → h'.get? b = some o) (b : Addr) (o : Obj) (e : s.heap.get? b = some o) : h'.get? b = some o := by
  have lt := Heap.lt_size e
  refine hk b o ?_ (Heap.get?_push_of_some _ e)
  intro z
  have z : b = s.heap.objs.size := by simpa using z
  rw [z] at lt
  exact Nat.lt_irrefl _ lt
theorem sum_tupI (hh : A.handled = none) (ht : s.heap.IsTuple l its.toArray) (hi : IntsAre its ns)
    (h : ∀ h' tk t', (∀ b o, s.heap.get? b = some o → h'.get? b = some o) → Q (.int ns.sum t') { s with heap := h', toks := tk }) : wpAny (model prog w) A (call (.builtin "sum") [.ref l]) Q E s := by
  obtain ⟨xs, e⟩ := hi.allInts.items
  have hn : numsOf (intItems xs).toList = ns := by rw [← e]; exact hi.numsOf
  rw [nums_intItems] at hn
  rw [e] at ht
  refine call_sum_walkG (iter_tupI ht fun s₂ es st hfp ne => ?_)
  subst es
  refine ⟨_, _, _, _, _, _, numAt xs, rfl, Walks.tuple (A := A.in1) hh _ l ne (intItems xs), st, hfp, (fun _ _ => intItems_at), fun h' tk t' hk => ?_⟩
  have z := h h' tk t' (kept_tupI hk)
  have e2 : ns.sum = preSum (numAt xs) (intItems xs).size := by
    rw [preSum_eq, List.take_of_length_le (by simp [intItems]), hn]
  rw [← e2]
  exact z
theorem max_tupI (hh : A.handled = none) (ht : s.heap.IsTuple l its.toArray) (hi : IntsAre its ns) (hne : 0 < ns.length)
    (h : ∀ h' tk M t', (∀ b o, s.heap.get? b = some o → h'.get? b = some o) → M ∈ ns → (∀ a, a ∈ ns → a ≤ M) → Q (.int M t') { s with heap := h', toks := tk }) : wpAny (model prog w) A (call (.builtin "max") [.ref l]) Q E s := by
  obtain ⟨xs, e⟩ := hi.allInts.items
  have hn : numsOf (intItems xs).toList = ns := by rw [← e]; exact hi.numsOf
  rw [nums_intItems] at hn
  subst hn
  rw [e] at ht
  have pos : 0 < xs.size := by simpa using hne
  refine call_max_walk (iter_tupI ht fun s₂ es st hfp ne => ?_)
  subst es
  refine ⟨_, _, _, _, _, _, _, rfl, Walks.tuple (A := A.in1) hh _ l ne (intItems xs), st, hfp, by simpa [intItems] using pos, CmpOf.ints_gt (numAt xs) (fun _ _ => intItems_at), fun v h' tk hP hk => ?_⟩
  have hv : (intItems xs)[argBest (fun i j => decide (numAt xs i > numAt xs j)) (xs.size - 1)]? = some v := by simpa [intItems] using hP
  obtain ⟨t, rfl⟩ := intItems_at hv
  obtain ⟨b1, b2⟩ := argBest_gt (numAt xs) (xs.size - 1)
  refine h h' tk _ t (kept_tupI hk) ?_ fun a ha => ?_
  · rw [numAt_eq]
    exact PySem.getD_mem (by rw [List.length_map, Array.length_toList]; omega)
  · obtain ⟨j, hj, rfl⟩ := mem_getD ha
    rw [List.length_map, Array.length_toList] at hj
    rw [← numAt_eq]
    exact b2 j (by omega)
theorem min_tupI (hh : A.handled = none) (ht : s.heap.IsTuple l its.toArray) (hi : IntsAre its ns) (hne : 0 < ns.length)
    (h : ∀ h' tk M t', (∀ b o, s.heap.get? b = some o → h'.get? b = some o) → M ∈ ns → (∀ a, a ∈ ns → M ≤ a) → Q (.int M t') { s with heap := h', toks := tk }) : wpAny (model prog w) A (call (.builtin "min") [.ref l]) Q E s := by
  obtain ⟨xs, e⟩ := hi.allInts.items
  have hn : numsOf (intItems xs).toList = ns := by rw [← e]; exact hi.numsOf
  rw [nums_intItems] at hn
  subst hn
  rw [e] at ht
  have pos : 0 < xs.size := by simpa using hne
  refine call_min_walk (iter_tupI ht fun s₂ es st hfp ne => ?_)
  subst es
  refine ⟨_, _, _, _, _, _, _, rfl, Walks.tuple (A := A.in1) hh _ l ne (intItems xs), st, hfp, by simpa [intItems] using pos, CmpOf.ints_lt (numAt xs) (fun _ _ => intItems_at), fun v h' tk hP hk => ?_⟩
  have hv : (intItems xs)[argBest (fun i j => decide (numAt xs i < numAt xs j)) (xs.size - 1)]? = some v := by simpa [intItems] using hP
  obtain ⟨t, rfl⟩ := intItems_at hv
  obtain ⟨b1, b2⟩ := argBest_lt (numAt xs) (xs.size - 1)
  refine h h' tk _ t (kept_tupI hk) ?_ fun a ha => ?_
  · rw [numAt_eq]
    exact PySem.getD_mem (by rw [List.length_map, Array.length_toList]; omega)
  · obtain ⟨j, hj, rfl⟩ := mem_getD ha
    rw [List.length_map, Array.length_toList] at hj
    rw [← numAt_eq]
    exact b2 j (by omega)
end
section
variable {K : PySem.W.Frag} {cl : Nat → Addr} {E : XK} {ρ : Rho} {H : Hp} {S : Store} {σ : L2.St} {X : Cx}
theorem tupInts_at {xs : List D} {ns : List Int} {v : V} (h : intsOf xs = some ns) (r : RD K ρ H (.tup xs) v) : ∃ a, v = .ref a ∧ SqT K H a (ns.map V.int) := by
  obtain ⟨a, vs, rfl, hs, q⟩ := r.tupT
  rw [intsOf_at h q] at hs
  exact ⟨a, rfl, hs⟩
def vSum2 : VL := fun ds S => match ds with
  | [.tup xs] => match intsOf xs with
    | some ns => .ok (.int ns.sum) S
    | none => .bad
  | ds => vSum ds S
def vMax2 : VL := fun ds S => match ds with
  | [.tup xs] => match intsOf xs with
    | some (n :: ns) => .ok (.int (maxI n ns)) S
    | _ => .bad
  | ds => vMax ds S
def vMin2 : VL := fun ds S => match ds with
  | [.tup xs] => match intsOf xs with
    | some (n :: ns) => .ok (.int (minI n ns)) S
    | _ => .bad
  | ds => vMin ds S
theorem maxI_uniq {n : Int} {ns : List Int} {m : Int} (hm : m ∈ n :: ns) (hy : ∀ y, y ∈ n :: ns → y ≤ m) : m = maxI n ns := by
  have h1 := hy _ (maxI_mem ns n)
  obtain ⟨h2, h3⟩ := maxI_ge ns n
  rcases List.mem_cons.mp hm with rfl | hm
  · omega
  · have := h3 m hm; omega
theorem minI_uniq {n : Int} {ns : List Int} {m : Int} (hm : m ∈ n :: ns) (hy : ∀ y, y ∈ n :: ns → m ≤ y) : m = minI n ns := by
  have h1 := hy _ (minI_mem ns n)
  obtain ⟨h2, h3⟩ := minI_le ns n
  rcases List.mem_cons.mp hm with rfl | hm
  · omega
  · have := h3 m hm; omega
/-- a built-in of one tuple of ints -/
def rTupI (K : PySem.W.Frag) (c : List Int → Int → Prop) : List V → Hp → VK → Prop := fun vs H Q => ∃ (a : Addr) (ns : List Int), vs = [V.ref a] ∧ SqT K H a (ns.map V.int) ∧ (∀ m, c ns m → Q (.int m) H) ∧ (c = (fun ns m => m = ns.sum) ∨ 0 < ns.length)
theorem cr_sumT (hc : X.calm = true) : CallR X (.builtin "sum") (rTupI X.K fun ns m => m = ns.sum) := by
  intro pins s σ H vs us Q I r h
  obtain ⟨a, ns, rfl, hs, q, _⟩ := h
  obtain ⟨its, rv, hl, _⟩ := I.tuple hs
  rw [Vals.ref1 r]
  exact sum_tupI (I.ok.hd hc) (show s.heap.IsTuple a its.toArray from hl) rv.ints fun h' tk t' hk => ⟨.int _, H, I.kept hk, ⟨_, rfl⟩, q _ rfl⟩
theorem cr_maxT (hc : X.calm = true) : CallR X (.builtin "max") (fun vs H Q => ∃ (a : Addr) (ns : List Int), vs = [V.ref a] ∧ SqT X.K H a (ns.map V.int) ∧ 0 < ns.length ∧ ∀ m, m ∈ ns → (∀ y, y ∈ ns → y ≤ m) → Q (.int m) H) := by
  intro pins s σ H vs us Q I r h
  obtain ⟨a, ns, rfl, hs, hne, q⟩ := h
  obtain ⟨its, rv, hl, _⟩ := I.tuple hs
  rw [Vals.ref1 r]
  exact max_tupI (I.ok.hd hc) (show s.heap.IsTuple a its.toArray from hl) rv.ints hne fun h' tk m t' hk h1 h2 => ⟨.int _, H, I.kept hk, ⟨_, rfl⟩, q m h1 h2⟩
theorem cr_minT (hc : X.calm = true) : CallR X (.builtin "min") (fun vs H Q => ∃ (a : Addr) (ns : List Int), vs = [V.ref a] ∧ SqT X.K H a (ns.map V.int) ∧ 0 < ns.length ∧ ∀ m, m ∈ ns → (∀ y, y ∈ ns → m ≤ y) → Q (.int m) H) := by
  intro pins s σ H vs us Q I r h
  obtain ⟨a, ns, rfl, hs, hne, q⟩ := h
  obtain ⟨its, rv, hl, _⟩ := I.tuple hs
  rw [Vals.ref1 r]
  exact min_tupI (I.ok.hd hc) (show s.heap.IsTuple a its.toArray from hl) rv.ints hne fun h' tk m t' hk h1 h2 => ⟨.int _, H, I.kept hk, ⟨_, rfl⟩, q m h1 h2⟩
theorem cb_sum2 (hc : X.calm = true) : CallR X (.builtin "sum") (wL X.K cl E vSum2) := by
  refine CallR.cases fun vs H Q z h => ?_
  obtain ⟨ρ, S, ds, rs, rd, h⟩ := h
  unfold vSum2 at h
  split at h
  · split at h
    · rename_i hi
      obtain ⟨v, rfl, r⟩ := rd.one
      obtain ⟨a, rfl, hs⟩ := tupInts_at hi r
      exact ⟨_, cr_sumT hc, a, _, rfl, hs, fun m e => by rw [e]; exact ok_val rs h RD.int, .inl rfl⟩
    · exact h.elim
  · exact ⟨_, cb_sum hc, ρ, S, ds, rs, rd, OKo.mono h fun v H1 z q _ => q⟩
theorem cb_max2 (hc : X.calm = true) : CallR X (.builtin "max") (wL X.K cl E vMax2) := by
  refine CallR.cases fun vs H Q z h => ?_
  obtain ⟨ρ, S, ds, rs, rd, h⟩ := h
  unfold vMax2 at h
  split at h
  · split at h
    · rename_i hi
      obtain ⟨v, rfl, r⟩ := rd.one
      obtain ⟨a, rfl, hs⟩ := tupInts_at hi r
      exact ⟨_, cr_maxT hc, a, _, rfl, hs, by simp, fun m hm hy => by rw [maxI_uniq hm hy]; exact ok_val rs h RD.int⟩
    · exact h.elim
  · exact ⟨_, cb_max hc, ρ, S, ds, rs, rd, OKo.mono h fun v H1 z q _ => q⟩
theorem cb_min2 (hc : X.calm = true) : CallR X (.builtin "min") (wL X.K cl E vMin2) := by
  refine CallR.cases fun vs H Q z h => ?_
  obtain ⟨ρ, S, ds, rs, rd, h⟩ := h
  unfold vMin2 at h
  split at h
  · split at h
    · rename_i hi
      obtain ⟨v, rfl, r⟩ := rd.one
      obtain ⟨a, rfl, hs⟩ := tupInts_at hi r
      exact ⟨_, cr_minT hc, a, _, rfl, hs, by simp, fun m hm hy => by rw [minI_uniq hm hy]; exact ok_val rs h RD.int⟩
    · exact h.elim
  · exact ⟨_, cb_min hc, ρ, S, ds, rs, rd, OKo.mono h fun v H1 z q _ => q⟩

/-! ### {k: v} -/
def mDisp1 (k v : SE) : SE := fun env S => (k env S).bind fun a S1 => (v env S1).bind fun b S2 => if isKey false a then .ok (.ref S2.length) (S2 ++ [.dic false [(a, b)]]) else .bad
theorem c_disp1 {k v : Expr} {pos : Pos} {mk mv : SE} (hk : PE X k (lE X.K cl E mk)) (hv : PE X v (lE X.K cl E mv)) : PE X (.Dict [some k] [v] pos) (lE X.K cl E (mDisp1 mk mv)) := by
  refine PE.via (pe_disp (pps_cons hk hv pps_nil) rfl rfl (by simp) (by simp)) fun σ H Q z h => ?_
  obtain ⟨ρ, env, S, rs, re, h⟩ := h
  intro p np
  have rs0 : RelS X.K (ρ.hide p) S (upd H p (.dK [])) := rs.hide np ntab_dK
  have re0 := re.grow (grow_hide (o := .dK []) np)
  have nh : p ∉ ρ.h := fun z => rs.fresh np (List.mem_append_right _ z)
  unfold mDisp1 at h
  refine ⟨ρ.hide p, env, S, rs0, re0, ?_⟩
  cases hm : mk env S with
  | bad => rw [hm] at h; exact h.elim
  | ex c S1 =>
    rw [hm] at h
    exact fun ρ' H' g rs' => h ρ' H' ((grow_hide np).trans g) rs'
  | ok a S1 =>
    rw [hm] at h
    have h : OKo X.K cl E ρ H (RD X.K) Q ((mv env S1).bind fun b S2 => if isKey false a then .ok (.ref S2.length) (S2 ++ [.dic false [(a, b)]]) else .bad) := h
    intro ρ1 H1 x g1 rs1 ra z1
    refine ⟨ρ1, env, S1, rs1, re0.grow g1, ?_⟩
    cases hn : mv env S1 with
    | bad => rw [hn] at h; exact h.elim
    | ex c S2 =>
      rw [hn] at h
      exact fun ρ' H' g rs' => h ρ' H' ((grow_hide np).trans (g1.trans g)) rs'
    | ok b S2 =>
      rw [hn] at h
      have h : OKo X.K cl E ρ H (RD X.K) Q (if isKey false a then .ok (.ref S2.length) (S2 ++ [.dic false [(a, b)]]) else .bad) := h
      intro ρ2 H2 y g2 rs2 rb z2
      have g12 := g1.trans g2
      split at h
      · rename_i hc
        obtain ⟨kk, hkk⟩ := Option.isSome_iff_exists.mp (show (keyD a).isSome = true from hc)
        obtain ⟨_, ga, gm⟩ := Grow.shw np nh g12
        have pl : p ∉ (ρ.hide p).l := fun z => nl_of (rs.fresh np) z
        have hp : H2 p = some (.dK []) := g12.fr p _ upd_same pl (fun _ e => by cases e)
        cases keyD_at hkk ra
        refine ⟨hp, [(kk, y)], rfl, by simp, fun z3 => ?_⟩
        have rs3 := rs2.shw gm
        have ob : ROb X.K (ρ2.shw p) (del H2 p) (.dic false [(a, b)]) (.dK [(kk, y)]) := ⟨_, rfl, .cons ⟨hkk, rb.shw gm⟩ .nil⟩
        have e : upd H2 p (.dK (mergeK [] [(kk, y)])) = upd (del H2 p) p (.dK [(kk, y)]) := by
          funext q
          by_cases eq : q = p
          · subst eq; rw [upd_same, upd_same]; rfl
          · rw [upd_ne eq, upd_ne eq, del_ne eq]
        rw [e] at z3 ⊢
        exact h _ _ _ (ga.trans (grow_new del_same)) (rs3.push del_same ob) (RD.newRef rs3) z3
      · exact h.elim
end
end Mir
end

section
set_option Elab.async false
set_option linter.all false
set_option maxRecDepth 100000
set_option maxHeartbeats 4000000
/-! Mir6e: list comprehensions of two walks. -/
namespace Mir
open PySem PySem.Spec PyProof.Rows L2
section
variable {K : PySem.W.Frag} {cl : Nat → Addr} {E : XK} {ρ : Rho} {H : Hp} {S : Store} {σ : L2.St} {X : Cx}
/-- the lists that are made of the items, one behind another -/
def compA (get : Nat → Store → Option D) (fin : Store → Bool) (f : D → Store → Out (List D)) : Nat → Nat → Store → Out (List D)
  | 0, _, S => if fin S then .ok [] S else .bad
  | k + 1, i, S => match get i S with
    | some d => match f d S with
      | .ok xs S1 => match compA get fin f k (i + 1) S1 with
        | .ok ys S2 => .ok (xs ++ ys) S2
        | _ => .bad
      | _ => .bad
    | none => .bad
def mIn (own vs1 : List Nat) (g : SG) (t : ST) (src1 : Env → Store → Out Src) (g1 : SG) (t1 : ST) (e : SE) (env : Env) (d : D) (S : Store) : Out (List D) :=
  (g d (wipeE env own) S).bind fun env1 S1 => (t env1 S1).bind fun c S2 => if c then (src1 env1 S2).bind fun s1 S3 => compL s1.get s1.fin (mElt vs1 g1 t1 e env1) s1.len 0 S3 else .ok [] S2
/-- the list's end: it is not too long -/
def endL (mt : Bool) (ys : List D) (S : Store) : Out D := if Nat.ble ys.length 16777216 then mkL mt ys S else .bad
def mLC2 (own vs1 : List Nat) (mt : Bool) (src : Env → Store → Out Src) (g : SG) (t : ST) (src1 : Env → Store → Out Src) (g1 : SG) (t1 : ST) (e : SE) : SE := fun env S => (src env S).bind fun s S1 =>
  match compA s.get s.fin (mIn own vs1 g t src1 g1 t1 e env) s.len 0 S1 with
  | .ok ys S2 => endL mt ys S2
  | _ => .bad
/-- what is left of the outer walk behind acc -/
def outW (mt : Bool) (acc : List D) (r : Out (List D)) : Out D := match r with
  | .ok ys S2 => endL mt (acc ++ ys) S2
  | _ => .bad
/-- what is left of the inner walk, then of the outer one -/
def inW (mt : Bool) (next : Store → Out (List D)) (acc : List D) (r : Out (List D)) : Out D := match r with
  | .ok ys S2 => outW mt (acc ++ ys) (next S2)
  | _ => .bad
theorem endL_len {mt : Bool} {ys : List D} {S : Store} {Q : VK} (h : OKo K cl E ρ H (RD K) Q (endL mt ys S)) : ys.length ≤ 16777216 ∧ OKo K cl E ρ H (RD K) Q (mkL mt ys S) := by
  unfold endL at h
  split at h
  · rename_i hb
    exact ⟨Nat.le_of_ble_eq_true hb, h⟩
  · exact h.elim
theorem outW_len {mt : Bool} {acc : List D} {r : Out (List D)} {Q : VK} (h : OKo K cl E ρ H (RD K) Q (outW mt acc r)) : acc.length ≤ 16777216 := by
  unfold outW at h
  split at h
  · have h1 := (endL_len h).1
    rw [List.length_append] at h1
    omega
  · exact h.elim
theorem inW_len {mt : Bool} {next : Store → Out (List D)} {acc : List D} {r : Out (List D)} {Q : VK} (h : OKo K cl E ρ H (RD K) Q (inW mt next acc r)) : acc.length ≤ 16777216 := by
  unfold inW at h
  split at h
  · have h1 := outW_len h
    rw [List.length_append] at h1
    omega
  · exact h.elim
theorem l_lc2 {mt : Bool} {vs vs1 : List Nat} {src src1 : Env → Store → Out Src} {g g1 : SG} {t t1 : ST} {e : SE} (σ : L2.St) (H : Hp) (Q : VK) (h : lE K cl E (mLC2 vs vs1 mt src g t src1 g1 t1 e) σ H Q) :
    tLc2 (lI K cl E src) (lG K cl E0 (some vs) g) (lT K cl E0 t) (lI K cl E0 src1) (lG K cl E0 (some vs1) g1) (lT K cl E0 t1) (lE K cl E0 e) vs vs1 σ H (fun v H' => Siz H' → Q v H') := by
  have hsl := sizeLine_eq
  obtain ⟨ρ, env, S, rs, re, h⟩ := h
  refine ⟨ρ, env, S, rs, re, OKo.mono (OKo.bind h) fun J H1 z1 ⟨ρ1, S1, s, gr1, rs1, sv, h1⟩ => ?_⟩
  clear h
  intro p np
  have re1 := re.grow gr1
  have h1 : OKo K cl E ρ1 H1 (RD K) Q (outW mt [] (compA s.get s.fin (mIn vs vs1 g t src1 g1 t1 e env) s.len 0 S1)) := by
    unfold outW
    simp only [List.nil_append]
    exact h1
  refine ⟨fun i m H2 => ∃ ρ2 S2 G acc ws, H2 = upd G p (.lst ws) ∧ G p = none ∧ Grow ρ1 H1 ρ2 G ∧ RelS K ρ2 S2 G ∧ RDs K ρ2 G acc ws ∧ m = s.len - i ∧ i ≤ s.len ∧ OKo K cl E ρ2 G (RD K) Q (outW mt acc (compA s.get s.fin (mIn vs vs1 g t src1 g1 t1 e env) (s.len - i) i S2)),
    ⟨s.len, ρ1, S1, H1, [], [], rfl, np, Grow.refl, rs1, RDs.nil, by simp, Nat.zero_le _, h1⟩, ?_⟩
  rintro i m H2 ⟨ρ2, S2, G, acc, ws, rfl, nG, g2, rs2, ra, rfl, hi2, hq⟩
  have g2' : Grow ρ1 H1 (ρ2.hide p) (upd G p (.lst ws)) := g2.trans (grow_hide nG)
  have rs2' : RelS K (ρ2.hide p) S2 (upd G p (.lst ws)) := rs2.hide nG ntab_lst
  have nh : p ∉ ρ2.h := fun z => rs2.fresh nG (List.mem_append_right _ z)
  obtain ⟨sv1, sv2⟩ := sv _ _ .refl (ρ2.hide p) _ S2 g2' rs2'
  by_cases hlt : i < s.len
  · refine .inr ?_
    have hk : s.len - i = (s.len - (i + 1)) + 1 := by omega
    rw [hk] at hq
    unfold compA at hq
    cases hget : s.get i S2 with
    | none => rw [hget] at hq; exact hq.elim
    | some d =>
      rw [hget] at hq
      obtain ⟨go, yld⟩ := sv1 i d hlt hget
      refine ⟨go, fun H3 => ∃ ρ2 S2 G acc ws, H3 = upd G p (.lst ws) ∧ G p = none ∧ Grow ρ1 H1 ρ2 G ∧ RelS K ρ2 S2 G ∧ RDs K ρ2 G acc ws ∧ OKo K cl E ρ2 G (RD K) Q (outW mt acc (compA s.get s.fin (mIn vs vs1 g t src1 g1 t1 e env) (s.len - (i + 1)) (i + 1) S2)),
        fun H3 ⟨ρ3, S3, G3, acc3, ws3, e1, e2, e3, e4, e5, e6⟩ => ⟨s.len - (i + 1), by omega, ρ3, S3, G3, acc3, ws3, e1, e2, e3, e4, e5, rfl, hlt, e6⟩, fun x H3 y => ?_⟩
      obtain ⟨gy, rsy, ry⟩ := yld x H3 y
      have pl : p ∉ (ρ2.hide p).l := fun z => nl_of (rs2.fresh nG) z
      have back : ∀ {ρ4 : Rho} {H4 : Hp} {S4 : Store}, Grow (ρ2.hide p) (upd G p (.lst ws)) ρ4 H4 → RelS K ρ4 S4 H4 → H4 p = some (.lst ws) ∧ Grow ρ2 G (ρ4.shw p) (del H4 p) ∧ RelS K (ρ4.shw p) S4 (del H4 p) ∧ p ∈ ρ4.h := by
        intro ρ4 H4 S4 g4 rs4
        obtain ⟨_, ga, gm⟩ := Grow.shw nG nh g4
        exact ⟨g4.fr p _ upd_same pl (fun _ z => by cases z), ga, rs4.shw gm, gm⟩
      have rew : RelE K (ρ2.hide p) H3 (wipeE env vs) (L2.wipe σ vs) := ((re1.grow g2').grow gy).wipe vs
      -- the outer walk's rest
      generalize hnext : (fun S1 => compA s.get s.fin (mIn vs vs1 g t src1 g1 t1 e env) (s.len - (i + 1)) (i + 1) S1) = next at *
      have hnx : ∀ S1, compA s.get s.fin (mIn vs vs1 g t src1 g1 t1 e env) (s.len - (i + 1)) (i + 1) S1 = next S1 := fun S1 => congrFun hnext S1
      simp only [hnx] at hq ⊢
      have hq : OKo K cl E ρ2 G (RD K) Q (inW mt next acc (mIn vs vs1 g t src1 g1 t1 e env d S2)) := by
        unfold inW
        cases hm : mIn vs vs1 g t src1 g1 t1 e env d S2 with
        | bad => rw [hm] at hq; exact hq
        | ex c S3 => rw [hm] at hq; exact hq
        | ok xs S3 =>
          rw [hm] at hq
          dsimp only at hq ⊢
          unfold outW at hq ⊢
          cases hn : next S3 with
          | bad => rw [hn] at hq; exact hq
          | ex c S4 => rw [hn] at hq; exact hq
          | ok ys S4 => rw [hn] at hq; dsimp only at hq ⊢; rw [List.append_assoc]; exact hq
      rw [mIn] at hq
      refine ⟨ρ2.hide p, wipeE env vs, S2, d, rsy, rew, ry, ?_⟩
      cases hg1 : g d (wipeE env vs) S2 with
      | bad => rw [hg1] at hq; exact hq.elim
      | ex c S3 => rw [hg1] at hq; exact hq.elim
      | ok env1 S3 =>
        rw [hg1] at hq
        intro ρ4 H4 σ4 g4 rs4 re4 z4 w4
        refine ⟨(show wipe σ4 vs = wipe (wipe σ vs) vs from w4).trans (wipe_idem σ vs), ρ4, env1, S3, rs4, re4, ?_⟩
        have g4 := gy.trans g4
        cases ht1 : t env1 S3 with
        | bad => simp only [Out.bind, ht1] at hq; exact hq.elim
        | ex c S5 => simp only [Out.bind, ht1] at hq; exact hq.elim
        | ok c S5 =>
          simp only [Out.bind, ht1] at hq
          intro ρ5 H5 c' g5 rs5 rc z5
          cases (show c = c' from rc)
          have g5' := g4.trans g5
          cases c with
          | false =>
            rw [if_neg Bool.false_ne_true] at hq ⊢
            obtain ⟨hp5, ga5, rsa5, gm5⟩ := back g5' rs5
            refine ⟨ρ5.shw p, S5, del H5 p, acc, ws, (del_upd hp5).symm, del_same, g2.trans ga5, rsa5, ra.grow ga5, ?_⟩
            have hq := OKo.grow ga5 hq
            unfold inW at hq
            simpa using hq
          | true =>
            rw [if_pos rfl] at hq ⊢
            refine ⟨ρ5, env1, S5, rs5, re4.grow g5, ?_⟩
            cases hs1 : src1 env1 S5 with
            | bad => simp only [hs1] at hq; exact hq.elim
            | ex c S6 => simp only [hs1] at hq; exact hq.elim
            | ok s1 S6 =>
              simp only [hs1] at hq
              intro ρ6 H6 J1 g6 rs6 sv6 z6
              have re6 := (re4.grow g5).grow g6
              have g6' := g5'.trans g6
              obtain ⟨hp6, ga6, rsa6, gm6⟩ := back g6' rs6
              have hq := OKo.grow ga6 hq
              have re6' : ∀ {ρ7 : Rho} {H7 : Hp}, Grow (ρ6.shw p) (del H6 p) ρ7 H7 → RelE K ρ7 H7 env1 σ4 := fun gg => ⟨re6.1, fun i d e => let ⟨v, e', r⟩ := re6.2 i d e; ⟨v, e', (r.shw gm6).grow gg⟩⟩
              refine ⟨fun j k H7 => ∃ ρ7 S7 G7 acc7 ws7, H7 = upd G7 p (.lst ws7) ∧ G7 p = none ∧ Grow (ρ6.shw p) (del H6 p) ρ7 G7 ∧ RelS K ρ7 S7 G7 ∧ RDs K ρ7 G7 acc7 ws7 ∧ k = s1.len - j ∧ j ≤ s1.len ∧ OKo K cl E ρ7 G7 (RD K) Q (inW mt next acc7 (compL s1.get s1.fin (mElt vs1 g1 t1 e env1) (s1.len - j) j S7)),
                ⟨s1.len, ρ6.shw p, S6, del H6 p, acc, ws, (del_upd hp6).symm, del_same, Grow.refl, rsa6, ra.grow ga6, by simp, Nat.zero_le _, hq⟩, ?_⟩
              clear hq
              rintro j k H7 ⟨ρ7, S7, G7, acc7, ws7, rfl, nG7, g7, rs7, ra7, rfl, hj, hq⟩
              have g7' : Grow (ρ6.shw p) (del H6 p) (ρ7.hide p) (upd G7 p (.lst ws7)) := g7.trans (grow_hide nG7)
              have rs7' : RelS K (ρ7.hide p) S7 (upd G7 p (.lst ws7)) := rs7.hide nG7 ntab_lst
              have nh7 : p ∉ ρ7.h := fun z => rs7.fresh nG7 (List.mem_append_right _ z)
              obtain ⟨u1, u2⟩ := sv6 _ _ (.one gm6) (ρ7.hide p) _ S7 g7' rs7'
              by_cases jlt : j < s1.len
              · refine .inr ?_
                have hk7 : s1.len - j = (s1.len - (j + 1)) + 1 := by omega
                rw [hk7] at hq
                unfold compL at hq
                cases hget7 : s1.get j S7 with
                | none => rw [hget7] at hq; exact hq.elim
                | some d7 =>
                  rw [hget7] at hq
                  obtain ⟨go7, yld7⟩ := u1 j d7 jlt hget7
                  refine ⟨go7, fun H8 => ∃ ρ7 S7 G7 acc7 ws7, H8 = upd G7 p (.lst ws7) ∧ G7 p = none ∧ Grow (ρ6.shw p) (del H6 p) ρ7 G7 ∧ RelS K ρ7 S7 G7 ∧ RDs K ρ7 G7 acc7 ws7 ∧ OKo K cl E ρ7 G7 (RD K) Q (inW mt next acc7 (compL s1.get s1.fin (mElt vs1 g1 t1 e env1) (s1.len - (j + 1)) (j + 1) S7)),
                    fun H8 ⟨a1, a2, a3, a4, a5, e1, e2, e3, e4, e5, e6⟩ => ⟨s1.len - (j + 1), by omega, a1, a2, a3, a4, a5, e1, e2, e3, e4, e5, rfl, jlt, e6⟩, fun x7 H8 y7 => ?_⟩
                  obtain ⟨gy7, rsy7, ry7⟩ := yld7 x7 H8 y7
                  have back7 : ∀ {ρ4 : Rho} {H4 : Hp} {S4 : Store}, Grow (ρ7.hide p) (upd G7 p (.lst ws7)) ρ4 H4 → RelS K ρ4 S4 H4 → H4 p = some (.lst ws7) ∧ Grow ρ7 G7 (ρ4.shw p) (del H4 p) ∧ RelS K (ρ4.shw p) S4 (del H4 p) ∧ p ∈ ρ4.h := by
                    intro ρ4 H4 S4 g4 rs4
                    obtain ⟨_, ga, gm⟩ := Grow.shw nG7 nh7 g4
                    have pl7 : p ∉ (ρ7.hide p).l := fun z => nl_of (rs7.fresh nG7) z
                    exact ⟨g4.fr p _ upd_same pl7 (fun _ z => by cases z), ga, rs4.shw gm, gm⟩
                  have rew7 : RelE K (ρ7.hide p) H8 (wipeE env1 vs1) (L2.wipe σ4 vs1) := ((re6' g7').grow gy7).wipe vs1
                  have em : mElt vs1 g1 t1 e env1 d7 S7 = (g1 d7 (wipeE env1 vs1) S7).bind fun env1 S1 => (t1 env1 S1).bind fun c S2 => if c then (e env1 S2).bind fun y S3 => .ok (some y) S3 else .ok none S2 := rfl
                  dsimp only at hq
                  rw [em] at hq
                  refine ⟨ρ7.hide p, wipeE env1 vs1, S7, d7, rsy7, rew7, ry7, ?_⟩
                  cases hg7 : g1 d7 (wipeE env1 vs1) S7 with
                  | bad => rw [hg7] at hq; exact hq.elim
                  | ex c S8 => rw [hg7] at hq; exact hq.elim
                  | ok env2 S8 =>
                    rw [hg7] at hq
                    intro ρ8 H9 σ8 g8 rs8 re8 z8 w8
                    refine ⟨(show wipe σ8 vs1 = wipe (wipe σ4 vs1) vs1 from w8).trans (wipe_idem σ4 vs1), ρ8, env2, S8, rs8, re8, ?_⟩
                    have g8 := gy7.trans g8
                    cases ht7 : t1 env2 S8 with
                    | bad => simp only [Out.bind, ht7] at hq; exact hq.elim
                    | ex c S9 => simp only [Out.bind, ht7] at hq; exact hq.elim
                    | ok c7 S9 =>
                      simp only [Out.bind, ht7] at hq
                      intro ρ9 H10 c' g9 rs9 rc7 z9
                      cases (show c7 = c' from rc7)
                      have g9' := g8.trans g9
                      cases c7 with
                      | false =>
                        rw [if_neg Bool.false_ne_true] at hq ⊢
                        obtain ⟨hp9, ga9, rsa9, gm9⟩ := back7 g9' rs9
                        refine ⟨ρ9.shw p, S9, del H10 p, acc7, ws7, (del_upd hp9).symm, del_same, g7.trans ga9, rsa9, ra7.grow ga9, ?_⟩
                        have hq := OKo.grow ga9 hq
                        simp only [Option.toList, List.nil_append] at hq
                        generalize compL s1.get s1.fin (mElt vs1 g1 t1 e env1) (s1.len - (j + 1)) (j + 1) S9 = r at hq ⊢
                        cases r with
                        | ok ys S10 => exact hq
                        | ex c S10 => exact (show False from hq).elim
                        | bad => exact (show False from hq).elim
                      | true =>
                        rw [if_pos rfl] at hq ⊢
                        refine ⟨ρ9, env2, S9, rs9, re8.grow g9, ?_⟩
                        cases he7 : e env2 S9 with
                        | bad => simp only [he7] at hq; exact hq.elim
                        | ex c S10 => simp only [he7] at hq; exact hq.elim
                        | ok y S10 =>
                          simp only [he7] at hq
                          intro ρa Ha v ga' rsa rv za
                          have gaa := g9'.trans ga'
                          obtain ⟨hpa, gaz, rsz, gmz⟩ := back7 gaa rsa
                          have hq : OKo K cl E ρ7 G7 (RD K) Q (inW mt next (acc7 ++ [y]) (compL s1.get s1.fin (mElt vs1 g1 t1 e env1) (s1.len - (j + 1)) (j + 1) S10)) := by
                            generalize compL s1.get s1.fin (mElt vs1 g1 t1 e env1) (s1.len - (j + 1)) (j + 1) S10 = r at hq ⊢
                            cases r with
                            | ok ys S11 =>
                              unfold inW at hq ⊢
                              simp only [Option.toList, List.append_assoc] at hq ⊢
                              exact hq
                            | ex c S11 => exact (show False from hq).elim
                            | bad => exact (show False from hq).elim
                          have lng := inW_len hq
                          have lw := ra7.length
                          rw [List.length_append] at lng
                          refine ⟨ws7, hpa, by simp at lng; omega, ρa.shw p, S10, del Ha p, acc7 ++ [y], ws7 ++ [v], ?_, del_same, g7.trans gaz, rsz, (ra7.grow gaz).append (RDs.cons (rv.shw gmz) RDs.nil), OKo.grow gaz hq⟩
                          funext a
                          by_cases ea : a = p
                          · subst ea; rw [upd_same, upd_same]
                          · rw [upd_ne ea, upd_ne ea, del_ne ea]
              · have hie : j = s1.len := by omega
                subst hie
                refine .inl ?_
                rw [Nat.sub_self] at hq
                unfold compL at hq
                cases hf : s1.fin S7 with
                | false => rw [hf] at hq; exact hq.elim
                | true =>
                  rw [hf] at hq
                  refine ⟨u2 hf, ρ7, S7, G7, acc7, ws7, rfl, nG7, g2.trans (ga6.trans g7), rs7, ra7, ?_⟩
                  unfold inW at hq
                  simpa using hq
  · have hie : i = s.len := by omega
    subst hie
    refine .inl ?_
    rw [Nat.sub_self] at hq
    unfold compA at hq
    cases hf : s.fin S2 with
    | false => rw [hf] at hq; exact hq.elim
    | true =>
      rw [hf] at hq
      refine ⟨sv2 hf, fun z3 => ?_⟩
      unfold outW at hq
      simp only [if_true, List.append_nil] at hq
      exact mkL_ok rs2 ra (endL_len hq).2 p nG z3
theorem c_lc2 {elt tg iter tg1 iter1 : Expr} {ifs ifs1 : List Expr} {scope : Scope} {own : List (Str × Nat)} {vs1 : List Nat} {pos : Pos} {mt : Bool} {src src1 : Env → Store → Out Src} {g g1 : SG} {t t1 : ST} {e : SE} (hc : X.calm = true) (hN : X.N.Nodup) (hi : PI X tg iter (lI X.K cl E src)) (ok : BlkOk X.N X.env.scope scope own) (hv : ∀ i ∈ vs1, i ∈ own.map (·.2))
    (hg : ∀ (s : Shared) (H : Hp) (C : Addr) (cs : List (Str × Addr)) (fp : List Addr), PG (X.blk s H scope (compEnvC scope cs C X.env) fp) tg (lG X.K cl E0 (some (own.map (·.2))) g))
    (ht : ∀ (s : Shared) (H : Hp) (C : Addr) (cs : List (Str × Addr)) (fp : List Addr), PTs (X.blk s H scope (compEnvC scope cs C X.env) fp) ifs (lT X.K cl E0 t))
    (hi1 : ∀ (s : Shared) (H : Hp) (C : Addr) (cs : List (Str × Addr)) (fp : List Addr), PI (X.blk s H scope (compEnvC scope cs C X.env) fp) tg1 iter1 (lI X.K cl E0 src1))
    (hg1 : ∀ (s : Shared) (H : Hp) (C : Addr) (cs : List (Str × Addr)) (fp : List Addr), PG (X.blk s H scope (compEnvC scope cs C X.env) fp) tg1 (lG X.K cl E0 (some vs1) g1))
    (ht1 : ∀ (s : Shared) (H : Hp) (C : Addr) (cs : List (Str × Addr)) (fp : List Addr), PTs (X.blk s H scope (compEnvC scope cs C X.env) fp) ifs1 (lT X.K cl E0 t1))
    (he : ∀ (s : Shared) (H : Hp) (C : Addr) (cs : List (Str × Addr)) (fp : List Addr), PE (X.blk s H scope (compEnvC scope cs C X.env) fp) elt (lE X.K cl E0 e)) (hs : ∀ x, foldedSetIterable iter X.env x = pure x) (hs1 : ∀ env x, foldedSetIterable iter1 env x = pure x) :
    PE X (.ListComp elt [⟨tg, iter, ifs, 0⟩, ⟨tg1, iter1, ifs1, 0⟩] scope pos) (lE X.K cl E (mLC2 (own.map (·.2)) vs1 mt src g t src1 g1 t1 e)) :=
  PE.via (pe_lc2 hc hN hi ok hv hg ht hi1 hg1 ht1 he hs hs1) fun σ H Q _ h => l_lc2 σ H Q h
end
end Mir
end

section
set_option Elab.async false
set_option linter.all false
set_option maxRecDepth 100000
set_option maxHeartbeats 2000000
/-! Mir6f: repr of what is built of small ints; list(range(..)). -/
namespace Mir
open PySem PySem.Spec PyProof.Rows L2
mutual
def smD : D → Bool
  | .int i => Nat.ble i.natAbs 900000000000
  | .tup xs => smDs xs
  | .lst xs => smDs xs
  | .non => true
  | .bl _ => true
  | _ => false
def smDs : List D → Bool
  | [] => true
  | x :: xs => smD x && smDs xs
end
mutual
def cnD : D → Nat
  | .tup xs => cnDs xs + 1
  | .lst xs => cnDs xs + 1
  | _ => 1
def cnDs : List D → Nat
  | [] => 0
  | x :: xs => cnD x + 1 + cnDs xs
end
structure ShowOk (d : PyData) (n : Nat) : Prop where
  lay : d.canLay0 = true
  sho : d.showable = true
  sml : d.intsShort 13 = true
  wei : d.weight ≤ 50 * n
structure ShowsOk (ds : List PyData) (n : Nat) : Prop where
  lay : PyData.canLayAll0 ds = true
  sho : PyData.showableAll ds = true
  sml : PyData.intsShortAll 13 ds = true
  wei : PyData.weightAll ds ≤ 50 * n
theorem small_int {i : Int} (h : smD (.int i) = true) : ShowOk (.int i) 1 := by
  have h : i.natAbs ≤ 900000000000 := Nat.le_of_ble_eq_true (by simpa [smD] using h)
  have l : i.natAbs.log2 < 41 := by
    by_cases z : i.natAbs = 0
    · rw [z]; decide
    · exact (Nat.log2_lt z).mpr (by omega)
  have t := int_text_length_le10 (a := i) (k := 12) (by decide) (by omega)
  refine ⟨by simp [PyData.canLay0], by simp only [PyData.showable, decide_eq_true_eq]; omega, ?_, ?_⟩
  · simp only [PyData.intsShort, decide_eq_true_eq]
    show (Str.ofString (toString i)).length ≤ 13
    rw [PySem.ofString_length]
    exact t
  · simp only [PyData.weight]
    split <;> omega
mutual
theorem showOk : ∀ d : D, smD d = true → ShowOk (py d) (cnD d)
  | .non, _ => ⟨by simp [py, PyData.canLay0], by simp [py, PyData.showable], by simp [py, PyData.intsShort], by simp [py, PyData.weight]⟩
  | .bl _, _ => ⟨by simp [py, PyData.canLay0], by simp [py, PyData.showable], by simp [py, PyData.intsShort], by simp [py, PyData.weight]⟩
  | .int i, h => by
    have z := small_int h
    simpa only [py, cnD] using z
  | .tup xs, h => by
    have z := showsOk xs (by simpa only [smD] using h)
    refine ⟨by simpa only [py, PyData.canLay0] using z.lay, by simpa only [py, PyData.showable] using z.sho, by simpa only [py, PyData.intsShort] using z.sml, ?_⟩
    have := z.wei
    simp only [py, PyData.weight, cnD]
    omega
  | .lst xs, h => by
    have z := showsOk xs (by simpa only [smD] using h)
    refine ⟨by simpa only [py, PyData.canLay0] using z.lay, by simpa only [py, PyData.showable] using z.sho, by simpa only [py, PyData.intsShort] using z.sml, ?_⟩
    have := z.wei
    simp only [py, PyData.weight, cnD]
    omega
  | .str _, h => by simp [smD] at h
  | .ref _, h => by simp [smD] at h
  | .scr _, h => by simp [smD] at h
theorem showsOk : ∀ ds : List D, smDs ds = true → ShowsOk (pys ds) (cnDs ds)
  | [], _ => ⟨by simp [pys, PyData.canLayAll0], by simp [pys, PyData.showableAll], by simp [pys, PyData.intsShortAll], by simp [pys, PyData.weightAll]⟩
  | d :: ds, h => by
    have h : (smD d && smDs ds) = true := by simpa only [smDs] using h
    rw [Bool.and_eq_true] at h
    have a := showOk d h.1
    have b := showsOk ds h.2
    refine ⟨by simp [pys, PyData.canLayAll0, a.lay, b.lay], by simp [pys, PyData.showableAll, a.sho, b.sho], by simp [pys, PyData.intsShortAll, a.sml, b.sml], ?_⟩
    have h1 := a.wei
    have h2 := b.wei
    simp only [pys, PyData.weightAll, cnDs]
    omega
end
def reprOk (d : D) : Bool := okD 60 d && (smD d && Nat.ble (cnD d) 20000)
theorem repr_fits {d : D} (h : reprOk d = true) : (py d).showable = true ∧ (py d).shown.length ≤ sizeLine ∧ (py d).depth ≤ 60 ∧ (py d).hasDict = false := by
  unfold reprOk at h
  rw [Bool.and_eq_true, Bool.and_eq_true] at h
  obtain ⟨h1, h2, h3⟩ := h
  have h3 := Nat.le_of_ble_eq_true h3
  have z := showOk d h2
  obtain ⟨_, dep⟩ := ok_py 60 d h1
  have w := z.wei
  have lay : PyData.layable0 (py d) = true := by
    show (PyData.canLay0 (py d) && decide (PyData.depth (py d) ≤ 64) && decide (PyData.weight (py d) ≤ 2 ^ 20)) = true
    simp only [Bool.and_eq_true, decide_eq_true_eq]
    exact ⟨⟨z.lay, by omega⟩, by omega⟩
  exact ⟨z.sho, PyData.shown_fits_of_layable0 (by decide) (by decide) lay z.sml, dep, PyData.hasDict_of_canLay _ z.lay⟩
section
variable {K : PySem.W.Frag} {cl : Nat → Addr} {E : XK} {ρ : Rho} {H : Hp} {S : Store} {σ : L2.St} {X : Cx}
def vRepr : VL
  | [d], S => match d with
    | .tup xs => if reprOk (.tup xs) then .ok (.str (py (.tup xs)).shown) S else .bad
    | .lst xs => if reprOk (.lst xs) then .ok (.str (py (.lst xs)).shown) S else .bad
    | .non => .ok (.str (py .non).shown) S
    | _ => .bad
  | _, _ => .bad
theorem repr_ref {pins : List (Addr × Obj)} {s : Shared} {d : D} {a : Addr} {Q : VK} (hu : X.A.units + 65 < cLine) (hg : X.A.guards = some []) (I : L2.Inv X pins σ H s) (r : RD X.K ρ H d (.ref a)) (h : reprOk d = true) (q : Q (.str (py d).shown) H) : wpAny (model X.prog X.w) X.A (call (.builtin "repr") [.ref a]) (EP X pins σ Q) X.xe s := by
  obtain ⟨h1, h2, h3, h4⟩ := repr_fits h
  have ok : okD 60 d = true := by
    unfold reprOk at h
    rw [Bool.and_eq_true] at h
    exact h.1
  obtain ⟨as, rd⟩ := Dp.reads I (py d) (.ref a) (.ref a) (dp_of 60 d _ ok r) rfl
  exact repr_of_reads' rd h1 (PyData.noDict_hsm h4) hg (by omega) (fun _ _ e => e) (fun h' u tk hk => ⟨.str _, H, I.kept hk, ⟨_, rfl⟩, q⟩) h2
theorem cb_repr (hu : X.A.units + 65 < cLine) (hg : X.A.guards = some []) : CallR X (.builtin "repr") (wL X.K cl E vRepr) := by
  intro pins s σ H vs us Q I r h
  obtain ⟨ρ, S, ds, rs, rd, h⟩ := h
  unfold vRepr at h
  split at h
  · obtain ⟨v, rfl, rv⟩ := rd.one
    split at h
    · split at h
      · rename_i hk
        obtain ⟨a, _, rfl, _, _⟩ := rv.tupT
        rw [Vals.ref1 r]
        exact repr_ref hu hg I rv hk (ok_val rs h RD.str (siz_of I.hok))
      · exact h.elim
    · split at h
      · rename_i hk
        obtain ⟨a, _, rfl, _, _⟩ := rv.lstL
        rw [Vals.ref1 r]
        exact repr_ref hu hg I rv hk (ok_val rs h RD.str (siz_of I.hok))
      · exact h.elim
    · cases rv.ofNon
      obtain ⟨u, rfl, ru⟩ := vals1 r
      cases (show u = Value.none from ru)
      have q := ok_val rs h RD.str (siz_of I.hok)
      simp only [py, PyData.shown] at q
      exact PySem.P.repr_of_none ⟨.str _, H, I.tok _, ⟨_, rfl⟩, q⟩
    · exact h.elim
  · exact h.elim

/-! ### list(range(..)), tuple(range(..)) -/
def mRgA (tup mt : Bool) (i j : Int) (S : Store) : Out D :=
  if rngOk i && (rngOk j && Nat.ble (j - i).toNat 16777216) then (if tup then .ok (.tup (rangeD i (j - i).toNat)) S else mkL mt (rangeD i (j - i).toNat) S) else .bad
def mRg1 (tup mt : Bool) (a : SE) : SE := fun env S => (a env S).bind fun x S1 => match x with
  | .int j => mRgA tup mt 0 j S1
  | _ => .bad
def mRg2 (tup mt : Bool) (a b : SE) : SE := fun env S => (a env S).bind fun x S1 => (b env S1).bind fun y S2 => match x, y with
  | .int i, .int j => mRgA tup mt i j S2
  | _, _ => .bad
theorem rangeD_rel {i j : Int} : RDs K ρ H (rangeD i (j - i).toNat) (rgV i j) := by
  unfold rangeD rgV
  generalize List.range (j - i).toNat = ns
  induction ns with
  | nil => exact RDs.nil
  | cons n ns ih => exact RDs.cons RD.int ih
theorem rgA_lst {mt : Bool} {i j : Int} {Q : VK} (rs : RelS K ρ S H) (h : OKo K cl E ρ H (RD K) Q (mRgA false mt i j S)) : RgOk i j ∧ ∀ q, H q = none → Siz (upd H q (.lst (rgV i j))) → Q (.ref q) (upd H q (.lst (rgV i j))) := by
  unfold mRgA at h
  split at h
  · rename_i hc
    rw [Bool.and_eq_true, Bool.and_eq_true] at hc
    obtain ⟨b1, b2⟩ := rngOk_ok hc.1
    obtain ⟨b3, b4⟩ := rngOk_ok hc.2.1
    have b5 := Nat.le_of_ble_eq_true hc.2.2
    refine ⟨⟨b1, b2, b3, b4, by omega⟩, fun q hq z => ?_⟩
    rw [if_neg (by decide)] at h
    exact mkL_ok rs rangeD_rel h q hq z
  · exact h.elim
theorem rgA_tup {mt : Bool} {i j : Int} {Q : VK} (rs : RelS K ρ S H) (h : OKo K cl E ρ H (RD K) Q (mRgA true mt i j S)) : RgOk i j ∧ ∀ q, H q = none → Siz (upd H q (.tup (rgV i j))) → Q (.ref q) (upd H q (.tup (rgV i j))) := by
  unfold mRgA at h
  split at h
  · rename_i hc
    rw [Bool.and_eq_true, Bool.and_eq_true] at hc
    obtain ⟨b1, b2⟩ := rngOk_ok hc.1
    obtain ⟨b3, b4⟩ := rngOk_ok hc.2.1
    have b5 := Nat.le_of_ble_eq_true hc.2.2
    refine ⟨⟨b1, b2, b3, b4, by omega⟩, fun q hq z => ?_⟩
    rw [if_pos rfl] at h
    exact tup_ok rs rangeD_rel h q hq z
  · exact h.elim
theorem c_rg1 {tup mt : Bool} {a : Expr} {p p2 pos pos2 : Pos} {ma : SE} (hc : X.calm = true) (hg : Gl X "range") (hm : X.mg "range" = none) (hgl : Gl X (if tup then "tuple" else "list")) (hml : X.mg (if tup then "tuple" else "list") = none) (ha : PE X a (lE X.K cl E ma))
    (s1 : starEach [a] X.env = (false, eval a X.env) :: starEach [] X.env) : PE X (.Call (.Name (if tup then "tuple" else "list") p2) [.Call (.Name "range" p) [a] [] pos] [] pos2) (lE X.K cl E (mRg1 tup mt ma)) := by
  have R := prg_1 (p := p) (pos := pos) hg hm ha s1
  cases tup with
  | false =>
    refine PE.via (pe_listRg hc hgl hml R) fun σ H Q z h => ?_
    obtain ⟨ρ, env, S, rs, re, h⟩ := h
    refine lE_step rs re h fun x H1 ρ1 S1 d z1 g1 rs1 re1 rd h1 => ?_
    split at h1
    · cases rd.ofInt
      exact ⟨_, rfl, rgA_lst rs1 h1⟩
    · exact h1.elim
  | true =>
    refine PE.via (pe_tupRg hc hgl hml R) fun σ H Q z h => ?_
    obtain ⟨ρ, env, S, rs, re, h⟩ := h
    refine lE_step rs re h fun x H1 ρ1 S1 d z1 g1 rs1 re1 rd h1 => ?_
    split at h1
    · cases rd.ofInt
      exact ⟨_, rfl, rgA_tup rs1 h1⟩
    · exact h1.elim
end
end Mir
end

section
set_option Elab.async false
set_option linter.all false
set_option maxRecDepth 100000
set_option maxHeartbeats 2000000
/-! Mir6g: x[::-1] of lists and tuples. -/
namespace Mir
open PySem PySem.Spec PyProof.Rows L2
section
variable {prog : Program} {w : World} {A : Around} {E : Value → Shared → Prop} {s : Shared}
theorem back_bounds (n : Nat) : Builtin.Slice.sliceAdjust none none (-1) (n : Int) = ((n : Int) - 1, -1) := rfl
theorem back_places (n : Nat) : Builtin.Slice.slicePlaces ((n : Int) - 1) (-1) (-1) = n := by
  unfold Builtin.Slice.slicePlaces
  have h1 : ¬ ((-1 : Int) > 0) := by omega
  rw [if_neg h1]
  by_cases h : (n : Int) - 1 > -1
  · rw [if_pos h, show (- (-1 : Int)) = 1 from rfl, Int.ediv_one]
    omega
  · rw [if_neg h]
    omega
theorem back_slice {sl : Addr} {vl vu vs : Value} {n : Nat} {Q : Int × Int × Nat → Shared → Prop} (hs : s.heap.IsSliceOf sl vl vu vs) (pl : IsPart vl none) (pu : IsPart vu none) (ps : IsPart vs (some (-1))) (h : Q ((n : Int) - 1, -1, n) s) :
    wpAny (model prog w) A (Builtin.Slice.sliceApplied (.ref sl) (pure (n : Int))) Q E s := by
  obtain ⟨o, ho, hc, hd⟩ := id hs
  unfold Builtin.Slice.sliceApplied Builtin.Slice.sliceFields
  refine wpAny_bind (wpAny_bind (wpAny_field ho hd (x := vl) rfl (wpAny_bind (wpAny_field ho hd (x := vu) rfl (wpAny_bind (wpAny_field ho hd (x := vs) rfl (wpAny_pure ?_)))))))
  refine wpAny_bind (HT.slicePart_ ps ?_)
  show wpAny _ _ (if ((-1 : Int) == 0) = true then _ else _) _ _ s
  rw [if_neg (by decide)]
  refine wpAny_bind (HT.slicePart_ pl (wpAny_bind (HT.slicePart_ pu (wpAny_bind (wpAny_pure ?_)))))
  show wpAny _ _ (pure ((n : Int) - 1, (-1 : Int), Builtin.Slice.slicePlaces ((n : Int) - 1) (-1) (-1))) _ _ s
  rw [back_places]
  exact wpAny_pure h
theorem back_pick (xs : Array Value) : ((List.range xs.size).filterMap fun (k : Nat) => xs[(((xs.size : Int) - 1) + (k : Int) * (-1)).toNat]?).toArray = xs.toList.reverse.toArray := by
  have e : (fun (k : Nat) => xs[(((xs.size : Int) - 1) + (k : Int) * (-1)).toNat]?) = (fun i : Nat => xs[i]?) ∘ fun k : Nat => (((xs.size : Int) - 1) + (k : Int) * (-1)).toNat := rfl
  rw [e, ← List.filterMap_map]
  have m : (List.range xs.size).map (fun k : Nat => (((xs.size : Int) - 1) + (k : Int) * (-1)).toNat) = (List.range xs.size).map fun k => xs.size - 1 - k := by
    apply List.map_congr_left
    intro k hk
    have := List.mem_range.mp hk
    omega
  rw [m, PySem.W.krv_range, List.filterMap_reverse, PySem.W.krv_all]
theorem getItem_back {t sl : Addr} {items : Array Value} {vl vu vs : Value} {Q : Value → Shared → Prop} (ht : IsTup s.heap t items) (hs : s.heap.IsSliceOf sl vl vu vs) (pl : IsPart vl none) (pu : IsPart vu none) (ps : IsPart vs (some (-1))) (hsz : items.size ≤ sizeLine)
    (h : Q (.ref s.heap.objs.size) { s with heap := s.heap.push { cls := .type "tuple", data := .seq items.toList.reverse.toArray } }) : wpAny (model prog w) A (getItem (.ref t) (.ref sl)) Q E s := by
  obtain ⟨o, ho, hc, hd⟩ := id hs
  have hT : s.TypeIs (.ref sl) "slice" := ⟨o, ho, hc⟩
  have fits : sizeOk (.seq items.toList.reverse.toArray) := by
    show items.toList.reverse.toArray.size ≤ sizeLine
    simpa using hsz
  unfold getItem
  try with_reducible refine wpAny_holding ?_
  first | refine wpAny_bind (wpAny_pure ?_) | skip
  refine wpAny_bind (wpAny_sequenceKey ht.typeIs (by decide) ?_)
  refine wpAny_bind (wpAny_callSpecial?_slot (name := Str.ofString "__getitem__") ht.typeIs PyProof.Rows.slot_tuple_getitem (wpAny_call_entry PyProof.Rows.slot_tuple_getitem ht.typeIs entry_tuple_getitem ?_ (args_tuple_getitem _ _)))
  show wpAny _ _ (Builtin.Tuple.tupleItemsOf (.ref t) >>= _) _ _ s
  refine wpAny_bind (tupleItemsOf_ ht (wpAny_bind (wpAny_typeOf hT ?_)))
  rw [if_pos (by decide)]
  refine wpAny_bind (back_slice (n := items.size) hs pl pu ps ?_)
  have no : ¬ ((((items.size : Int) - 1) == 0 && (-1 : Int) == 1 && items.size == items.size) = true) := by
    intro q
    rw [Bool.and_eq_true, Bool.and_eq_true] at q
    exact absurd q.1.2 (by decide)
  show wpAny _ _ (if (((items.size : Int) - 1) == 0 && (-1 : Int) == 1 && items.size == items.size) = true then _ else _) _ _ s
  rw [if_neg no, back_pick]
  first
    | exact wpAny_bind (m := Builtin.Tuple.tupleExact _) (wpAny_newObj_type (wpAny_pure ⟨_, rfl, wpAny_pure h⟩) fits)
    | exact wpAny_bind (m := Builtin.Tuple.tupleExact _) (wpAny_newObj_type (wpAny_bind (wpAny_pure (wpAny_pure ⟨_, rfl, wpAny_pure h⟩))) fits)
    | exact wpAny_bind (wpAny_bind (m := Builtin.Tuple.tupleExact _) (wpAny_newObj_type (wpAny_pure (wpAny_pure ⟨_, rfl, wpAny_pure h⟩)) fits))
    | exact wpAny_bind (wpAny_bind (m := Builtin.Tuple.tupleExact _) (wpAny_newObj_type (wpAny_pure ⟨_, rfl, wpAny_pure h⟩) fits))
end
section
variable {K : PySem.W.Frag} {cl : Nat → Addr} {E : XK} {ρ : Rho} {H : Hp} {S : Store} {σ : L2.St} {X : Cx}
/-- what x[::-1] asks -/
def rBack (K : PySem.W.Frag) (x : V) (H : Hp) (Q : VK) : Prop := (∃ a xs, x = .ref a ∧ SqL K H a xs ∧ ∀ p, H p = none → Q (.ref p) (upd H p (.lst xs.reverse))) ∨ ∃ a xs, x = .ref a ∧ SqT K H a xs ∧ ∀ p, H p = none → Q (.ref p) (upd H p (.tup xs.reverse))
theorem pe_back {e : Expr} {te : TE} {k : Nat} {p1 p2 p3 pos : Pos} (he : PE X e te) : PE X (.Subscript e (.Slice none none (some (.UnaryOp .USub (.Constant (.int 1) k p1) p2)) p3) pos) (fun σ H Q => te σ H fun x H1 => rBack X.K x H1 Q) := by
  refine ⟨fun pins s σ H Q I h => Subscript_ (thn (he.run pins s σ H _ I h) fun v s1 ⟨x, H1, I1, r1, q1⟩ => ?_)⟩
  have minus : PO X (some (.UnaryOp .USub (.Constant (.int 1) k p1) p2)) (tPart (tUn (rU fun i => .int (-i)) (tC (.int 1)))) := po_some (pe_un un_neg pe_int)
  refine wpAny_Slice (thn (po_none.run pins s1 σ H1 (fun o H' => o = none ∧ H' = H1) I1 ⟨rfl, rfl⟩) fun vl s2 ⟨l, H2, I2, pl, el, e2⟩ => ?_)
  subst el e2
  refine thn (po_none.run pins s2 σ H2 (fun o H' => o = none ∧ H' = H2) I2 ⟨rfl, rfl⟩) fun vu s3 ⟨u, H3, I3, pu, eu, e3⟩ => ?_
  subst eu e3
  refine thn (minus.run pins s3 σ H3 (fun o H' => o = some (-1) ∧ H' = H3) I3 ⟨1, rfl, -1, rfl, rfl, rfl⟩) fun vs s4 ⟨o, H4, I4, ps, eo, e4⟩ => ?_
  subst eo e4
  have J : L2.Inv X pins σ H4 { s4 with heap := s4.heap.push { cls := .type "slice", data := .fields #[vl, vu, vs] } } := I4.kept (t' := s4.toks) fun b ob q => Heap.get?_push_of_some _ q
  rcases q1 with ⟨a, xs, ex, hx, q⟩ | ⟨a, xs, ex, hx, q⟩
  · subst ex
    cases r1
    obtain ⟨its, r, ht, hz⟩ := J.list hx
    have hlen := r.length
    show wpAny (model X.prog X.w) X.A (subscriptTail e (.Slice none none (some (.UnaryOp .USub (.Constant (.int 1) k p1) p2)) p3) (.ref a) (.ref s4.heap.objs.size)) (EP X pins σ Q) X.xe { s4 with heap := s4.heap.push { cls := .type "slice", data := .fields #[vl, vu, vs] } }
    refine tail_any (ops := [.ref a, .ref s4.heap.objs.size]) ht.isList.typeIs (PySem.slot_list_getitem.lookup) ?_ (by with_unfolding_all rfl)
    refine wpAny_getItem_list_slice ht.isList (Heap.IsSliceOf.new _ vl vu vs) pl pu ps (by decide) ?_ (by rw [List.size_toArray]; omega)
    rw [PySem.W.krv_pick]
    refine ⟨.ref _, _, J.laid (t' := s4.toks) (o := .lst xs.reverse) (fun b ob q => Heap.get?_push_of_some _ q) (Nat.le_refl _) ?_, rfl, q _ (J.hok.fresh (Nat.le_refl _))⟩
    exact ⟨by rw [List.length_reverse]; exact hz, _, 0, r.reverse, Heap.get?_push_size _ rfl⟩
  · subst ex
    cases r1
    obtain ⟨its, r, ht, hz⟩ := J.tuple hx
    have hlen := r.length
    show wpAny (model X.prog X.w) X.A (subscriptTail e (.Slice none none (some (.UnaryOp .USub (.Constant (.int 1) k p1) p2)) p3) (.ref a) (.ref s4.heap.objs.size)) (EP X pins σ Q) X.xe { s4 with heap := s4.heap.push { cls := .type "slice", data := .fields #[vl, vu, vs] } }
    refine tail_any (ops := [.ref a, .ref s4.heap.objs.size]) ht.typeIs (PyProof.Rows.slot_tuple_getitem.lookup) ?_ (by with_unfolding_all rfl)
    refine getItem_back ht (Heap.IsSliceOf.new _ vl vu vs) pl pu ps (by rw [List.size_toArray]; omega) ?_
    refine ⟨.ref _, _, J.laid (t' := s4.toks) (o := .tup xs.reverse) (fun b ob q => Heap.get?_push_of_some _ q) (Nat.le_refl _) ?_, rfl, q _ (J.hok.fresh (Nat.le_refl _))⟩
    exact ⟨by rw [List.length_reverse]; exact hz, _, r.reverse, IsTup.new _ _⟩
theorem RDs.rev : ∀ {ds : List D} {vs : List V}, RDs K ρ H ds vs → RDs K ρ H ds.reverse vs.reverse
  | [], _, h => by unfold RDs at h; subst h; exact RDs.nil
  | d :: ds, _, h => by
    unfold RDs at h
    obtain ⟨v, r, rfl, h1, h2⟩ := h
    rw [List.reverse_cons, List.reverse_cons]
    exact (RDs.rev h2).append (RDs.cons h1 RDs.nil)
def mRev (mt : Bool) (a : SE) : SE := fun env S => (a env S).bind fun x S1 => match x with
  | .tup xs => .ok (.tup xs.reverse) S1
  | x => match listOf S1 x with
    | some xs => mkL mt xs.reverse S1
    | none => .bad
theorem c_back {e : Expr} {k : Nat} {p1 p2 p3 pos : Pos} {mt : Bool} {ma : SE} (he : PE X e (lE X.K cl E ma)) : PE X (.Subscript e (.Slice none none (some (.UnaryOp .USub (.Constant (.int 1) k p1) p2)) p3) pos) (lE X.K cl E (mRev mt ma)) := by
  refine PE.via (pe_back he) fun σ H Q z h => ?_
  obtain ⟨ρ, env, S, rs, re, h⟩ := h
  refine lE_step rs re h fun x H1 ρ1 S1 d z1 g1 rs1 re1 rd h1 => ?_
  split at h1
  · obtain ⟨a, vs, rfl, hs, q⟩ := rd.tupT
    exact .inr ⟨a, vs, rfl, hs, tup_ok rs1 q.rev h1⟩
  · split at h1
    · rename_i xs hl
      obtain ⟨a, vs, rfl, hs, q⟩ := list_at rs1 hl rd
      exact .inl ⟨a, vs, rfl, SqL.of hs, mkL_ok rs1 q.rev h1⟩
    · exact h1.elim
end
end Mir
end

section
set_option Elab.async false
set_option linter.all false
set_option maxRecDepth 100000
set_option maxHeartbeats 2000000
/-! Mir6h: a lambda without parameters handed to a def that calls it at once. -/
namespace Mir
open PySem PySem.Spec PyProof.Rows L2
/-- what the def makes of the lambda's outcome; word: by the error's class -/
inductive LK where
  | told (rd : FSem) (word : Nat → Option Str)
  | raises (word : Nat → Option Int)
  | raised (word : Nat → Option Int)
def LK.fin (kd : LK) (pre : List D) (o : Out D) : Out D := match kd with
  | .told rd word => (match o with
    | .ok d S => (match rd [d] S with
      | .ok d2 S2 => .ok (.tup [.int 0, d2]) S2
      | _ => .bad)
    | .ex c S => (match word c with
      | some x => .ok (.tup [.int 1, .str x]) S
      | none => .bad)
    | .bad => .bad)
  | .raises word => (match o with
    | .ok _ S => .ok (.bl false) S
    | .ex c S => (match pre with
      | [.int k] => (match word c with
        | some j => .ok (.bl (decide (k = j))) S
        | none => .bad)
      | _ => .bad)
    | .bad => .bad)
  | .raised word => (match o with
    | .ok _ S => .ok (.int 0) S
    | .ex c S => (match word c with
      | some j => .ok (.int j) S
      | none => .bad)
    | .bad => .bad)
/-- x(lambda: e), x(i, lambda: e) -/
def mLam (kd : LK) (pre : List D) (m : SE) : SE := fun env S => kd.fin pre (m env S)

/-- the reading of the whole, by the lambda's -/
def LK.TT (K : PySem.W.Frag) (cl : Nat → Addr) (kd : LK) (pre : List V) (tl : XK → Hp → VK → Prop) (H : Hp) (Q : VK) : Prop := match kd with
  | .told rd word => tl (fun cls d H' => d = none ∧ ∃ c x, cls = .ref (cl c) ∧ word c = some x ∧ ∀ p, H' p = none → Siz (upd H' p (.tup [.int 1, .str x])) → Q (.ref p) (upd H' p (.tup [.int 1, .str x]))) H
      fun v H' => spM K cl rd [v] H' (fun v2 H2 => [V.int 0, v2].length ≤ sizeLine ∧ ∀ p, H2 p = none → Siz (upd H2 p (.tup [.int 0, v2])) → Q (.ref p) (upd H2 p (.tup [.int 0, v2]))) fun _ _ _ => False
  | .raises word => tl (fun cls d H' => d = none ∧ ∃ c j k, cls = .ref (cl c) ∧ word c = some j ∧ pre = [.int k] ∧ (Siz H' → Q (.bl (decide (k = j))) H')) H fun _ H' => Siz H' → Q (.bl false) H'
  | .raised word => tl (fun cls d H' => d = none ∧ ∃ c j, cls = .ref (cl c) ∧ word c = some j ∧ (Siz H' → Q (.int j) H')) H fun _ H' => Siz H' → Q (.int 0) H'
/-- the closure at f, made at s, does what it promises wherever it is called -/
structure ClosOk (P : Program) (w : World) (K : PySem.W.Frag) (mg : Str → Option Value) (base : Heap) (j : Nat) (outer : List PySem.Env) (s : Shared) (H : Hp) (f : Addr) (I : Hp → Prop) (tl : XK → Hp → VK → Prop) : Prop where
  at_ : PySem.W.FnAt f s.heap ∧ H f = none ∧ f ∉ frs outer
  run : ∀ (A : Around) (out2 : List PySem.Env) (s2 : Shared) (H2 : Hp) (Q : VK) (E : XK), Room (j + 1) A → A.guards = some [] → Env0 P w K mg base A out2 s2 H2 → Un (frs outer) [] H H2 s.heap s2.heap → I H2 → tl E H2 Q →
    codeAny (model P w) A (.call (.ref f) ⟨[], []⟩) (CR (L2.CX P w) out2 P w H2 s2 Q E) s2
theorem ClosOk.there {P : Program} {w : World} {K : PySem.W.Frag} {mg : Str → Option Value} {base : Heap} {j : Nat} {outer : List PySem.Env} {s : Shared} {H H2 : Hp} {f : Addr} {I : Hp → Prop} {tl : XK → Hp → VK → Prop} {h2 : Heap} (C : ClosOk P w K mg base j outer s H f I tl) (un : Un (frs outer) [] H H2 s.heap h2) : PySem.W.FnAt f h2 := by
  obtain ⟨⟨oc, od, fd, sl, e⟩, hn, hf⟩ := C.at_
  exact ⟨oc, od, fd, sl, un.keep f _ e hn hf (by simp)⟩
/-- a def that calls the closure that it got last -/
structure LamCal (P : Program) (w : World) (K : PySem.W.Frag) (mg : Str → Option Value) (base : Heap) (cl : Nat → Addr) (j k : Nat) (x : Str) (np : Nat) (kd : LK) : Prop where
  ex : ∃ (a : Addr) (fd : FuncData) (ps : List Str), mg x = some (.ref a) ∧ PySem.W.keepIn K (.ref a) = true ∧ Binds K fd ps [] ∧ ps.length = np + 1 ∧
    ∀ (A : Around) (outer : List PySem.Env) (s : Shared) (H : Hp) (args : Args) (pre : List V) (us : List Value) (f : Addr) (I : Hp → Prop) (tl : XK → Hp → VK → Prop) (Q : VK), Room k A → A.guards = some [] → Env0 P w K mg base A outer s H → BindsTo s fd args (ps.zip us) →
      Vals (pre ++ [.ref f]) us → pre.length = np → ClosOk P w K mg base j outer s H f I tl → I H → kd.TT K cl pre tl H Q → codeAny (model P w) A (.call (.ref a) args) (CR C8.CX0 outer P w H s Q C8.E0) s
theorem LamCal.mono {P : Program} {w : World} {K : PySem.W.Frag} {mg : Str → Option Value} {base : Heap} {cl : Nat → Addr} {j k k' : Nat} {x : Str} {np : Nat} {kd : LK} (C : LamCal P w K mg base cl j k x np kd) (h : k ≤ k') : LamCal P w K mg base cl j k' x np kd :=
  ⟨let ⟨a, fd, ps, h1, h2, h3, h4, F⟩ := C.ex; ⟨a, fd, ps, h1, h2, h3, h4, fun A outer s H args pre us f I tl Q hr => F A outer s H args pre us f I tl Q (hr.mono h)⟩⟩
section
variable {X : Cx} {cl : Nat → Addr} {E : XK}
/-- the tracked objects stay where tables alone are written -/
theorem extN_grow {ρ : Rho} {H H1 : Hp} (e : LamX.ExtN H H1) : Grow ρ H ρ H1 :=
  ⟨⟨[], by simp, by simp⟩, ⟨[], by simp, by simp⟩, rfl, fun a o h _ q => e a o h q, fun a o h q => ⟨o, e a o h q, q⟩⟩
theorem ntab_tbl {o : HO} (n : NTab o) : ∀ ps, o ≠ .tbl ps := n.1
theorem extN_rel {K : PySem.W.Frag} {ρ : Rho} {S : Store} {H H1 : Hp} (rs : RelS K ρ S H) (e : LamX.ExtN H H1) (t : LamX.Tabs ρ.t H1) : RelS K ρ S H1 :=
  ⟨rs.len, rs.nd, t, rs.told, fun a ha => let ⟨n, u, e1, q⟩ := rs.hid a ha; ⟨n, u, e _ _ e1 q.1, q⟩, fun n a o h1 h2 => let ⟨h, e1, q⟩ := rs.ob n a o h1 h2; ⟨h, e _ _ e1 (ntab_ob q).1, q.grow (extN_grow e)⟩⟩
/-- x()'s outcome, where the lambda was made -/
theorem clos_ok {pins : List (Addr × Obj)} {σ : L2.St} {H : Hp} {s : Shared} {f c' : Addr} {pm ctv : Value} {params : Arguments} {body : Expr} {scope : Scope} {j : Nat} {tb : XK → TE}
    (I : Inv X pins σ H s) (L : LamX.LamS X.env.scope scope) (hf : s.heap.get? f = some (PySem.W.kla_obj "<lambda>" (X.env.qual ++ "<lambda>") params body scope (cloFrom X.env.cells scope.names []) pm c' ctv)) (hfn : H f = none) (hfr : f ∉ frs X.stack)
    (hbind : ∀ (q : Str) (cl : List (Str × Addr)) (pm cv ctv : Value), bindArgs (PySem.W.kla_fn "<lambda>" q params body scope cl pm cv ctv) ⟨[], []⟩ = pure [])
    (hbody : ∀ (A : Around) (out2 : List PySem.Env) (s2 : Shared) (H2 : Hp) (E : XK), Room j (A.deeper (LamX.lamEnv X scope s2.heap.objs.size f c')) → A.guards = some [] → PE (LamX.lamCx X A out2 s2 H2 E scope f c') body (tb E)) :
    ClosOk X.prog X.w X.K X.mg X.base j X.stack s H f (fun H2 => H2 c' = some (LamX.CodeO c' (X.env.qual ++ "<lambda>"))) (fun E' H' Q' => tb E' σ H' Q') := by
  refine ⟨⟨⟨_, _, _, _, hf⟩, hfn, hfr⟩, fun A out2 s2 H2 Q E' hr hgd e0 un hc ht => ?_⟩
  have here := un.keep f _ hf hfn hfr (by simp)
  obtain ⟨⟨oc, vs, t, oc1, oc2, oc3⟩, _, _⟩ := e0.hok c' _ hc
  refine PySem.W.kla_callFunE hr.depth here rfl L.co L.gen rfl ⟨c', oc, vs, t, rfl, oc1, oc2, oc3⟩ ?_
  rw [hbind]
  refine wpAny_pure (wpAny_newFunctionEnv (fun y hy => (L.own y hy).2) (fun y hy => absurd hy (by simp)) (fun h₁ hns hsb => ⟨e0.mod.nolimit.keeps fun b o e => ?_, ?_⟩) L.kind)
  · have e := (e0.bs b o e).1
    exact hsb.extBut b o (Nat.ne_of_lt (Heap.lt_size e)) (Heap.get?_push_of_some _ e)
  show codeAny _ _ (.expr body (LamX.lamEnv X scope s2.heap.objs.size f c')) _ _
  have J := LamX.lam_start2 (E := E') (f := f) (c' := c') (tk := s2.toks + ([] : List (Str × Value)).length) I L e0 hr.hd un hns fun b o e => hsb.extBut b o (Nat.ne_of_lt (Heap.lt_size e)) (Heap.get?_push_of_some _ e)
  refine PySem.W.kla_codeExpr (wpAny_mono ((hbody A out2 s2 H2 E' (hr.deeper _) hgd).run [] _ _ H2 Q J ht) (fun v s' hq => ?_) fun e s' hq => hq)
  obtain ⟨w', H', J', rv, q⟩ := hq
  exact ⟨w', H', J'.os, J'.bare, J'.base, J'.hok, rv, q⟩
/-- the lambda's reading, at the caller's slots -/
theorem lam_TT {kd : LK} {pre : List D} {vpre : List V} {m : SE} {ρ : Rho} {env : Env} {S : Store} {σ : L2.St} {H : Hp} {Q : VK} (rs : RelS X.K ρ S H) (re : RelE X.K ρ H env σ) (rp : RDs X.K ρ H pre vpre)
    (h : OKo X.K cl E ρ H (RD X.K) Q (mLam kd pre m env S)) : kd.TT X.K cl vpre (fun E' H' Q' => lE X.K cl E' m σ H' Q') H (fun v H' => Siz H' → Q v H') := by
  cases kd with
  | told rd word =>
    refine ⟨ρ, env, S, rs, re, ?_⟩
    have h : OKo X.K cl E ρ H (RD X.K) Q (match m env S with
      | .ok d S => (match rd [d] S with
        | .ok d2 S2 => .ok (.tup [.int 0, d2]) S2
        | _ => .bad)
      | .ex c S => (match word c with
        | some x => .ok (.tup [.int 1, .str x]) S
        | none => .bad)
      | .bad => .bad) := h
    cases hm : m env S with
    | ok d S1 =>
      rw [hm] at h
      intro ρ1 H1 v g rs1 rd1 _
      dsimp only at h
      refine ⟨ρ1, S1, [d], rs1, RDs.cons rd1 RDs.nil, ?_⟩
      cases hd : rd [d] S1 with
      | ok d2 S2 =>
        rw [hd] at h
        intro ρ2 H2 v2 g2 rs2 rd2 _
        refine ⟨by rw [sizeLine_eq]; simp, fun p np z _ => ?_⟩
        exact h ρ2 _ _ ((g.trans g2).trans (grow_upd np)) (rs2.out np) (RD.newTup rs2 np (RDs.cons RD.int (RDs.cons rd2 RDs.nil))) z
      | ex c S2 => rw [hd] at h; exact h.elim
      | bad => rw [hd] at h; exact h.elim
    | ex c S1 =>
      rw [hm] at h
      intro ρ1 H1 g rs1
      dsimp only at h
      cases hw : word c with
      | none => rw [hw] at h; exact h.elim
      | some x =>
        rw [hw] at h
        exact ⟨rfl, c, x, rfl, hw, fun p np z _ => h ρ1 _ _ (g.trans (grow_upd np)) (rs1.out np) (RD.newTup rs1 np (RDs.cons RD.int (RDs.cons RD.str RDs.nil))) z⟩
    | bad => rw [hm] at h; exact h.elim
  | raises word =>
    refine ⟨ρ, env, S, rs, re, ?_⟩
    unfold mLam LK.fin at h
    dsimp only at h
    cases hm : m env S with
    | ok d S1 =>
      rw [hm] at h
      exact fun ρ1 H1 v g rs1 _ z _ z' => h ρ1 H1 _ g rs1 RD.bl z'
    | ex c S1 =>
      rw [hm] at h
      dsimp only at h
      split at h
      · rename_i k
        cases hw : word c with
        | none => rw [hw] at h; exact h.elim
        | some jj =>
          rw [hw] at h
          intro ρ1 H1 g rs1
          obtain ⟨v, e2, rv⟩ := rp.one
          cases rv.ofInt
          exact ⟨rfl, c, jj, k, rfl, hw, e2, fun z _ => h ρ1 H1 _ g rs1 RD.bl z⟩
      · exact h.elim
    | bad =>
      rw [hm] at h
      exact h.elim
  | raised word =>
    refine ⟨ρ, env, S, rs, re, ?_⟩
    have h : OKo X.K cl E ρ H (RD X.K) Q (match m env S with
      | .ok _ S => .ok (.int 0) S
      | .ex c S => (match word c with
        | some j => .ok (.int j) S
        | none => .bad)
      | .bad => .bad) := h
    cases hm : m env S with
    | ok d S1 =>
      rw [hm] at h
      exact fun ρ1 H1 v g rs1 _ z _ z' => h ρ1 H1 _ g rs1 RD.int z'
    | ex c S1 =>
      rw [hm] at h
      dsimp only at h
      cases hw : word c with
      | none => rw [hw] at h; exact h.elim
      | some jj =>
        rw [hw] at h
        exact fun ρ1 H1 g rs1 => ⟨rfl, c, jj, rfl, hw, fun z _ => h ρ1 H1 _ g rs1 RD.int z⟩
    | bad => rw [hm] at h; exact h.elim
end
end Mir
end

section
set_option Elab.async false
set_option linter.all false
set_option maxRecDepth 100000
set_option maxHeartbeats 2000000
/-! Mir6i: x(lambda: e), where it is written. -/
namespace Mir
open PySem PySem.Spec PyProof.Rows L2
/-- where lambdas can be made: the def's code object and its table -/
structure LamAt (X : Cx) : Prop where
  ex : ∃ c P, X.env.code = .ref c ∧ LamX.TabB X.base X.mg c P ∧ (P, X.env.qual ++ "<lambda>") ∈ tabsK X.K ∧ ∀ p ∈ tabsK X.K, p.1 = P → p.2 = X.env.qual ++ "<lambda>"
def lamBare : Arguments → Bool
  | { posonlyargs := [], args := [], vararg := none, kwonlyargs := [], kw_defaults := [], kwarg := none, defaults := [] } => true
  | _ => false
theorem lam_bare {ps : Arguments} (h : lamBare ps = true) : ps = { posonlyargs := [], args := [], vararg := none, kwonlyargs := [], kw_defaults := [], kwarg := none, defaults := [] } := by
  unfold lamBare at h
  split at h
  · rfl
  · cases h
section
variable {X : Cx} {cl : Nat → Addr} {E : XK} {pins : List (Addr × Obj)} {σ : L2.St} {H : Hp} {s : Shared}
/-- the lambda made, then handed over -/
theorem lam_core {kd : LK} {pre : List D} {vpre : List V} {us0 : List Value} {m : SE} {ρ : Rho} {env : Env} {S : Store} {Q : VK} {j k : Nat} {np : Nat} {a : Addr} {fd : FuncData} {ps : List Str} {params : Arguments} {body : Expr} {scope : Scope} {lpos : Pos} (T : LamAt X)
    (hb : Binds X.K fd ps []) (hl : ps.length = np + 1) (hr : Room k X.A) (hgd : X.A.guards = some [])
    (F : ∀ (A : Around) (outer : List PySem.Env) (s : Shared) (H : Hp) (args : Args) (pre : List V) (us : List Value) (f : Addr) (I : Hp → Prop) (tl : XK → Hp → VK → Prop) (Q : VK), Room k A → A.guards = some [] → Env0 X.prog X.w X.K X.mg X.base A outer s H → BindsTo s fd args (ps.zip us) →
      Vals (pre ++ [.ref f]) us → pre.length = np → ClosOk X.prog X.w X.K X.mg X.base j outer s H f I tl → I H → kd.TT X.K cl pre tl H Q → codeAny (model X.prog X.w) A (.call (.ref a) args) (CR C8.CX0 outer X.prog X.w H s Q C8.E0) s)
    (L : LamX.LamS X.env.scope scope) (hdef : defaultsOf params X.env = ([], []))
    (hbind : ∀ (q : Str) (cl : List (Str × Addr)) (pm cv ctv : Value), bindArgs (PySem.W.kla_fn "<lambda>" q params body scope cl pm cv ctv) ⟨[], []⟩ = pure [])
    (hbody : ∀ (A : Around) (out2 : List PySem.Env) (s2 : Shared) (H2 : Hp) (E : XK) (f c' : Addr), Room j (A.deeper (LamX.lamEnv X scope s2.heap.objs.size f c')) → A.guards = some [] → PE (LamX.lamCx X A out2 s2 H2 E scope f c') body (lE X.K cl E m))
    (I : Inv X pins σ H s) (rs : RelS X.K ρ S H) (re : RelE X.K ρ H env σ) (rp : RDs X.K ρ H pre vpre) (rv : Vals vpre us0) (lp : vpre.length = np) (h : OKo X.K cl E ρ H (RD X.K) Q (mLam kd pre m env S)) (pos : Pos) :
    wpAny (model X.prog X.w) X.A (spliced ((false, eval (.Lambda params body scope lpos) X.env) :: backTo pos (starEach [] X.env))) (fun us s2 => X.K.In s2.heap ∧ wpAny (model X.prog X.w) X.A (call (.ref a) (us0 ++ us)) (EP X pins σ Q) X.xe s2) X.xe s := by
  obtain ⟨c, P, hc, TB, hm, hu⟩ := T.ex
  have tb := rs.tab
  rw [← rs.told] at hm hu
  refine Calls.spliced_cons (LamX.lam_make2 I TB hc hm hu tb hdef (L.has I.ok) fun f c' pm' ctv H1 s' I1 eN T1 hf hfn hfr hco => ?_)
  refine Calls.spliced_nil ⟨I1.kIn, ?_⟩
  have rs1 := extN_rel rs eN T1
  have g1 : Grow ρ H ρ H1 := extN_grow eN
  have vals : Vals (vpre ++ [.ref f]) (us0 ++ [.ref f]) := rv.append (.cons rfl .nil)
  have lu : (us0 ++ [Value.ref f]).length = ps.length := by rw [← vals.length, List.length_append, lp, hl]; rfl
  have bd := hb s' (us0 ++ [.ref f]) I1.kIn (by simpa using lu)
  simp only [List.append_nil] at bd
  refine wpAny_call (codeAny_mono (F X.A X.stack s' H1 ⟨us0 ++ [.ref f], []⟩ vpre (us0 ++ [.ref f]) f _ _ _ hr hgd I1.env0 bd vals lp (clos_ok (c' := c') (tb := fun E' => lE X.K cl E' m) I1 L hf hfn hfr hbind fun A out2 s2 H2 E' => hbody A out2 s2 H2 E' f c') hco
    (lam_TT rs1 (re.grow g1) (rp.grow g1) (OKo.grow g1 h))) fun r s2 hq => ?_)
  cases r with
  | error e => exact (show False from hq).elim
  | ok fl =>
    cases fl with
    | ret u =>
      obtain ⟨v, H2, I2, r2, q2⟩ := I1.after hq
      exact ⟨v, H2, I2, r2, q2 (siz_of I2.hok)⟩
    | next => exact (show False from hq).elim
    | brk => exact (show False from hq).elim
    | cont => exact (show False from hq).elim
theorem lam_none {params : Arguments} {env : PySem.Env} (h : lamBare params = true) : defaultsOf params env = ([], []) := by
  rw [lam_bare h]
  rfl
theorem lam_bind {params : Arguments} {body : Expr} {scope : Scope} (h : lamBare params = true) (q : Str) (cl : List (Str × Addr)) (pm cv ctv : Value) : bindArgs (PySem.W.kla_fn "<lambda>" q params body scope cl pm cv ctv) ⟨[], []⟩ = pure [] := by
  rw [lam_bare h]
  rfl
/-- x(lambda: e) -/
theorem c_lam0 {kd : LK} {m : SE} {x : Str} {j k : Nat} {params : Arguments} {body : Expr} {scope : Scope} {p lpos pos : Pos} (T : LamAt X) (C : LamCal X.prog X.w X.K X.mg X.base cl j k x 0 kd) (hr : Room k X.A) (hgd : X.A.guards = some []) (hg : Gl X x) (hdb : (x == ("__debug__" : Str)) = false)
    (L : LamX.LamS X.env.scope scope) (hp : lamBare params = true)
    (hbody : ∀ (A : Around) (out2 : List PySem.Env) (s2 : Shared) (H2 : Hp) (E : XK) (f c' : Addr), Room j (A.deeper (LamX.lamEnv X scope s2.heap.objs.size f c')) → A.guards = some [] → PE (LamX.lamCx X A out2 s2 H2 E scope f c') body (lE X.K cl E m)) :
    PE X (.Call (.Name x p) [.Lambda params body scope lpos] [] pos) (lE X.K cl E (mLam kd [] m)) := by
  obtain ⟨a, fd, ps, hm, hk, hb, hl, F⟩ := C.ex
  refine ⟨fun pins s σ H Q I h => ?_⟩
  obtain ⟨ρ, env, S, rs, re, h⟩ := h
  refine wpAny_Call_Name_kw (ld_glob I hg hm ?_ hdb)
  exact PySem.W.callWith_K (h₀ := X.base) I.ok.mod.kin hk (lam_core (us0 := []) T hb hl hr hgd F L (lam_none hp) (lam_bind hp) hbody I rs re RDs.nil .nil rfl h pos) (by rfl) (by rfl)
/-- x(i, lambda: e) -/
theorem c_lam1 {kd : LK} {m : SE} {x : Str} {i : Int} {j k jj : Nat} {params : Arguments} {body : Expr} {scope : Scope} {p lpos pos ip : Pos} (T : LamAt X) (C : LamCal X.prog X.w X.K X.mg X.base cl j k x 1 kd) (hr : Room k X.A) (hgd : X.A.guards = some []) (hg : Gl X x) (hdb : (x == ("__debug__" : Str)) = false)
    (L : LamX.LamS X.env.scope scope) (hp : lamBare params = true)
    (hbody : ∀ (A : Around) (out2 : List PySem.Env) (s2 : Shared) (H2 : Hp) (E : XK) (f c' : Addr), Room j (A.deeper (LamX.lamEnv X scope s2.heap.objs.size f c')) → A.guards = some [] → PE (LamX.lamCx X A out2 s2 H2 E scope f c') body (lE X.K cl E m)) :
    PE X (.Call (.Name x p) [.Constant (.int i) jj ip, .Lambda params body scope lpos] [] pos) (lE X.K cl E (mLam kd [.int i] m)) := by
  obtain ⟨a, fd, ps, hm, hk, hb, hl, F⟩ := C.ex
  refine ⟨fun pins s σ H Q I h => ?_⟩
  obtain ⟨ρ, env, S, rs, re, h⟩ := h
  refine wpAny_Call_Name_kw (ld_glob I hg hm ?_ hdb)
  refine PySem.W.callWith_K (h₀ := X.base) I.ok.mod.kin hk ?_ (by rfl) (by rfl)
  refine Calls.spliced_cons (thn ((pe_int (X := X) (i := i) (j := jj) (pos := ip)).run pins s σ H (fun v H1 => v = .int i ∧ H1 = H) I ⟨rfl, rfl⟩) fun u s1 ⟨v, H1, I1, r1, e1, e2⟩ => ?_)
  subst e1 e2
  exact lam_core (us0 := [u]) T hb hl hr hgd F L (lam_none hp) (lam_bind hp) hbody I1 rs re (RDs.cons RD.int RDs.nil) (.cons r1 .nil) rfl h pos
end
end Mir
end

section
set_option Elab.async false
set_option linter.all false
set_option maxRecDepth 100000
set_option maxHeartbeats 4000000
/-! Mir6j: sorted(set(list of numbers)). -/
namespace Mir
open PySem PySem.Spec L2 PyProof.Rows
section
variable {P : Program} {w : World} {A : Around} {E : Value → Shared → Prop} {s : Shared}
/-- a set with nothing in it, as it is laid -/
def nSet (w : World) : Obj := { cls := .type "set", dict := none, data := .set #[] 0 (.fresh 0 0 (!w.params.followText "set-order")) }
theorem set_of_list {l : Addr} {its : Array Value} (ns : List Int) {Q : Value → Shared → Prop} (free : A.handled = none) (at_ : s.heap.IsList l its) (are : IntsAre its.toList ns) (few : ns.length + 1 < scanBound)
    (q : ∀ (g : Heap) (tk c : Nat), SetR w g s.heap.objs.size (fun j => decide (j ∈ ns)) c → c ≤ ns.length → (∀ b o, s.heap.get? b = some o → g.get? b = some o) → Q (.ref s.heap.objs.size) { s with heap := g, toks := tk }) :
    wpAny (model P w) A (call (.type "set") [.ref l]) Q E s := by
  have sz : its.size = ns.length := by rw [← IntsAre.length are, Array.length_toList]
  obtain ⟨c0, tl0, mro0⟩ := F.called_set.mro
  have made0 := F.called_set.made
  have sub0 := F.called_set.sub
  refine wpAny_call (codeAny_of_tree ?_)
  show wpAny _ _ (callAny (.type "set") _) _ _ _
  refine wpAny_pure ⟨Code.quiet_builtin _ (by decide +kernel), codeAny_builtin F.entry_type_call ?_⟩
  rw [Around.under_plain (weight_type_call_type "set" [.ref l] []) rfl]
  have no0 := F.called_set.notType
  have can0 := F.called_set.canCreate
  have tc0 := F.typeCall_set_1 (.ref l)
  repeat (any_goals (first | assumption | wp_step))
  refine codeAny_mono (code_set_led1 (.ref l) (E := E) (Q₁ := fun v t => v = .ref s.heap.objs.size ∧ t = { s with heap := s.heap.push (nSet w) }) ⟨rfl, rfl⟩) fun r t hr => ?_
  cases r with
  | error e => exact hr
  | ok fl => cases fl with
    | ret v =>
      obtain ⟨rfl, rfl⟩ := hr
      have laid : (s.heap.push (nSet w)).get? s.heap.objs.size = some (nSet w) := Heap.get?_push_size _ rfl
      have ty : Shared.TypeIs { s with heap := s.heap.push (nSet w) } (.ref s.heap.objs.size) "set" := ⟨_, laid, rfl⟩
      have il := F.called_set.init.lookup
      have ib := F.called_set.init.bind (.ref s.heap.objs.size)
      repeat (any_goals (first | assumption | wp_step))
      refine codeAny_mono (codeAny_call_builtin (R := wants (fun y t => y = .none ∧ ∃ g tk c, t = { s with heap := g, toks := tk } ∧ SetR w g s.heap.objs.size (fun j => decide (j ∈ ns)) c ∧ c ≤ ns.length ∧ ∀ b o, s.heap.get? b = some o → g.get? b = some o) E)
        F.called_set.init.plain F.entry_set_init (check_set_init_1 ty ?_)) fun r2 t2 hr2 => ?_
      · have lo : l < s.heap.objs.size := by
          obtain ⟨o, ho, _⟩ := at_
          exact Heap.lt_size ho
        have at1 : (s.heap.push (nSet w)).IsList l its := at_.push _
        obtain ⟨ol, hol, hcl, nl, hdl⟩ := at_
        obtain ⟨ocls, odict, odata, oslots⟩ := ol
        simp only at hcl hdl
        subst hcl; subst hdl
        have hol' := Heap.get?_push_of_some (nSet w) hol
        have no1 := F.sub_list_set
        have no2 := F.sub_list_frozenset
        have ne1 : (Value.type "list" == Value.type "dict") = false := by decide
        unfold Builtin.«set.__init__» noKeywords Builtin.Frozenset.updateFrom
        generalize hPI : pyIter = PI
        wp_walk
        subst hPI
        refine wpAny_pyIter_list at1 (wpAny_bind (wpAny_runValue ?_))
        have free3 : A.in1.in1.in1.handled = none := by simp [free]
        have sz1 : (s.heap.push (nSet w)).objs.size = s.heap.objs.size + 1 := Heap.size_push ..
        have apart1 : l ≠ (s.heap.push (nSet w)).objs.size := by rw [sz1]; exact Nat.ne_of_lt (Nat.lt_succ_of_lt lo)
        have apart2 : s.heap.objs.size ∉ [(s.heap.push (nSet w)).objs.size, l] := by
          simp only [List.mem_cons, List.not_mem_nil, or_false, not_or]
          rw [sz1]
          exact ⟨Nat.ne_of_lt (Nat.lt_succ_self _), Nat.ne_of_gt lo⟩
        have each : ∀ (i : Nat) (v : Value), its[i]? = some v → ∃ k t, ns[i]? = some k ∧ v = .int k t := fun i v hv => by
          have hi : i < ns.length := sz ▸ (Array.getElem?_eq_some_iff.mp hv).1
          obtain ⟨t, e⟩ := PyProof.Rows.IntsAre.int_at are i v (by rw [Array.getElem?_toList]; exact hv)
          refine ⟨ns[i], t, List.getElem?_eq_getElem hi, ?_⟩
          rw [e, List.getD_eq_getElem?_getD, List.getElem?_eq_getElem hi]; rfl
        have get1 : ((s.heap.push (nSet w)).push { cls := .type "list_iterator", data := .fields #[.ref l, .int 0 0] }).get? s.heap.objs.size = some (nSet w) := Heap.get?_push_of_some _ laid
        refine set_update_ints ((Walks.list free3 _ l apart1 its).toS) s.heap.objs.size apart2 ns sz few each (its.size - 0) 0 _ (by omega) (Nat.zero_le _) ⟨⟨_, Heap.get?_push_size _ rfl, rfl, rfl⟩, at1.push _⟩ ⟨0, Nat.le_refl 0, setR_new_at get1⟩ ?_
        intro t c moved hc hS
        obtain ⟨g, g2, d2, tk, o2⟩ := t
        have e1 : g2 = s.gens := moved.gens
        have e2 : d2 = s.drawn := moved.drawn
        have e3 : o2 = s.os := moved.os
        subst e1 e2 e3
        refine wpAny_pure ?_
        rw [sz] at hc
        show wpAny _ _ (ret Value.none) _ _ _
        refine wpAny_pure ⟨rfl, g, tk, c, rfl, hS, hc, fun b o e => ?_⟩
        have b0 : b < s.heap.objs.size := Heap.lt_size e
        exact moved.heap b o (by
            simp only [List.mem_cons, List.not_mem_nil, or_false, not_or]
            rw [sz1]
            exact ⟨Nat.ne_of_lt b0, Nat.ne_of_lt (Nat.lt_succ_of_lt b0)⟩) (Heap.get?_push_of_some _ (Heap.get?_push_of_some _ e))
      · cases r2 with
        | error e => exact hr2
        | ok fl => cases fl with
          | ret y =>
            obtain ⟨rfl, g, tk, c, rfl, u1, u2, u3⟩ := hr2
            repeat (any_goals (first | assumption | wp_step))
            exact q _ _ _ u1 u2 u3
          | _ => exact hr2.elim
    | _ => exact hr.elim
end
/-- sorted(set(xs)), xs a list of fewer than 64 numbers -/
def tSortSet (K : PySem.W.Frag) (ta : TE) : TE := fun σ H Q => ta σ H fun x H1 => ∃ (l : Addr) (ns : List Int), x = .ref l ∧ SqL K H1 l (ns.map V.int) ∧ ns.length < 64 ∧
  ∀ (us : List Int) (p : Addr), us.Pairwise (· < ·) → (∀ k, k ∈ us ↔ k ∈ ns) → us.length ≤ ns.length → H1 p = none → Q (.ref p) (upd H1 p (.lst (us.map V.int)))
theorem pe_sortSet {X : Cx} {a : Expr} {ta : TE} {p p2 q pos : Pos} (hc : X.calm = true) (hg : Gl X "sorted") (hm : X.mg "sorted" = none) (hg2 : Gl X "set") (hm2 : X.mg "set" = none) (ha : PE X a ta)
    (na : starEach [a] X.env = (false, eval a X.env) :: starEach [] X.env) : PE X (.Call (.Name "sorted" p) [.Call (.Name "set" p2) [a] [] q] [] pos) (tSortSet X.K ta) := by
  refine ⟨fun pins s σ H Q I h => ?_⟩
  refine Call_ (ld_blt I hg hm PyProof.Rows.boot_sorted (PyProof.Rows.callWith_builtin1 (PyProof.Rows.args_cons ?_ rfl) rfl rfl))
  refine Call_ (ld_blt I hg2 hm2 PyProof.Rows.boot_set (PyProof.Rows.callWith_type1 (PyProof.Rows.args_cons (thn (ha.run pins s σ H _ I h) fun v s1 ⟨x, H1, I1, r1, q1⟩ => PyProof.Rows.args_nil ?_) na) na rfl))
  obtain ⟨l, ns, rfl, hq, few, q1⟩ := q1
  cases r1
  obtain ⟨its, rv, pl, _⟩ := I1.list hq
  have hd := I1.ok.hd hc
  refine set_of_list ns hd pl.isList (ints_of_vals rv) (by unfold scanBound; omega) fun g tk c R hcn keep => ?_
  refine PyProof.Rows.args_nil ?_
  have I2 : Inv X pins σ H1 { s1 with heap := g, toks := tk } := I1.kept fun b o e => keep b o e
  refine sorted_set R (I2.ok.hd hc) (by omega) fun s' p out c2 us k2 g2 o2 hp hgp hi hs hmem hl => ?_
  have np : H1 p = none := I2.hok.fresh hp
  have few2 : (us.map V.int).length ≤ sizeLine := by rw [List.length_map, hl, sizeLine_eq]; omega
  have J : Inv X pins σ (upd H1 p (.lst (us.map V.int))) s' := I2.call' (ch := []) o2 (Un.laid k2 hp np) (I2.hok.laid k2 hp ⟨few2, out.toList, c2, vals_of_ints hi, hgp⟩) (by rw [g2]; exact I2.bare) (fun _ z => nomatch z)
  exact ⟨.ref p, _, J, rfl, q1 us p hs (fun k => by rw [hmem, decide_eq_true_eq]) (by rw [hl]; exact hcn) np⟩
/-- each once -/
def once : List Int → List Int
  | [] => []
  | x :: xs => if x ∈ xs then once xs else x :: once xs
theorem mem_once {k : Int} : ∀ {xs : List Int}, k ∈ once xs ↔ k ∈ xs
  | [] => Iff.rfl
  | x :: xs => by
    unfold once
    by_cases h : x ∈ xs
    · rw [if_pos h, mem_once, List.mem_cons]
      exact ⟨.inr, fun z => z.elim (fun e => e ▸ h) id⟩
    · rw [if_neg h, List.mem_cons, List.mem_cons, mem_once]
theorem once_nodup : ∀ xs : List Int, (once xs).Nodup
  | [] => List.nodup_nil
  | x :: xs => by
    unfold once
    by_cases h : x ∈ xs
    · rw [if_pos h]; exact once_nodup xs
    · rw [if_neg h]; exact List.nodup_cons.mpr ⟨fun z => h (mem_once.mp z), once_nodup xs⟩
theorem once_sort {us ns : List Int} (h : us.Pairwise (· < ·)) (hm : ∀ k, k ∈ us ↔ k ∈ ns) : us = sortI (once ns) := by
  have nu : us.Nodup := h.imp fun h => by omega
  have pe : us.Perm (once ns) := (List.perm_ext_iff_of_nodup nu (once_nodup ns)).mpr fun k => by rw [hm, mem_once]
  exact (pe.trans (sortI_perm _).symm).eq_of_pairwise (fun x y _ _ h1 h2 => Int.le_antisymm h1 h2) (h.imp fun h => by omega) (sortI_sorted _)
def mSortSet (mt : Bool) (a : SE) : SE := fun env S => (a env S).bind fun x S1 => match listInts S1 x with
  | some ns => if ns.length < 64 then mkL mt ((sortI (once ns)).map D.int) S1 else .bad
  | none => .bad
theorem c_sortSet {X : Cx} {cl : Nat → Addr} {E : XK} {a : Expr} {ma : SE} {mt : Bool} {p p2 q pos : Pos} (hc : X.calm = true) (hg : Gl X "sorted") (hm : X.mg "sorted" = none) (hg2 : Gl X "set") (hm2 : X.mg "set" = none) (ha : PE X a (lE X.K cl E ma))
    (na : starEach [a] X.env = (false, eval a X.env) :: starEach [] X.env) : PE X (.Call (.Name "sorted" p) [.Call (.Name "set" p2) [a] [] q] [] pos) (lE X.K cl E (mSortSet mt ma)) := by
  refine PE.via (pe_sortSet hc hg hm hg2 hm2 ha na) fun σ H Q z h => ?_
  obtain ⟨ρ, env, S, rs, re, h⟩ := h
  refine lE_step rs re h fun x H1 ρ1 S1 d z1 g1 rs1 re1 rd h1 => ?_
  split at h1
  · rename_i ns hi
    split at h1
    · rename_i few
      obtain ⟨b, rfl, hs⟩ := listInts_at rs1 hi rd
      refine ⟨b, ns, rfl, SqL.of hs, few, fun us p hu hm _ np => ?_⟩
      rw [once_sort hu hm]
      exact mkL_ok rs1 (ints_rds _) h1 p np
    · exact h1.elim
  · exact h1.elim
end Mir
end

section
set_option Elab.async false
set_option linter.all false
set_option maxRecDepth 100000
/-! Mir7: the functions that expressions denote. -/
namespace Mir
open PySem PySem.Spec L2

/-- what the text's top tells: the defs' functions, whole numbers, the errors' classes; marks by places: which lists are changed later, which dicts bear tuples as keys -/
structure Gx where
  fns : List (Str × FSem)
  nums : List (Str × Int)
  exc : List (Str × Nat)
  mt : Pos → Bool
  dt : Pos → Bool
  wf : Nat
  lam : List (Str × Nat × LK) := []
  lb : Scope → Expr → SE := fun _ _ => mBad
def slotN (N : List Str) (x : Str) : Option Nat := N.findIdx? fun y => decide (y = x)
def globB (sc : Scope) (x : Str) : Bool := decide (sc.names.lookup x = some .globalImplicit) && decide (x ≠ "__debug__")
def visB (sc : Scope) (x : Str) : Bool := (match sc.names.lookup x with
  | some .local => true
  | some .cell => true
  | some .free => true
  | _ => false) && (!(x == ("__debug__" : Str)) && !(x == ("__classdict__" : Str)))
def isStar : Expr → Bool
  | .Starred _ _ => true
  | _ => false
def isSet : Expr → Bool
  | .Set _ _ _ => true
  | _ => false
def isTuple : Expr → Bool
  | .Tuple _ _ _ => true
  | _ => false
def isSlice : Expr → Bool
  | .Slice _ _ _ _ => true
  | _ => false
def isCall0 : Expr → Bool
  | .Call _ [] _ _ => true
  | _ => false
/-- its test is its value's truth -/
def plainT : Expr → Bool
  | .UnaryOp .Not _ _ => false
  | .BoolOp _ _ _ => false
  | .IfExp _ _ _ _ => false
  | .Compare _ _ _ _ => false
  | _ => true
def binV (mt : Bool) : Operator → Option V2
  | .Add => some (vAdd mt)
  | .Sub => some vSub
  | .Mult => some (vMul mt)
  | .FloorDiv => some vDiv
  | .Mod => some vMod
  | .Pow => some vPow
  | .LShift => some vShl
  | .RShift => some vShr
  | .BitAnd => some vAnd
  | .BitOr => some vOr
  | .BitXor => some vXor
  | _ => none
def cmpV : CmpOp → V2
  | .Eq => vEqS
  | .NotEq => vNeS
  | .Lt => vLt
  | .LtE => vLe
  | .Gt => vGt
  | .GtE => vGe
  | .Is => vIs
  | .IsNot => vIsNot
  | .In => vIn
  | .NotIn => vNotIn
inductive Blt where
  | len | abs | int | sum | max | min | any | all | list | tuple | sorted | repr
def bltOf (x : Str) : Option Blt :=
  if x = "len" then some .len else if x = "abs" then some .abs else if x = "int" then some .int else if x = "sum" then some .sum else if x = "max" then some .max else
  if x = "min" then some .min else if x = "any" then some .any else if x = "all" then some .all else if x = "list" then some .list else if x = "tuple" then some .tuple else if x = "sorted" then some .sorted else if x = "repr" then some .repr else none
def bltV (mt : Bool) : Blt → VL
  | .len => vLen
  | .abs => vAbs
  | .int => vIntC
  | .sum => vSum2
  | .max => vMax2
  | .min => vMin2
  | .any => vAnyAll false
  | .all => vAnyAll true
  | .list => vList mt
  | .tuple => vTuple
  | .sorted => vSorted mt
  | .repr => vRepr
/-- the built-in names that the text must leave alone -/
def bltNames : List Str := ["len", "abs", "int", "sum", "max", "min", "any", "all", "list", "tuple", "sorted", "range", "isinstance", "enumerate", "zip", "dict", "set", "repr", "bool", "str", "ValueError"]
def ownOf (N : List Str) (scope : Scope) : List (Str × Nat) := scope.names.filterMap fun p => match p.2 with
  | .local => (slotN N p.1).map fun i => (p.1, i)
  | .cell => (slotN N p.1).map fun i => (p.1, i)
  | _ => none
/-- methods of lists that change them, by their name and number of arguments -/
def vAppend (c : D) (ds : List D) (S : Store) : Out D := match c, ds with
  | .ref n, [d] => match S[n]? with
    | some (.lst xs) => if Nat.ble xs.length 16000000 then .ok .non (S.set n (.lst (xs ++ [d]))) else .bad
    | _ => .bad
  | _, _ => .bad
def vPop (c : D) (ds : List D) (S : Store) : Out D := match c, ds with
  | .ref n, [] => match S[n]? with
    | some (.lst xs) => match xs[xs.length - 1]? with
      | some d => .ok d (S.set n (.lst xs.dropLast))
      | none => .bad
    | _ => .bad
  | _, _ => .bad
inductive Mtd where
  | append | pop
def mtdOf (x : Str) (n : Nat) : Option Mtd :=
  if x = "append" ∧ n = 1 then some .append else if x = "pop" ∧ n = 0 then some .pop else none
def mtdV : Mtd → D → List D → Store → Out D
  | .append => vAppend
  | .pop => vPop
def mMtd (f : D → List D → Store → Out D) (o : SE) (as : SA) : SE := fun env S => (o env S).bind fun c S1 => match listOf S1 c with
  | some _ => (as env S1).bind fun ds S2 => f c ds S2
  | none => .bad
def mGet (o k x : SE) : SE := fun env S => (o env S).bind fun c S1 => match c with
  | .ref n => match S1[n]? with
    | some (.dic t _) => (k env S1).bind fun kd S2 => (x env S2).bind fun xd S3 => match S3[n]? with
      | some (.dic t2 kvs) => if isKey t2 kd then .ok ((dLook t2 kvs kd).getD xd) S3 else .bad
      | _ => .bad
    | _ => .bad
  | _ => .bad
/-- list(range(..)), tuple(range(..)) -/
def mRgL (tup mt : Bool) (as : SA) : SE := fun env S => (as env S).bind fun xs S1 => match xs with
  | [.int j] => if rngOk j && Nat.ble j.toNat 16777216 then (if tup then .ok (.tup (rangeD 0 j.toNat)) S1 else mkL mt (rangeD 0 j.toNat) S1) else .bad
  | [.int i, .int j] => if rngOk i && rngOk j && Nat.ble (j - i).toNat 16777216 then (if tup then .ok (.tup (rangeD i (j - i).toNat)) S1 else mkL mt (rangeD i (j - i).toNat) S1) else .bad
  | _ => .bad

section
variable (Γ : Gx) (N : List Str)
/-- a name -/
def dName (sc : Scope) (x : Str) : SE := if visB sc x then (match slotN N x with
    | some i => mVar i
    | none => mBad)
  else if globB sc x then (match Γ.nums.lookup x with
    | some i => mC (.int i)
    | none => mBad) else mBad
def dArgs (f : Expr → SE) : List Expr → SA
  | [] => mNil
  | e :: es => if isStar e then (fun _ _ => .bad) else mCons (f e) (dArgs f es)
def dAnd (t : Expr → ST) : List Expr → ST
  | [] => fun _ _ => .bad
  | [e] => t e
  | e :: es => mAndT (t e) (dAnd t es)
def dOr (t : Expr → ST) : List Expr → ST
  | [] => fun _ _ => .bad
  | [e] => t e
  | e :: es => mOrT (t e) (dOr t es)
def dAndV (f : Expr → SE) : List Expr → SE
  | [] => mBad
  | [e] => f e
  | e :: es => mAndV (f e) (dAndV f es)
def dOrV (f : Expr → SE) : List Expr → SE
  | [] => mBad
  | [e] => f e
  | e :: es => mOrV (f e) (dOrV f es)
def owB (ow : Option (List Nat)) (i : Nat) : Bool := match ow with
  | none => true
  | some vs => vs.contains i
/-- targets of names alone; ow: the comprehension's own slots -/
def dTgt (sc : Scope) (fb : Str → Bool) (ow : Option (List Nat)) (fs : Expr → SE) : Nat → Expr → SG
  | 0, _ => fun _ _ _ => .bad
  | n + 1, e => match e with
    | .Name x _ => match slotN N x with
      | some i => if (decide (sc.names.lookup x = some .local) || (decide (sc.names.lookup x = some .cell) && fb x)) && owB ow i then gSet i else fun _ _ _ => .bad
      | none => fun _ _ _ => .bad
    | .Tuple es _ _ => if es.any isStar then (fun _ _ _ => .bad) else gTupD es.length (es.foldr (fun e g => gMore (dTgt sc fb ow fs n e) g) gNone)
    | .Subscript o i _ => if isSlice i then (fun _ _ _ => .bad) else gSubD (fs o) (fs i)
    | _ => fun _ _ _ => .bad
def dIter (sc : Scope) (fs : Expr → SE) (tg e : Expr) : Env → Store → Out Src := match e with
  | .Call (.Name x _) [a] [] _ => if x = "range" then (if globB sc x && !isStar a then mRange1 (mCons (fs a) mNil) else fun _ _ => .bad)
    else if x = "enumerate" then (if globB sc x && (!isStar a && isTuple tg) then mEnum (mCons (fs a) mNil) else fun _ _ => .bad) else mSrc (fs e)
  | .Call (.Name x _) [a, c, d] [] _ => if x = "range" then (if globB sc x && (!isStar a && (!isStar c && !isStar d)) then mRange3 (mCons (fs a) (mCons (fs c) (mCons (fs d) mNil))) else fun _ _ => .bad) else mSrc (fs e)
  | .Call (.Name x _) [a, c] [] _ => if x = "range" then (if globB sc x && (!isStar a && !isStar c) then mRange2 (mCons (fs a) (mCons (fs c) mNil)) else fun _ _ => .bad)
    else if x = "zip" then (if globB sc x && ((!isStar a && !isStar c) && isTuple tg) then mZip (mCons (fs a) (mCons (fs c) mNil)) else fun _ _ => .bad) else mSrc (fs e)
  | _ => if isSet e then (fun _ _ => .bad) else mSrc (fs e)
def dIfs (ft : Expr → ST) : List Expr → ST
  | [] => fun _ S => .ok true S
  | [t] => ft t
  | _ => fun _ _ => .bad
def dLC (mt : Bool) (sc : Scope) (fs : Expr → SE) (fe : Scope → Expr → SE) (ft : Scope → Expr → ST) (elt : Expr) (c : Comprehension) (scope : Scope) : SE :=
  if blkC N sc scope (ownOf N scope) && (decide (c.is_async = 0) && !isSet c.iter) then
    mLC ((ownOf N scope).map (·.2)) mt (dIter sc fs c.target c.iter) (dTgt N (relS scope sc) (fun x => scope.names.lookup x == some .cell) (some ((ownOf N scope).map (·.2))) (fun _ => mBad) 3 c.target) (dIfs (ft (relS scope sc)) c.ifs) (fe (relS scope sc) elt)
  else mBad
def tgSlots : Expr → List Nat
  | .Name x _ => (slotN N x).toList
  | .Tuple es _ _ => es.flatMap fun e => match e with
    | .Name x _ => (slotN N x).toList
    | _ => []
  | _ => []
def dLC2 (mt : Bool) (sc : Scope) (fs : Expr → SE) (fe : Scope → Expr → SE) (ft : Scope → Expr → ST) (elt : Expr) (c c1 : Comprehension) (scope : Scope) : SE :=
  if blkC N sc scope (ownOf N scope) && ((decide (c.is_async = 0) && !isSet c.iter) && ((decide (c1.is_async = 0) && !isSet c1.iter) && (tgSlots N c1.target).all fun i => ((ownOf N scope).map (·.2)).contains i)) then
    mLC2 ((ownOf N scope).map (·.2)) (tgSlots N c1.target) mt (dIter sc fs c.target c.iter) (dTgt N (relS scope sc) (fun x => scope.names.lookup x == some .cell) (some ((ownOf N scope).map (·.2))) (fun _ => mBad) 3 c.target) (dIfs (ft (relS scope sc)) c.ifs)
      (dIter (relS scope sc) (fe (relS scope sc)) c1.target c1.iter) (dTgt N (relS scope sc) (fun x => scope.names.lookup x == some .cell) (some (tgSlots N c1.target)) (fun _ => mBad) 3 c1.target) (dIfs (ft (relS scope sc)) c1.ifs) (fe (relS scope sc) elt)
  else mBad
def dDC (t : Bool) (sc : Scope) (fs : Expr → SE) (fe : Scope → Expr → SE) (ft : Scope → Expr → ST) (k v : Expr) (c : Comprehension) (scope : Scope) : SE :=
  if blkC N sc scope (ownOf N scope) && (decide (c.is_async = 0) && !isSet c.iter) then
    mDC ((ownOf N scope).map (·.2)) t (dIter sc fs c.target c.iter) (dTgt N (relS scope sc) (fun x => scope.names.lookup x == some .cell) (some ((ownOf N scope).map (·.2))) (fun _ => mBad) 3 c.target) (dIfs (ft (relS scope sc)) c.ifs) (fe (relS scope sc) k) (fe (relS scope sc) v)
  else mBad
def dCmp (f : Expr → SE) (a : Expr) (ops : List CmpOp) (cs : List Expr) : SE := match ops, cs with
  | [op], [c] => if isSet c then mBad else m2 (cmpV op) (f a) (f c)
  | [op, op2, op3], [c, c2, c3] => if isSet c3 then mBad else mChain3 (cmpV op) (cmpV op2) (cmpV op3) (f a) (f c) (f c2) (f c3)
  | [op, op2], [c, c2] => if isSet c || isSet c2 then mBad else mChain (cmpV op) (cmpV op2) (f a) (f c) (f c2)
  | _, _ => mBad
/-- isinstance(e, T) -/
def dIsi (sc : Scope) (f : Expr → SE) (es : List Expr) : SE := match es with
  | [a, .Name x _] => if globB sc x && !isStar a then (match tyOf x with
    | some t => mIs t (f a)
    | none => mBad) else mBad
  | _ => mBad
/-- list(range(e)), tuple(range(e)) -/
def rgArg : List Expr → Option Expr
  | [.Call (.Name x _) [a] [] _] => if x = "range" then some a else none
  | _ => none
def dRg (sc : Scope) (mt : Bool) (f : Expr → SE) (x : Str) (a : Expr) : SE :=
  if globB sc x && (globB sc "range" && !isStar a) then (if x = "list" then mRg1 false mt (f a) else if x = "tuple" then mRg1 true mt (f a) else mBad) else mBad
def setArg : List Expr → Option Expr
  | [.Call (.Name x _) [a] [] _] => if x = "set" then some a else none
  | _ => none
def dSet (sc : Scope) (mt : Bool) (f : Expr → SE) (x : Str) (a : Expr) : SE :=
  if globB sc x && (globB sc "set" && !isStar a) then (if x = "sorted" then mSortSet mt (f a) else mBad) else mBad
/-- a lambda handed over, what stands ahead of it -/
def lamArg : List Expr → Option (List D × Arguments × Expr × Scope)
  | [.Lambda ps b sc _] => some ([], ps, b, sc)
  | [.Constant (.int i) _ _, .Lambda ps b sc _] => some ([.int i], ps, b, sc)
  | _ => none
def dLam (sc : Scope) (x : Str) (l : List D × Arguments × Expr × Scope) : SE :=
  if globB sc x && (lamBare l.2.1 && LamX.lamSB sc l.2.2.2) then (match Γ.lam.lookup x with
    | some (np, kd) => if l.1.length = np then mLam kd l.1 (Γ.lb l.2.2.2 l.2.2.1) else mBad
    | none => mBad) else mBad
def dCall (sc : Scope) (f : Expr → SE) (g : Expr) (es : List Expr) (ks : List Keyword) (pos : Pos) : SE := match g with
  | .Name x _ => if x = "isinstance" then (if ks.isEmpty && globB sc x then dIsi sc f es else mBad) else match setArg es with
    | some a => if ks.isEmpty then dSet sc (Γ.mt pos) f x a else mBad
    | none => match rgArg es with
    | some a => if ks.isEmpty then dRg sc (Γ.mt pos) f x a else mBad
    | none => match lamArg es with
    | some l => if ks.isEmpty then dLam Γ sc x l else mBad
    | none => if ks.isEmpty && (globB sc x && (!es.isEmpty && !es.any isStar)) then (match Γ.fns.lookup x with
    | some g => mCall g (dArgs f es)
    | none => match bltOf x with
      | some bl => mCall (bltV (Γ.mt pos) bl) (dArgs f es)
      | none => mBad) else mBad
  | .Attribute o m apos => if ks.isEmpty && (!isCall0 o && (!es.any isStar && ((apos.endLine == pos.line) && Nat.ble es.length 19))) then (match mtdOf m es.length with
    | some mt => mMtd (mtdV mt) (f o) (dArgs f es)
    | none => mBad) else mBad
  | _ => mBad
mutual
def dE : Nat → Scope → Expr → SE
  | 0, _, _ => mBad
  | n + 1, sc, e => match e with
    | .Name x _ => dName Γ N sc x
    | .Constant c _ _ => match c with
      | .int i => mC (.int i)
      | .bool k => mC (.bl k)
      | .none => mC .non
      | .str x => mC (.str x)
      | _ => mBad
    | .BinOp l op r pos => match binV (Γ.mt pos) op with
      | some f => m2 f (dE n sc l) (dE n sc r)
      | none => mBad
    | .UnaryOp op a _ => match op with
      | .USub => m1 vNeg (dE n sc a)
      | .Not => mNotV (dE n sc a)
      | _ => mBad
    | .BoolOp op es _ => match op with
      | .And => dAndV (dE n sc) es
      | .Or => dOrV (dE n sc) es
    | .IfExp t a c _ => mIf (dT n sc t) (dE n sc a) (dE n sc c)
    | .Compare a ops cs _ => dCmp (dE n sc) a ops cs
    | .Tuple es _ _ => mTup (dArgs (dE n sc) es)
    | .List es pos => mLst (Γ.mt pos) (dArgs (dE n sc) es)
    | .Dict ks vs pos => match ks, vs with
      | [], [] => mDic (Γ.dt pos)
      | [some k], [v] => mDisp1 (dE n sc k) (dE n sc v)
      | _, _ => mBad
    | .Subscript a i pos => match i with
      | .Slice lo hi st _ => match st with
        | none => mSl (Γ.mt pos) (dE n sc a) (lo.map (dE n sc)) (hi.map (dE n sc))
        | some s => match lo, hi, s with
          | none, none, .UnaryOp .USub (.Constant (.int i) _ _) _ => if i = 1 then mRev (Γ.mt pos) (dE n sc a) else mBad
          | _, _, _ => mBad
      | _ => m2 vIx (dE n sc a) (dE n sc i)
    | .Call f es ks pos => dCall Γ sc (dE n sc) f es ks pos
    | .DictComp k v gs scope pos => match gs with
      | [c] => dDC N (Γ.dt pos) sc (dE n sc) (dE n) (dT n) k v c scope
      | _ => mBad
    | .ListComp elt gs scope pos => match gs with
      | [c] => dLC N (Γ.mt pos) sc (dE n sc) (dE n) (dT n) elt c scope
      | [c, c1] => dLC2 N (Γ.mt pos) sc (dE n sc) (dE n) (dT n) elt c c1 scope
      | _ => mBad
    | _ => mBad
def dT : Nat → Scope → Expr → ST
  | 0, _, _ => fun _ _ => .bad
  | n + 1, sc, e => match e with
    | .UnaryOp .Not a _ => mNotT (dT n sc a)
    | .BoolOp op es _ => match op with
      | .And => dAnd (dT n sc) es
      | .Or => dOr (dT n sc) es
    | .Compare a ops cs _ => mTst (dCmp (dE n sc) a ops cs)
    | .IfExp _ _ _ _ => fun _ _ => .bad
    | _ => mTru (dE n sc e)
end
end
end Mir
end

section
set_option Elab.async false
set_option linter.all false
set_option maxRecDepth 100000
set_option maxHeartbeats 2000000
/-! Mir8: the expressions' functions are what they do. -/
namespace Mir
open PySem PySem.Spec L2

theorem slot_ix {N : List Str} {x : Str} {i : Nat} (h : slotN N x = some i) : N[i]? = some x := by
  unfold slotN at h
  obtain ⟨h1, h2⟩ := List.findIdx?_eq_some_iff_getElem.mp h
  obtain ⟨h2, _⟩ := h2
  rw [List.getElem?_eq_getElem h1]
  exact congrArg some (of_decide_eq_true h2)
theorem vis_of {sc : Scope} {x : Str} (h : visB sc x = true) : Vis sc x ∧ (x == ("__debug__" : Str)) = false ∧ (x == ("__classdict__" : Str)) = false := by
  unfold visB at h
  rw [Bool.and_eq_true, Bool.and_eq_true] at h
  obtain ⟨h1, h2, h3⟩ := h
  refine ⟨?_, by simpa using h2, by simpa using h3⟩
  split at h1
  · rename_i e; exact .inl e
  · rename_i e; exact .inr (.inl e)
  · rename_i e; exact .inr (.inr e)
  · cases h1
theorem star_one {e : Expr} {es : List Expr} {env : PySem.Env} (h : isStar e = false) : starEach (e :: es) env = (false, eval e env) :: starEach es env := by
  cases e <;> first | rfl | cases h
theorem star_plain {env : PySem.Env} {pos : Pos} : ∀ {es : List Expr}, es.any isStar = false → (backTo pos (starEach es env)).any (·.1) = false ∧ (backTo pos (starEach es env)).all (fun x => !x.1) = true
  | [], _ => ⟨rfl, rfl⟩
  | e :: es, h => by
    rw [List.any_cons, Bool.or_eq_false_iff] at h
    obtain ⟨h1, h2⟩ := star_plain (env := env) (pos := pos) h.2
    rw [star_one h.1]
    refine ⟨?_, ?_⟩
    · show (false || (backTo pos (starEach es env)).any (·.1)) = false
      rw [h1]; rfl
    · show (!false && (backTo pos (starEach es env)).all (fun x => !x.1)) = true
      rw [h2]; rfl
theorem assign_one {e : Expr} {es : List Expr} {env : PySem.Env} (h : isStar e = false) : assignEach (e :: es) env = (false, assign e env) :: assignEach es env := by
  cases e <;> first | rfl | cases h
theorem assign_plain {env : PySem.Env} : ∀ {es : List Expr}, es.any isStar = false → (assignEach es env).length = es.length ∧ (assignEach es env).findIdx? (·.1) = none
  | [], _ => ⟨rfl, rfl⟩
  | e :: es, h => by
    rw [List.any_cons, Bool.or_eq_false_iff] at h
    obtain ⟨h1, h2⟩ := assign_plain (env := env) h.2
    rw [assign_one h.1]
    refine ⟨by simp [h1], ?_⟩
    rw [List.findIdx?_cons]
    simp [h2]
theorem behind_ok {op : CmpOp} {e : Expr} (h : isSet e = false) : behindInMarks op e = false := by
  cases e <;> first | rfl | cases h
theorem folded_ok {e : Expr} {env : PySem.Env} (h : isSet e = false) : ∀ x, foldedSetIterable e env x = pure x := by
  intro x
  cases e <;> first | rfl | cases h
theorem base_ok {o : Expr} {m : Str} {env : PySem.Env} {whole : Sem Value} (h : isCall0 o = false) : attributeBase o m env whole = whole := by
  cases o with
  | Call f es ks pos =>
    cases es with
    | nil => cases h
    | cons a b => cases f <;> rfl
  | _ => rfl
theorem slice_ok {i : Expr} (h : isSlice i = false) (v u : Value) : subscripted i false v u = operate [v, u] (getItem v u) := by
  cases i <;> first | rfl | cases h
theorem truth_ok {e : Expr} {env : PySem.Env} (h : plainT e = true) : ∀ whole, isTrue e env whole = (do let v ← whole; standAt e.pos; holding [v] (truthy v)) := by
  intro w
  cases e with
  | UnaryOp op a p => cases op <;> first | rfl | cases h
  | BoolOp _ _ _ => cases h
  | IfExp _ _ _ _ => cases h
  | Compare _ _ _ _ => cases h
  | _ => rfl

/-- where the text stands -/
structure Cond0 (X : Cx) (Γ : Gx) (cl : Nat → Addr) (E : XK) (N : List Str) (sc : Scope) (fb : Str → Bool) (k : Nat) : Prop where
  eN : X.N = N
  nd : N.Nodup
  eS : X.env.scope = sc
  calm : X.calm = true
  room : Room k X.A
  gd : X.A.guards = some []
  tk : Takes X (fun c d _ H => E c d H)
  fns : ∀ x f, Γ.fns.lookup x = some f → Cal X.prog X.w X.K X.mg X.base cl k x f
  nums : ∀ x i, Γ.nums.lookup x = some i → ∃ t, X.mg x = some (.int i t)
  free : ∀ x ∈ bltNames, X.mg x = none
  hfb : ∀ x, fb x = true → X.fn x = true
/-- what lambdas lean on -/
structure LamK (X : Cx) (Γ : Gx) (cl : Nat → Addr) (N : List Str) (k : Nat) (x : Str) (np : Nat) (kd : LK) : Prop where
  here : LamAt X
  ex : ∃ j, LamCal X.prog X.w X.K X.mg X.base cl j k x np kd ∧ (∀ y f, Γ.fns.lookup y = some f → Cal X.prog X.w X.K X.mg X.base cl j y f) ∧
    ∀ (X' : Cx) (E' : XK) (sc' : Scope), Cond0 X' Γ cl E' N sc' (fun _ => false) j → ∀ e, PE X' e (lE X'.K cl E' (Γ.lb sc' e))
structure Cond (X : Cx) (Γ : Gx) (cl : Nat → Addr) (E : XK) (N : List Str) (sc : Scope) (fb : Str → Bool) (k : Nat) : Prop extends Cond0 X Γ cl E N sc fb k where
  lam : ∀ x np kd, Γ.lam.lookup x = some (np, kd) → LamK X Γ cl N k x np kd
section
variable {X : Cx} {Γ : Gx} {cl : Nat → Addr} {E : XK} {N : List Str} {sc : Scope} {fb : Str → Bool} {k : Nat}
theorem Cond.u (C : Cond X Γ cl E N sc fb k) : X.A.units + 65 < cLine := by have := C.room.units; have := C.room.un; omega
theorem pe_bad {e : Expr} : PE X e (lE X.K cl E mBad) := ⟨fun _ _ _ _ _ _ ⟨_, _, _, _, _, h⟩ => h.elim⟩
theorem pt_bad {e : Expr} : PT X e (lT X.K cl E fun _ _ => .bad) := ⟨fun _ _ _ _ _ _ ⟨_, _, _, _, _, h⟩ => h.elim⟩
theorem pw_bad {e : Expr} : PW X e (lT X.K cl E fun _ _ => .bad) := ⟨fun _ _ _ _ _ _ _ ⟨_, _, _, _, _, h⟩ => h.elim⟩
theorem pa_bad {e : List Expr} : PA X e (lA X.K cl E fun _ _ => .bad) := ⟨fun _ _ _ _ _ _ _ ⟨_, _, _, _, _, h⟩ => h.elim⟩
theorem pg_bad {e : Expr} {ow : Option (List Nat)} : PG X e (lG X.K cl E ow fun _ _ _ => .bad) := ⟨fun _ _ _ _ _ _ _ _ _ ⟨_, _, _, _, _, _, _, h⟩ => h.elim⟩
theorem pi_bad {tg e : Expr} : PI X tg e (lI X.K cl E fun _ _ => .bad) := ⟨fun _ _ _ _ _ _ ⟨_, _, _, _, _, h⟩ => h.elim⟩
theorem glob_of (C : Cond X Γ cl E N sc fb k) {x : Str} (h : globB sc x = true) : Gl X x ∧ (x == ("__debug__" : Str)) = false := by
  unfold globB at h
  rw [Bool.and_eq_true] at h
  refine ⟨?_, by simpa using of_decide_eq_true h.2⟩
  show X.env.scope.names.lookup x = _
  rw [C.eS]
  exact of_decide_eq_true h.1
theorem dName_ok (C : Cond X Γ cl E N sc fb k) {x : Str} {pos : Pos} : PE X (.Name x pos) (lE X.K cl E (dName Γ N sc x)) := by
  unfold dName
  split
  · rename_i hv
    obtain ⟨h1, h2, h3⟩ := vis_of hv
    split
    · rename_i i hi
      exact c_var (by rw [C.eN]; exact slot_ix hi) (by rw [C.eS]; exact h1) h2 h3
    · exact pe_bad
  · split
    · rename_i hg
      obtain ⟨g1, g2⟩ := glob_of C hg
      split
      · rename_i i hi
        obtain ⟨t, ht⟩ := C.nums x i hi
        exact c_val (pe_glob (v := .int i) g1 ht ⟨t, rfl⟩ g2) fun _ _ => RD.int
      · exact pe_bad
    · exact pe_bad
theorem dArgs_ok {f : Expr → SE} (hf : ∀ e, PE X e (lE X.K cl E (f e))) : ∀ es : List Expr, PA X es (lA X.K cl E (dArgs f es))
  | [] => c_nil
  | e :: es => by
    unfold dArgs
    split
    · exact pa_bad
    · rename_i h
      exact c_cons (hf e) (dArgs_ok hf es) (star_one (by simpa using h))
theorem dAnd_ok {t : Expr → ST} (ht : ∀ e, PT X e (lT X.K cl E (t e))) {pos : Pos} : ∀ es : List Expr, PW X (.BoolOp .And es pos) (lT X.K cl E (dAnd t es))
  | [] => pw_bad
  | [e] => c_and1 (ht e)
  | e :: e2 :: es => c_andT (ht e) (dAnd_ok ht (e2 :: es))
theorem dOr_ok {t : Expr → ST} (ht : ∀ e, PT X e (lT X.K cl E (t e))) {pos : Pos} : ∀ es : List Expr, PW X (.BoolOp .Or es pos) (lT X.K cl E (dOr t es))
  | [] => pw_bad
  | [e] => c_or1 (ht e)
  | e :: e2 :: es => c_orT (ht e) (dOr_ok ht (e2 :: es))
theorem dAndV_ok {f : Expr → SE} (hf : ∀ e, PE X e (lE X.K cl E (f e))) {pos : Pos} : ∀ es : List Expr, PE X (.BoolOp .And es pos) (lE X.K cl E (dAndV f es))
  | [] => pe_bad
  | [e] => pe_one (hf e)
  | e :: e2 :: es => c_andV (hf e) (dAndV_ok hf (e2 :: es))
theorem dOrV_ok {f : Expr → SE} (hf : ∀ e, PE X e (lE X.K cl E (f e))) {pos : Pos} : ∀ es : List Expr, PE X (.BoolOp .Or es pos) (lE X.K cl E (dOrV f es))
  | [] => pe_bad
  | [e] => pe_one (hf e)
  | e :: e2 :: es => c_orV (hf e) (dOrV_ok hf (e2 :: es))
theorem bin_ok (op : Operator) {mt : Bool} {f : V2} (h : binV mt op = some f) : OpR X (binaryOp op) (w2 X.K cl E f) := by
  cases op <;> first | (cases h; first | exact or_add | exact or_sub | exact or_mul | exact or_div | exact or_mod | exact or_pow | exact or_shl | exact or_shr | exact or_band | exact or_bor | exact or_bxor) | cases h
theorem cmp_ok (C : Cond X Γ cl E N sc fb k) (op : CmpOp) : OpR X (compareOp op) (w2 X.K cl E (cmpV op)) := by
  have u := C.u
  cases op
  · exact or_eqS u
  · exact or_neS u
  · exact or_lt (by omega)
  · exact or_le
  · exact or_gt
  · exact or_ge
  · exact or_is
  · exact or_isNot
  · exact or_in u
  · exact or_notIn u
theorem dTgt_ok (C : Cond X Γ cl E N sc fb k) {ow : Option (List Nat)} {fs : Expr → SE} (hf : ∀ e, PE X e (lE X.K cl E (fs e))) : ∀ (n : Nat) (e : Expr), PG X e (lG X.K cl E ow (dTgt N sc fb ow fs n e))
  | 0, _ => pg_bad
  | n + 1, e => by
    have u := C.u
    unfold dTgt
    split
    · split
      · rename_i x _ _ i hi
        split
        · rename_i hc
          rw [Bool.and_eq_true, Bool.or_eq_true, Bool.and_eq_true, decide_eq_true_eq, decide_eq_true_eq] at hc
          obtain ⟨h1, h2⟩ := hc
          refine g_name (by rw [C.eN]; exact C.nd) (by rw [C.eN]; exact slot_ix hi) ?_ ?_ fun vs e => ?_
          · rw [C.eS]
            rcases h1 with h | ⟨h, _⟩
            · exact .inl h
            · exact .inr h
          · rw [C.eS]
            rcases h1 with h | ⟨_, h⟩
            · exact .inr h
            · exact .inl (C.hfb _ h)
          · subst e
            exact List.contains_iff_mem.mp (show vs.contains i = true from h2)
        · exact pg_bad
      · exact pg_bad
    · rename_i es _ _
      split
      · exact pg_bad
      · rename_i hs
        replace hs : es.any isStar = false := by simpa using hs
        obtain ⟨h1, h2⟩ := assign_plain (env := X.env) hs
        refine g_tup C.calm ?_ h1 h2
        clear h1 h2
        induction es with
        | nil => exact g_nil
        | cons e es ih =>
          rw [List.any_cons, Bool.or_eq_false_iff] at hs
          rw [List.foldr_cons]
          exact g_cons (dTgt_ok C hf n e) (ih hs.2) (by rw [assign_one hs.1]; rfl)
    · split
      · exact pg_bad
      · rename_i o i _ hs
        refine g_sub (by omega) (hf o) (hf i) fun v => ?_
        cases i <;> first | rfl | exact absurd rfl hs
    · exact pg_bad
theorem dIter_ok (C : Cond X Γ cl E N sc fb k) {fs : Expr → SE} (hf : ∀ e, PE X e (lE X.K cl E (fs e))) {tg : Expr} (e : Expr) : PI X tg e (lI X.K cl E (dIter sc fs tg e)) := by
  have hr : X.mg "range" = none := C.free _ (List.mem_of_getElem? (i := 11) rfl)
  have hen : X.mg "enumerate" = none := C.free _ (List.mem_of_getElem? (i := 13) rfl)
  have hzi : X.mg "zip" = none := C.free _ (List.mem_of_getElem? (i := 14) rfl)
  unfold dIter
  split
  · rename_i x p a pos
    by_cases hx : x = "range"
    · rw [if_pos hx]
      subst hx
      split
      · rename_i hc
        simp only [Bool.and_eq_true, Bool.not_eq_true'] at hc
        obtain ⟨hg, s1⟩ := hc
        exact i_range1 (glob_of C hg).1 hr (c_cons (hf _) c_nil (star_one s1)) (by rw [star_one s1]; rfl)
      · exact pi_bad
    · rw [if_neg hx]
      by_cases hy : x = "enumerate"
      · rw [if_pos hy]
        subst hy
        split
        · rename_i hc
          simp only [Bool.and_eq_true, Bool.not_eq_true'] at hc
          obtain ⟨hg, s1, ht⟩ := hc
          cases tg with
          | Tuple _ _ _ => exact i_enum (glob_of C hg).1 hen (c_cons (hf _) c_nil (star_one s1)) (by rw [star_one s1]; rfl)
          | _ => cases ht
        · exact pi_bad
      · rw [if_neg hy]
        exact i_value (hf _)
  · rename_i x p a c d pos
    by_cases hx : x = "range"
    · rw [if_pos hx]
      subst hx
      split
      · rename_i hc
        simp only [Bool.and_eq_true, Bool.not_eq_true'] at hc
        obtain ⟨hg, s1, s2, s3⟩ := hc
        refine i_range3 (glob_of C hg).1 hr (c_cons (hf _) (c_cons (hf _) (c_cons (hf _) c_nil (star_one s3)) (star_one s2)) (star_one s1)) (star_one s1) (star_plain ?_).1
        simp [s2, s3]
      · exact pi_bad
    · rw [if_neg hx]
      exact i_value (hf _)
  · rename_i x p a c pos
    by_cases hx : x = "range"
    · rw [if_pos hx]
      subst hx
      split
      · rename_i hc
        simp only [Bool.and_eq_true, Bool.not_eq_true'] at hc
        obtain ⟨hg, s1, s2⟩ := hc
        exact i_range2 (glob_of C hg).1 hr (c_cons (hf _) (c_cons (hf _) c_nil (star_one s2)) (star_one s1)) (by rw [star_one s1, star_one s2]; rfl) (by rw [star_one s2]; rfl)
      · exact pi_bad
    · rw [if_neg hx]
      by_cases hy : x = "zip"
      · rw [if_pos hy]
        subst hy
        split
        · rename_i hc
          simp only [Bool.and_eq_true, Bool.not_eq_true'] at hc
          obtain ⟨hg, ⟨s1, s2⟩, ht⟩ := hc
          cases tg with
          | Tuple _ _ _ => exact i_zip (glob_of C hg).1 hzi (c_cons (hf _) (c_cons (hf _) c_nil (star_one s2)) (star_one s1)) (star_one s1) (star_plain (by simp [s2])).1
          | _ => cases ht
        · exact pi_bad
      · rw [if_neg hy]
        exact i_value (hf _)
  · split
    · exact pi_bad
    · exact i_value (hf _)
theorem dIsi_ok (C : Cond X Γ cl E N sc fb k) {f : Expr → SE} (hf : ∀ e, PE X e (lE X.K cl E (f e))) {p pos : Pos} {es : List Expr} (hg : Gl X "isinstance") : PE X (.Call (.Name "isinstance" p) es [] pos) (lE X.K cl E (dIsi sc f es)) := by
  have hi : X.mg "isinstance" = none := C.free _ (List.mem_of_getElem? (i := 12) rfl)
  unfold dIsi
  split
  · rename_i a x q
    split
    · rename_i hc
      rw [Bool.and_eq_true, Bool.not_eq_true'] at hc
      obtain ⟨g1, g2⟩ := glob_of C hc.1
      split
      · rename_i t ht
        have key : bootBuiltins x = some (.type t.name) ∧ t ≠ .non ∧ X.mg x = none ∧ x ≠ "__name__" := by
          unfold tyOf at ht
          by_cases h : x = "int"
          · rw [if_pos h] at ht; subst h; cases ht; exact ⟨PyProof.Rows.boot_int, by decide, C.free _ (List.mem_of_getElem? (i := 2) rfl), by decide +kernel⟩
          rw [if_neg h] at ht; clear h
          by_cases h : x = "bool"
          · rw [if_pos h] at ht; subst h; cases ht; exact ⟨by decide +kernel, by decide, C.free _ (List.mem_of_getElem? (i := 18) rfl), by decide +kernel⟩
          rw [if_neg h] at ht; clear h
          by_cases h : x = "tuple"
          · rw [if_pos h] at ht; subst h; cases ht; exact ⟨PyProof.Rows.boot_tuple, by decide, C.free _ (List.mem_of_getElem? (i := 9) rfl), by decide +kernel⟩
          rw [if_neg h] at ht; clear h
          by_cases h : x = "list"
          · rw [if_pos h] at ht; subst h; cases ht; exact ⟨PyProof.Rows.boot_list, by decide, C.free _ (List.mem_of_getElem? (i := 8) rfl), by decide +kernel⟩
          rw [if_neg h] at ht; clear h
          by_cases h : x = "str"
          · rw [if_pos h] at ht; subst h; cases ht; exact ⟨by decide +kernel, by decide, C.free _ (List.mem_of_getElem? (i := 19) rfl), by decide +kernel⟩
          rw [if_neg h] at ht; cases ht
        obtain ⟨k1, k2, k3, k4⟩ := key
        exact c_isi k1 k2 k3 g1 k4 g2 hg hi (hf _) (star_one hc.2)
      · exact pe_bad
    · exact pe_bad
  · exact pe_bad
theorem blt_ok (C : Cond X Γ cl E N sc fb k) {x : Str} {p pos : Pos} {e : Expr} {es : List Expr} {mt : Bool} {bl : Blt} {as : SA} (h : bltOf x = some bl) (hg : Gl X x) (ha : PA X (e :: es) (lA X.K cl E as)) (hs : (e :: es).any isStar = false) :
    PE X (.Call (.Name x p) (e :: es) [] pos) (lE X.K cl E (mCall (bltV mt bl) as)) := by
  rw [List.any_cons, Bool.or_eq_false_iff] at hs
  have s1 := star_one (env := X.env) (es := es) hs.1
  have s2 := (star_plain (env := X.env) (pos := pos) hs.2).1
  have fr := fun y hy => C.free y hy
  have cm := C.calm
  unfold bltOf at h
  by_cases hx : x = "len"
  · rw [if_pos hx] at h; subst hx; cases h
    exact c_callB (pe_callB cb_len hg (fr _ (List.mem_of_getElem? (i := 0) rfl)) PySem.boot_len ha (by decide +kernel) (by decide +kernel) s1 s2)
  rw [if_neg hx] at h; clear hx
  by_cases hx : x = "abs"
  · rw [if_pos hx] at h; subst hx; cases h
    exact c_callB (pe_callB cb_abs hg (fr _ (List.mem_of_getElem? (i := 1) rfl)) PyProof.Rows.boot_abs ha (by decide +kernel) (by decide +kernel) s1 s2)
  rw [if_neg hx] at h; clear hx
  by_cases hx : x = "int"
  · rw [if_pos hx] at h; subst hx; cases h
    exact c_callB (pe_callTy cb_int hg (fr _ (List.mem_of_getElem? (i := 2) rfl)) PyProof.Rows.boot_int ha (by decide +kernel) (by decide +kernel) s1 s2)
  rw [if_neg hx] at h; clear hx
  by_cases hx : x = "sum"
  · rw [if_pos hx] at h; subst hx; cases h
    exact c_callB (pe_callB (cb_sum2 cm) hg (fr _ (List.mem_of_getElem? (i := 3) rfl)) PyProof.Rows.boot_sum ha (by decide +kernel) (by decide +kernel) s1 s2)
  rw [if_neg hx] at h; clear hx
  by_cases hx : x = "max"
  · rw [if_pos hx] at h; subst hx; cases h
    exact c_callB (pe_callB (cb_max2 cm) hg (fr _ (List.mem_of_getElem? (i := 4) rfl)) PyProof.Rows.boot_max ha (by decide +kernel) (by decide +kernel) s1 s2)
  rw [if_neg hx] at h; clear hx
  by_cases hx : x = "min"
  · rw [if_pos hx] at h; subst hx; cases h
    exact c_callB (pe_callB (cb_min2 cm) hg (fr _ (List.mem_of_getElem? (i := 5) rfl)) PyProof.Rows.boot_min ha (by decide +kernel) (by decide +kernel) s1 s2)
  rw [if_neg hx] at h; clear hx
  by_cases hx : x = "any"
  · rw [if_pos hx] at h; subst hx; cases h
    exact c_callB (pe_callB (cb_anyAll (all := false) cm) hg (fr _ (List.mem_of_getElem? (i := 6) rfl)) PyProof.Rows.boot_any ha (by decide +kernel) (by decide +kernel) s1 s2)
  rw [if_neg hx] at h; clear hx
  by_cases hx : x = "all"
  · rw [if_pos hx] at h; subst hx; cases h
    exact c_callB (pe_callB (cb_anyAll (all := true) cm) hg (fr _ (List.mem_of_getElem? (i := 7) rfl)) PyProof.Rows.boot_all ha (by decide +kernel) (by decide +kernel) s1 s2)
  rw [if_neg hx] at h; clear hx
  by_cases hx : x = "list"
  · rw [if_pos hx] at h; subst hx; cases h
    exact c_callB (pe_callTy cb_list hg (fr _ (List.mem_of_getElem? (i := 8) rfl)) PyProof.Rows.boot_list ha (by decide +kernel) (by decide +kernel) s1 s2)
  rw [if_neg hx] at h; clear hx
  by_cases hx : x = "tuple"
  · rw [if_pos hx] at h; subst hx; cases h
    exact c_callB (pe_callTy cb_tuple hg (fr _ (List.mem_of_getElem? (i := 9) rfl)) PyProof.Rows.boot_tuple ha (by decide +kernel) (by decide +kernel) s1 s2)
  rw [if_neg hx] at h; clear hx
  by_cases hx : x = "sorted"
  · rw [if_pos hx] at h; subst hx; cases h
    exact c_callB (pe_callB cb_sorted hg (fr _ (List.mem_of_getElem? (i := 10) rfl)) PyProof.Rows.boot_sorted ha (by decide +kernel) (by decide +kernel) s1 s2)
  rw [if_neg hx] at h; clear hx
  by_cases hx : x = "repr"
  · rw [if_pos hx] at h; subst hx; cases h
    exact c_callB (pe_callB (cb_repr C.u C.gd) hg (fr _ (List.mem_of_getElem? (i := 17) rfl)) PyProof.Rows.boot_repr ha (by decide +kernel) (by decide +kernel) s1 s2)
  rw [if_neg hx] at h; cases h
theorem dSet_ok (C : Cond X Γ cl E N sc fb k) {f : Expr → SE} (hf : ∀ e, PE X e (lE X.K cl E (f e))) {mt : Bool} {x : Str} {a : Expr} {es : List Expr} {p pos : Pos} (h : setArg es = some a) : PE X (.Call (.Name x p) es [] pos) (lE X.K cl E (dSet sc mt f x a)) := by
  unfold setArg at h
  split at h
  · rename_i y p2 b pos2
    split at h
    · rename_i hy
      subst hy
      cases h
      unfold dSet
      split
      · rename_i hc
        simp only [Bool.and_eq_true, Bool.not_eq_true'] at hc
        obtain ⟨g1, g2, g3⟩ := hc
        split
        · rename_i hx
          subst hx
          exact c_sortSet C.calm (glob_of C g1).1 (C.free _ (List.mem_of_getElem? (i := 10) rfl)) (glob_of C g2).1 (C.free _ (List.mem_of_getElem? (i := 16) rfl)) (hf _) (star_one g3)
        · exact pe_bad
      · exact pe_bad
    · cases h
  · cases h
theorem dRg_ok (C : Cond X Γ cl E N sc fb k) {f : Expr → SE} (hf : ∀ e, PE X e (lE X.K cl E (f e))) {mt : Bool} {x : Str} {a : Expr} {es : List Expr} {p pos : Pos} (h : rgArg es = some a) : PE X (.Call (.Name x p) es [] pos) (lE X.K cl E (dRg sc mt f x a)) := by
  unfold rgArg at h
  split at h
  · rename_i y p2 b pos2
    split at h
    · rename_i hy
      subst hy
      cases h
      unfold dRg
      split
      · rename_i hc
        simp only [Bool.and_eq_true, Bool.not_eq_true'] at hc
        obtain ⟨g1, g2, g3⟩ := hc
        have G1 := (glob_of C g1).1
        have G2 := (glob_of C g2).1
        have r0 : X.mg "range" = none := C.free _ (List.mem_of_getElem? (i := 11) rfl)
        split
        · rename_i hx
          subst hx
          exact c_rg1 (tup := false) C.calm G2 r0 G1 (C.free _ (List.mem_of_getElem? (i := 8) rfl)) (hf _) (star_one g3)
        · split
          · rename_i hx
            subst hx
            exact c_rg1 (tup := true) C.calm G2 r0 G1 (C.free _ (List.mem_of_getElem? (i := 9) rfl)) (hf _) (star_one g3)
          · exact pe_bad
      · exact pe_bad
    · cases h
  · cases h
end
end Mir
end

section
set_option Elab.async false
set_option linter.all false
set_option maxRecDepth 100000
set_option maxHeartbeats 4000000
/-! Mir9: methods; all expressions. -/
namespace Mir
open PySem PySem.Spec L2
section
variable {X : Cx} {Γ : Gx} {cl : Nat → Addr} {E : XK} {N : List Str} {sc : Scope} {fb : Str → Bool} {k : Nat}
def wM (K : PySem.W.Frag) (cl : Nat → Addr) (E : XK) (f : D → List D → Store → Out D) : V → List V → Hp → VK → Prop := fun x vs H Q => ∃ ρ S c ds, RelS K ρ S H ∧ RD K ρ H c x ∧ RDs K ρ H ds vs ∧ OKo K cl E ρ H (RD K) Q (f c ds S)
theorem MtR.siz {id : String} {r r' : V → List V → Hp → VK → Prop} (h : MtR X id r) (i : ∀ x vs H Q, Siz H → r' x vs H Q → r x vs H fun v H' => Siz H' → Q v H') : MtR X id r' :=
  fun pins s σ H x xs v us Q I rx rs q => thn (h pins s σ H x xs v us _ I rx rs (i x xs H Q (siz_of I.hok) q)) fun v s' ⟨x, H', I', r, q'⟩ => ⟨x, H', I', r, q' (siz_of I'.hok)⟩
theorem mr_append : MtR X "list.append" (wM X.K cl E vAppend) := by
  have hsl := sizeLine_eq
  refine MtR.siz mt_append fun x vs H Q z h => ?_
  obtain ⟨ρ, S, c, ds, rs, rc, rd, h⟩ := h
  unfold vAppend at h
  split at h
  · rename_i n d
    · split at h
      · rename_i xs hS
        split at h
        · rename_i hl
          have hl := Nat.le_of_ble_eq_true hl
          unfold RD at rc
          obtain ⟨a, rfl, hn⟩ := rc
          obtain ⟨o, e, ws, rfl, q⟩ := rs.ob n a _ hn hS
          obtain ⟨v, rfl, rv⟩ := rd.one
          have l := q.length
          exact ⟨a, ws, v, rfl, rfl, e, by omega, fun z' => h ρ _ _ (grow_set (List.mem_of_getElem? hn)) (rs.set hn ⟨_, rfl, q.append (RDs.cons rv RDs.nil)⟩) RD.non z'⟩
        · exact h.elim
      · exact h.elim
  · exact h.elim
theorem RDs.dropLast {K : PySem.W.Frag} {ρ : Rho} {H : Hp} {ds : List D} {vs : List V} (h : RDs K ρ H ds vs) : RDs K ρ H ds.dropLast vs.dropLast := by
  rw [List.dropLast_eq_take, List.dropLast_eq_take, ← h.length]
  exact h.take _
theorem mr_pop : MtR X "list.pop" (wM X.K cl E vPop) := by
  refine MtR.siz mt_pop fun x vs H Q z h => ?_
  obtain ⟨ρ, S, c, ds, rs, rc, rd, h⟩ := h
  unfold vPop at h
  split at h
  · rename_i n
    unfold RDs at rd
    subst rd
    split at h
    · rename_i xs hS
      split at h
      · rename_i d hd
        unfold RD at rc
        obtain ⟨a, rfl, hn⟩ := rc
        obtain ⟨o, e, ws, rfl, q⟩ := rs.ob n a _ hn hS
        have l := q.length
        obtain ⟨v, hv, rv⟩ := q.get hd
        have g := grow_set (H := H) (o := .lst ws.dropLast) (List.mem_of_getElem? hn)
        exact ⟨a, ws, v, rfl, rfl, e, by rw [← l]; exact hv, fun z' => h ρ _ _ g (rs.set hn ⟨_, rfl, q.dropLast⟩) (rv.grow g) z'⟩
      · exact h.elim
    · exact h.elim
  · exact h.elim
theorem c_mtd {o : Expr} {es : List Expr} {name : Str} {apos pos : Pos} {id : String} {f : D → List D → Store → Out D} {mo : SE} {as : SA} (slot : Slot "list" name id) (hty : typeOf (.builtin id) = pure (.type "method_descriptor")) (hm : MtR X id (wM X.K cl E f))
    (ho : PE X o (lE X.K cl E mo)) (ha : PA X es (lA X.K cl E as)) (hb : isCall0 o = false) (hs : es.any isStar = false) (hl : (apos.endLine == pos.line) = true) (h20 : es.length < 20) (h0 : es = [] → as = mNil) :
    PE X (.Call (.Attribute o name apos) es [] pos) (lE X.K cl E (mMtd f mo as)) := by
  have key : ∀ (σ : L2.St) (H : Hp) (Q : VK), lE X.K cl E (mMtd f mo as) σ H Q → lE X.K cl E mo σ H fun x H1 => tyV X.K "list" x H1 ∧ lA X.K cl E as σ H1 fun xs H2 => wM X.K cl E f x xs H2 Q := by
    intro σ H Q h
    obtain ⟨ρ, env, S, rs, re, h⟩ := h
    refine lE_step rs re h fun x H1 ρ1 S1 c z1 g1 rs1 re1 rc h1 => ?_
    split at h1
    · rename_i ys hl
      obtain ⟨a, vs, rfl, hs, qs⟩ := list_at rs1 hl rc
      refine ⟨Or.inl ⟨rfl, vs, SqL.of hs⟩, lA_step rs1 re1 h1 fun xs H2 ρ2 S2 ds z2 g2 rs2 re2 rds h2 => ?_⟩
      exact ⟨ρ2, S2, c, ds, rs2, rc.grow g2, rds, h2⟩
    · exact h1.elim
  cases es with
  | nil =>
    refine PE.imp (pe_bm0 PySem.F.plainAttrs_list slot hty hm ho (base_ok hb) hl) fun σ H Q h => ?_
    obtain ⟨ρ, env, S, rs, re, h1⟩ := key σ H Q h
    refine ⟨ρ, env, S, rs, re, h1.mono fun x H1 z ⟨ty, ρ1, env1, S1, rs1, re1, q⟩ => ⟨ty, ?_⟩⟩
    rw [h0 rfl] at q
    exact q ρ1 H1 [] Grow.refl rs1 RDs.nil z
  | cons e es =>
    rw [List.any_cons, Bool.or_eq_false_iff] at hs
    have s1 := star_one (env := X.env) (es := es) hs.1
    have s2 := star_plain (env := X.env) (pos := pos) hs.2
    refine PE.imp (pe_bm PySem.F.plainAttrs_list slot hty hm ho ha (base_ok hb) ?_ hl s1 s2.1) key
    rw [s1]
    have : (backTo pos ((false, eval e X.env) :: starEach es X.env)).all (fun x => !x.1) = true := s2.2
    rw [this]
    simp only [List.length_cons] at h20
    simp [keywordEach, backToKw]
    omega
theorem mtd_ok {o : Expr} {es : List Expr} {name : Str} {apos pos : Pos} {m : Mtd} {mo : SE} {as : SA} (h : mtdOf name es.length = some m) (ho : PE X o (lE X.K cl E mo)) (ha : PA X es (lA X.K cl E as)) (hb : isCall0 o = false) (hs : es.any isStar = false)
    (hl : (apos.endLine == pos.line) = true) (h20 : es.length < 20) (h0 : es = [] → as = mNil) : PE X (.Call (.Attribute o name apos) es [] pos) (lE X.K cl E (mMtd (mtdV m) mo as)) := by
  unfold mtdOf at h
  split at h
  · rename_i hx
    obtain ⟨rfl, _⟩ := hx
    cases h
    exact c_mtd PySem.F.slot_list_append PySem.F.type_list_append mr_append ho ha hb hs hl h20 h0
  split at h
  · rename_i hx
    obtain ⟨rfl, _⟩ := hx
    cases h
    exact c_mtd PySem.F.slot_list_pop PySem.F.type_list_pop mr_pop ho ha hb hs hl h20 h0
  · cases h

/-! ### the whole -/
def PEs (Γ : Gx) (cl : Nat → Addr) (N : List Str) (k n : Nat) : Prop := ∀ (X : Cx) (E : XK) (sc : Scope) (fb : Str → Bool), Cond X Γ cl E N sc fb k → ∀ e, PE X e (lE X.K cl E (dE Γ N n sc e))
def PTs' (Γ : Gx) (cl : Nat → Addr) (N : List Str) (k n : Nat) : Prop := ∀ (X : Cx) (E : XK) (sc : Scope) (fb : Str → Bool), Cond X Γ cl E N sc fb k → ∀ e, PT X e (lT X.K cl E (dT Γ N n sc e))
theorem Cond.blk (C : Cond X Γ cl E N sc fb k) {s : Shared} {H : Hp} {scope : Scope} {cs : List (Str × Addr)} {A : Addr} {fp : List Addr} :
    Cond (X.blk s H scope (compEnvC scope cs A X.env) fp) Γ cl E0 N (relS scope sc) (fun x => scope.names.lookup x == some .cell) k where
  eN := C.eN
  nd := C.nd
  eS := by rw [← C.eS]; rfl
  calm := C.calm
  room := C.room
  gd := C.gd
  tk := takes0
  fns := C.fns
  nums := C.nums
  free := C.free
  hfb := fun x h => h
  lam := fun x np kd h => ⟨⟨(C.lam x np kd h).here.ex⟩, (C.lam x np kd h).ex⟩
theorem lamArg_ok {es : List Expr} {l : List D × Arguments × Expr × Scope} (h : lamArg es = some l) : (∃ p, l.1 = [] ∧ es = [.Lambda l.2.1 l.2.2.1 l.2.2.2 p]) ∨ ∃ i j p p', l.1 = [.int i] ∧ es = [.Constant (.int i) j p, .Lambda l.2.1 l.2.2.1 l.2.2.2 p'] := by
  unfold lamArg at h
  split at h
  · cases h; exact .inl ⟨_, rfl, rfl⟩
  · cases h; exact .inr ⟨_, _, _, _, rfl, rfl⟩
  · cases h
theorem dLam_ok (C : Cond X Γ cl E N sc fb k) {x : Str} {es : List Expr} {l : List D × Arguments × Expr × Scope} {p pos : Pos} (h : lamArg es = some l) : PE X (.Call (.Name x p) es [] pos) (lE X.K cl E (dLam Γ sc x l)) := by
  unfold dLam
  split
  · rename_i hc
    rw [Bool.and_eq_true, Bool.and_eq_true] at hc
    obtain ⟨h1, h2, h3⟩ := hc
    obtain ⟨g1, g2⟩ := glob_of C h1
    split
    · rename_i np kd hl
      split
      · rename_i hn
        obtain ⟨la, j, lc, lf, lb⟩ := C.lam x np kd hl
        have L : LamX.LamS X.env.scope l.2.2.2 := by rw [C.eS]; exact LamX.lamS_by h3
        have body : ∀ (A : Around) (out2 : List PySem.Env) (s2 : Shared) (H2 : Hp) (E : XK) (f c' : Addr), Room j (A.deeper (LamX.lamEnv X l.2.2.2 s2.heap.objs.size f c')) → A.guards = some [] →
            PE (LamX.lamCx X A out2 s2 H2 E l.2.2.2 f c') l.2.2.1 (lE X.K cl E (Γ.lb l.2.2.2 l.2.2.1)) := fun A out2 s2 H2 E f c' hr hgd =>
          lb (LamX.lamCx X A out2 s2 H2 E l.2.2.2 f c') E l.2.2.2 ⟨C.eN, C.nd, rfl, rfl, hr, hgd, takes_of rfl rfl rfl rfl, lf, C.nums, C.free, fun _ z => by cases z⟩ _
        rcases lamArg_ok h with ⟨p1, e1, rfl⟩ | ⟨i, j1, p1, p2, e1, rfl⟩
        · rw [e1] at hn ⊢
          subst hn
          exact c_lam0 la lc C.room C.gd g1 g2 L h2 body
        · rw [e1] at hn ⊢
          subst hn
          exact c_lam1 la lc C.room C.gd g1 g2 L h2 body
      · exact pe_bad
    · exact pe_bad
  · exact pe_bad
theorem dLC_ok (C : Cond X Γ cl E N sc fb k) {n : Nat} (hE : PEs Γ cl N k n) (hT : PTs' Γ cl N k n) {mt : Bool} {elt : Expr} {c : Comprehension} {scope : Scope} {pos : Pos} :
    PE X (.ListComp elt [c] scope pos) (lE X.K cl E (dLC N mt sc (dE Γ N n sc) (dE Γ N n) (dT Γ N n) elt c scope)) := by
  obtain ⟨tg, iter, ifs, asy⟩ := c
  unfold dLC
  split
  · rename_i h
    rw [Bool.and_eq_true, Bool.and_eq_true, decide_eq_true_eq] at h
    obtain ⟨h1, h2, h3⟩ := h
    cases h2
    have h3 : isSet iter = false := by simpa using h3
    have ok : BlkOk X.N X.env.scope scope (ownOf N scope) := by rw [C.eN, C.eS]; exact blkOk_by h1
    have hN : X.N.Nodup := by rw [C.eN]; exact C.nd
    have tgt := fun (s : Shared) (H : Hp) (A : Addr) (cs : List (Str × Addr)) (fp : List Addr) => dTgt_ok (C.blk (s := s) (H := H) (scope := scope) (cs := cs) (A := A) (fp := fp)) (ow := some ((ownOf N scope).map (·.2))) (fs := fun _ => mBad) (fun e => pe_bad) 3 tg
    have elm := fun (s : Shared) (H : Hp) (A : Addr) (cs : List (Str × Addr)) (fp : List Addr) => hE _ _ _ _ (C.blk (s := s) (H := H) (scope := scope) (cs := cs) (A := A) (fp := fp)) elt
    refine c_lc C.calm hN (dIter_ok C (hE X E sc fb C) iter) ok tgt (fun s H A cs fp => ?_) elm (folded_ok h3)
    show PTs _ ifs (lT _ _ _ (dIfs _ ifs))
    unfold dIfs
    split
    · refine ⟨fun pins s σ H Q I q => pts_nil.run pins s σ H Q I ?_⟩
      obtain ⟨ρ, env, S, rs, re, q⟩ := q
      exact q ρ H true Grow.refl rs rfl (siz_of I.hok)
    · exact pts_one (hT _ _ _ _ C.blk _)
    · exact ⟨fun _ _ _ _ _ _ ⟨_, _, _, _, _, h⟩ => h.elim⟩
  · exact pe_bad
theorem dIfs_ok {X : Cx} {ft : Expr → ST} {ifs : List Expr} (hf : ∀ e, PT X e (lT X.K cl E0 (ft e))) : PTs X ifs (lT X.K cl E0 (dIfs ft ifs)) := by
  unfold dIfs
  split
  · refine ⟨fun pins s σ H Q I q => pts_nil.run pins s σ H Q I ?_⟩
    obtain ⟨ρ, env, S, rs, re, q⟩ := q
    exact q ρ H true Grow.refl rs rfl (siz_of I.hok)
  · exact pts_one (hf _)
  · exact ⟨fun _ _ _ _ _ _ ⟨_, _, _, _, _, h⟩ => h.elim⟩
theorem dLC2_ok (C : Cond X Γ cl E N sc fb k) {n : Nat} (hE : PEs Γ cl N k n) (hT : PTs' Γ cl N k n) {mt : Bool} {elt : Expr} {c c1 : Comprehension} {scope : Scope} {pos : Pos} :
    PE X (.ListComp elt [c, c1] scope pos) (lE X.K cl E (dLC2 N mt sc (dE Γ N n sc) (dE Γ N n) (dT Γ N n) elt c c1 scope)) := by
  obtain ⟨tg, iter, ifs, asy⟩ := c
  obtain ⟨tg1, iter1, ifs1, asy1⟩ := c1
  unfold dLC2
  split
  · rename_i h
    simp only [Bool.and_eq_true, decide_eq_true_eq, List.all_eq_true, Bool.not_eq_true'] at h
    obtain ⟨h1, ⟨h2, h3⟩, ⟨h4, h5⟩, h6⟩ := h
    cases h2
    cases h4
    have ok : BlkOk X.N X.env.scope scope (ownOf N scope) := by rw [C.eN, C.eS]; exact blkOk_by h1
    have hN : X.N.Nodup := by rw [C.eN]; exact C.nd
    have B := fun (s : Shared) (H : Hp) (A : Addr) (cs : List (Str × Addr)) (fp : List Addr) => C.blk (s := s) (H := H) (scope := scope) (cs := cs) (A := A) (fp := fp)
    exact c_lc2 C.calm hN (dIter_ok C (hE X E sc fb C) iter) ok (fun i hi => List.contains_iff_mem.mp (h6 i hi)) (fun s H A cs fp => dTgt_ok (B s H A cs fp) (fun e => pe_bad) 3 tg) (fun s H A cs fp => dIfs_ok (hT _ _ _ _ (B s H A cs fp)))
      (fun s H A cs fp => dIter_ok (B s H A cs fp) (hE _ _ _ _ (B s H A cs fp)) iter1) (fun s H A cs fp => dTgt_ok (B s H A cs fp) (fun e => pe_bad) 3 tg1) (fun s H A cs fp => dIfs_ok (hT _ _ _ _ (B s H A cs fp))) (fun s H A cs fp => hE _ _ _ _ (B s H A cs fp) elt) (folded_ok h3) (fun env => folded_ok h5)
  · exact pe_bad
theorem dDC_ok (C : Cond X Γ cl E N sc fb k) {n : Nat} (hE : PEs Γ cl N k n) (hT : PTs' Γ cl N k n) {t : Bool} {kx vx : Expr} {c : Comprehension} {scope : Scope} {pos : Pos} :
    PE X (.DictComp kx vx [c] scope pos) (lE X.K cl E (dDC N t sc (dE Γ N n sc) (dE Γ N n) (dT Γ N n) kx vx c scope)) := by
  obtain ⟨tg, iter, ifs, asy⟩ := c
  have u := C.u
  unfold dDC
  split
  · rename_i h
    rw [Bool.and_eq_true, Bool.and_eq_true, decide_eq_true_eq] at h
    obtain ⟨h1, h2, h3⟩ := h
    cases h2
    have h3 : isSet iter = false := by simpa using h3
    have ok : BlkOk X.N X.env.scope scope (ownOf N scope) := by rw [C.eN, C.eS]; exact blkOk_by h1
    have hN : X.N.Nodup := by rw [C.eN]; exact C.nd
    have tgt := fun (s : Shared) (H : Hp) (A : Addr) (cs : List (Str × Addr)) (fp : List Addr) => dTgt_ok (C.blk (s := s) (H := H) (scope := scope) (cs := cs) (A := A) (fp := fp)) (ow := some ((ownOf N scope).map (·.2))) (fs := fun _ => mBad) (fun e => pe_bad) 3 tg
    have elm := fun e (s : Shared) (H : Hp) (A : Addr) (cs : List (Str × Addr)) (fp : List Addr) => hE _ _ _ _ (C.blk (s := s) (H := H) (scope := scope) (cs := cs) (A := A) (fp := fp)) e
    refine c_dc (by omega) C.calm hN (dIter_ok C (hE X E sc fb C) iter) ok tgt (fun s H A cs fp => ?_) (elm kx) (elm vx) (folded_ok h3)
    show PTs _ ifs (lT _ _ _ (dIfs _ ifs))
    unfold dIfs
    split
    · refine ⟨fun pins s σ H Q I q => pts_nil.run pins s σ H Q I ?_⟩
      obtain ⟨ρ, env, S, rs, re, q⟩ := q
      exact q ρ H true Grow.refl rs rfl (siz_of I.hok)
    · exact pts_one (hT _ _ _ _ C.blk _)
    · exact ⟨fun _ _ _ _ _ _ ⟨_, _, _, _, _, h⟩ => h.elim⟩
  · exact pe_bad
theorem c_notV' {a : Expr} {pos : Pos} {ma : SE} (h : PE X a (lE X.K cl E ma)) : PE X (.UnaryOp .Not a pos) (lE X.K cl E (mNotV ma)) := by
  refine PE.imp (pe_not h) fun σ H Q h => ?_
  obtain ⟨ρ, env, S, rs, re, h⟩ := h
  refine lE_step rs re h fun x H1 ρ1 S1 a z1 g1 rs1 re1 ra h1 => ?_
  split at h1
  · cases ra.ofBl
    exact ⟨_, rfl, ok_val rs1 h1 RD.bl z1⟩
  · exact h1.elim
theorem dCmp_ok (C : Cond X Γ cl E N sc fb k) {f : Expr → SE} (hf : ∀ e, PE X e (lE X.K cl E (f e))) {a : Expr} {ops : List CmpOp} {cs : List Expr} {pos : Pos} :
    PE X (.Compare a ops cs pos) (lE X.K cl E (dCmp f a ops cs)) ∧ PT X (.Compare a ops cs pos) (lT X.K cl E (mTst (dCmp f a ops cs))) := by
  have bad : PT X (.Compare a ops cs pos) (lT X.K cl E (mTst mBad)) := ⟨fun _ _ _ _ _ _ ⟨_, _, _, _, _, h⟩ => h.elim⟩
  unfold dCmp
  split
  · split
    · exact ⟨pe_bad, bad⟩
    · rename_i h
      have hm := fun op => behind_ok (op := op) (Bool.not_eq_true _ ▸ h)
      exact ⟨c_bin (pe_cmpR (cmp_ok C _) (hf _) (hf _) (hm _)), c_tst (pt_cmpR (cmp_ok C _) (hf _) (hf _) (hm _)) l_op⟩
  · split
    · exact ⟨pe_bad, bad⟩
    · rename_i h
      exact c_chain3 (cmp_ok C _) (cmp_ok C _) (cmp_ok C _) (hf _) (hf _) (hf _) (hf _) (behind_ok (Bool.not_eq_true _ ▸ h))
  · split
    · exact ⟨pe_bad, bad⟩
    · rename_i h
      rw [Bool.or_eq_true, not_or] at h
      have hm := fun op => behind_ok (op := op) (Bool.not_eq_true _ ▸ h.2)
      exact ⟨c_chain (pe_chain (cmp_ok C _) (cmp_ok C _) (hf _) (hf _) (hf _) (hm _)), c_tst (pt_chain (cmp_ok C _) (cmp_ok C _) (hf _) (hf _) (hf _) (hm _)) l_chain⟩
  · exact ⟨pe_bad, bad⟩
theorem dCall_ok (C : Cond X Γ cl E N sc fb k) {f : Expr → SE} (hf : ∀ e, PE X e (lE X.K cl E (f e))) {g : Expr} {es : List Expr} {ks : List Keyword} {pos : Pos} : PE X (.Call g es ks pos) (lE X.K cl E (dCall Γ sc f g es ks pos)) := by
  cases g with
  | Name x p =>
    unfold dCall
    dsimp only
    split
    · rename_i hx
      subst hx
      split
      · rename_i hc
        rw [Bool.and_eq_true] at hc
        cases ks with
        | cons _ _ => cases hc.1
        | nil => exact dIsi_ok C hf (glob_of C hc.2).1
      · exact pe_bad
    split
    · rename_i a ha
      split
      · rename_i hk
        cases ks with
        | cons _ _ => cases hk
        | nil => exact dSet_ok C hf ha
      · exact pe_bad
    split
    · rename_i a ha
      split
      · rename_i hk
        cases ks with
        | cons _ _ => cases hk
        | nil => exact dRg_ok C hf ha
      · exact pe_bad
    split
    · rename_i l hl
      split
      · rename_i hk
        cases ks with
        | cons _ _ => cases hk
        | nil => exact dLam_ok C hl
      · exact pe_bad
    split
    · rename_i hc
      simp only [Bool.and_eq_true, Bool.not_eq_true'] at hc
      obtain ⟨h0, h1, h2, h3⟩ := hc
      cases ks with
      | cons _ _ => cases h0
      | nil =>
        cases es with
        | nil => cases h2
        | cons e es =>
          obtain ⟨g1, g2⟩ := glob_of C h1
          have h4 := h3
          rw [List.any_cons, Bool.or_eq_false_iff] at h4
          split
          · rename_i g hg
            exact c_call (C.fns _ _ hg) C.room C.gd g1 C.tk (dArgs_ok hf _) g2 (star_one h4.1) (star_plain h4.2).1
          · split
            · rename_i hb
              exact blt_ok C hb g1 (dArgs_ok hf _) h3
            · exact pe_bad
    · exact pe_bad
  | Attribute o m apos =>
    unfold dCall
    dsimp only
    split
    · rename_i hc
      simp only [Bool.and_eq_true, Bool.not_eq_true'] at hc
      obtain ⟨h0, h1, h2, h3, h4⟩ := hc
      cases ks with
      | cons _ _ => cases h0
      | nil =>
        split
        · rename_i hm
          have h4 := Nat.le_of_ble_eq_true h4
          exact mtd_ok hm (hf _) (dArgs_ok hf _) h1 h2 h3 (by omega) fun e => by subst e; rfl
        · exact pe_bad
    · exact pe_bad
  | _ => exact pe_bad
theorem dE_ok : ∀ n, PEs Γ cl N k n ∧ PTs' Γ cl N k n
  | 0 => ⟨fun X E sc fb C e => by unfold dE; exact pe_bad, fun X E sc fb C e => by unfold dT; exact pt_bad⟩
  | n + 1 => by
    obtain ⟨hE, hT⟩ := dE_ok n
    refine ⟨fun X E sc fb C e => ?_, fun X E sc fb C e => ?_⟩
    · have fE := hE X E sc fb C
      have fT := hT X E sc fb C
      have u := C.u
      unfold dE
      cases e with
      | Name x p => exact dName_ok C
      | Constant c _ _ =>
        cases c with
        | int i => exact c_val pe_int fun _ _ => RD.int
        | bool i => exact c_val pe_bl fun _ _ => RD.bl
        | none => exact c_val pe_non fun _ _ => RD.non
        | str i => exact c_val pe_str fun _ _ => RD.str
        | _ => exact pe_bad
      | BinOp l op r pos =>
        dsimp only
        split
        · rename_i h
          exact c_bin (pe_op (bin_ok _ h) (fE _) (fE _))
        · exact pe_bad
      | UnaryOp op a pos =>
        cases op with
        | USub => exact c_un (pe_un ur_neg (fE _))
        | Not => exact c_notV' (fE _)
        | _ => exact pe_bad
      | BoolOp op es pos =>
        cases op with
        | And => exact dAndV_ok fE _
        | Or => exact dOrV_ok fE _
      | IfExp t a c pos => exact c_if (fT _) (fE _) (fE _)
      | Compare a ops cs pos => exact (dCmp_ok C fE).1
      | Tuple es _ _ => exact c_tup (dArgs_ok fE _)
      | List es pos => exact c_lst (dArgs_ok fE _)
      | Dict ks vs pos =>
        dsimp only
        split
        · exact c_dic
        · exact c_disp1 (fE _) (fE _)
        · exact pe_bad
      | Subscript a i pos =>
        cases i with
        | Slice lo hi st p2 =>
          cases st with
          | some s =>
            dsimp only
            split
            · split
              · rename_i hi
                subst hi
                exact c_back (fE _)
              · exact pe_bad
            · exact pe_bad
          | none =>
            refine c_sl (fE _) ?_ ?_
            · cases lo with
              | none => exact po_n
              | some e => exact po_s (fE e)
            · cases hi with
              | none => exact po_n
              | some e => exact po_s (fE e)
        | _ => exact c_bin (pe_ix (or_ix (by omega)) (fE _) (fE _) fun o i => slice_ok rfl o i)
      | Call f es ks pos => exact dCall_ok C fE
      | DictComp kx vx gs scope pos =>
        dsimp only
        split
        · exact dDC_ok C hE hT
        · exact pe_bad
      | ListComp elt gs scope pos =>
        dsimp only
        split
        · exact dLC_ok C hE hT
        · exact dLC2_ok C hE hT
        · exact pe_bad
      | _ => exact pe_bad
    · have fE := hE X E sc fb C
      have fT := hT X E sc fb C
      unfold dT
      cases e with
      | UnaryOp op a pos =>
        cases op with
        | Not => exact c_notT (fT _)
        | _ => exact c_truth (fE _) (truth_ok rfl)
      | BoolOp op es pos =>
        cases op with
        | And => exact (dAnd_ok fT _).pt
        | Or => exact (dOr_ok fT _).pt
      | Compare a ops cs pos => exact (dCmp_ok C fE).2
      | IfExp _ _ _ _ => exact pt_bad
      | _ => exact c_truth (fE _) (truth_ok rfl)
end
end Mir
end

section
set_option Elab.async false
set_option linter.all false
set_option maxRecDepth 100000
set_option maxHeartbeats 4000000
/-! Mir10: statements as functions of the slots and the store. -/
namespace Mir
open PySem PySem.Spec L2

inductive Fl where
  | nx (env : Env) (S : Store) | rt (d : D) (S : Store) | bk (env : Env) (S : Store) | ct (env : Env) (S : Store) | ex (c : Nat) (S : Store) | bad
abbrev SS := Env → Store → Fl
def FOK (K : PySem.W.Frag) (cl : Nat → Addr) (E : XK) (ρ : Rho) (H : Hp) (D : Ends) : Fl → Prop
  | .nx env S' => ∀ ρ' H' σ', Grow ρ H ρ' H' → RelS K ρ' S' H' → RelE K ρ' H' env σ' → Siz H' → D.nx σ' H'
  | .bk env S' => ∀ ρ' H' σ', Grow ρ H ρ' H' → RelS K ρ' S' H' → RelE K ρ' H' env σ' → Siz H' → D.bk σ' H'
  | .ct env S' => ∀ ρ' H' σ', Grow ρ H ρ' H' → RelS K ρ' S' H' → RelE K ρ' H' env σ' → Siz H' → D.ct σ' H'
  | .rt d S' => ∀ ρ' H' v, Grow ρ H ρ' H' → RelS K ρ' S' H' → RD K ρ' H' d v → Siz H' → D.rt v H'
  | .ex c S' => ∀ ρ' H', Grow ρ H ρ' H' → RelS K ρ' S' H' → E (.ref (cl c)) none H'
  | .bad => False
def Out.fl {α : Type} (o : Out α) (f : α → Store → Fl) : Fl :=
  match o with
  | .ok a S => f a S
  | .ex c S => .ex c S
  | .bad => .bad
def sSeq (a c : SS) : SS := fun env S => match a env S with
  | .nx e S1 => c e S1
  | r => r
def sNil : SS := fun env S => .nx env S
def sBad : SS := fun _ _ => .bad
def sAsg (m : SE) (g : SG) : SS := fun env S => (m env S).fl fun d S1 => (g d env S1).fl fun e S2 => .nx e S2
def sPar (is : List Nat) (as : SA) : SS := fun env S => (as env S).fl fun ds S1 => match is, ds with
  | [i, j], [d, e] => .nx ((env.set i (some d)).set j (some e)) S1
  | [i, j, l], [d, e, f] => .nx (((env.set i (some d)).set j (some e)).set l (some f)) S1
  | _, _ => .bad
def sAug (i : Nat) (f : V2) (m : SE) : SS := fun env S => match env[i]? with
  | some (some x) => (m env S).fl fun y S1 => (f x y S1).fl fun z S2 => .nx (env.set i (some z)) S2
  | _ => .bad
def sAugS (o k : SE) (f : V2) (m : SE) : SS := fun env S => (o env S).fl fun c S1 => (k env S1).fl fun i S2 => (vIx c i S2).fl fun x S3 => (m env S3).fl fun y S4 => (f x y S4).fl fun z S5 => (vSet c i z S5).fl fun _ S6 => .nx env S6
def sRet (m : SE) : SS := fun env S => (m env S).fl fun d S1 => .rt d S1
def sExpr (m : SE) : SS := fun env S => (m env S).fl fun _ S1 => .nx env S1
def sIf (t : ST) (a c : SS) : SS := fun env S => (t env S).fl fun k S1 => if k then a env S1 else c env S1
def sRaise (c : Nat) : SS := fun _ S => .ex c S
def whileL (t : ST) (body : SS) : Nat → Env → Store → Fl
  | 0, _, _ => .bad
  | n + 1, env, S => match t env S with
    | .ok true S1 => match body env S1 with
      | .nx e S2 => whileL t body n e S2
      | .ct e S2 => whileL t body n e S2
      | .bk e S2 => .nx e S2
      | r => r
    | .ok false S1 => .nx env S1
    | .ex c S1 => .ex c S1
    | .bad => .bad
def forL (get : Nat → Store → Option D) (fin : Store → Bool) (body : D → SS) : Nat → Nat → Env → Store → Fl
  | 0, _, env, S => if fin S then .nx env S else .bad
  | k + 1, i, env, S => match get i S with
    | some d => match body d env S with
      | .nx e S1 => forL get fin body k (i + 1) e S1
      | .ct e S1 => forL get fin body k (i + 1) e S1
      | .bk e S1 => .nx e S1
      | r => r
    | none => .bad
def sFor (src : Env → Store → Out Src) (g : SG) (body : SS) : SS := fun env S => (src env S).fl fun s S1 => forL s.get s.fin (fun d env S => (g d env S).fl fun e S2 => body e S2) s.len 0 env S1

def lS (K : PySem.W.Frag) (cl : Nat → Addr) (E : XK) (m : SS) : TS := fun D σ H => ∃ ρ env S, RelS K ρ S H ∧ RelE K ρ H env σ ∧ FOK K cl E ρ H D (m env S)
section
variable {X : Cx} {K : PySem.W.Frag} {cl : Nat → Addr} {E : XK} {ρ ρ' : Rho} {H H' : Hp} {S : Store} {σ : L2.St} {D D' : Ends} {st : Stmt} {sts : List Stmt}
theorem FOK.grow {f : Fl} (g : Grow ρ H ρ' H') (h : FOK K cl E ρ H D f) : FOK K cl E ρ' H' D f := by
  cases f with
  | nx e S => exact fun ρ1 H1 s g' => h ρ1 H1 s (g.trans g')
  | bk e S => exact fun ρ1 H1 s g' => h ρ1 H1 s (g.trans g')
  | ct e S => exact fun ρ1 H1 s g' => h ρ1 H1 s (g.trans g')
  | rt e S => exact fun ρ1 H1 s g' => h ρ1 H1 s (g.trans g')
  | ex c S => exact fun ρ1 H1 g' => h ρ1 H1 (g.trans g')
  | bad => exact h
theorem FOK.mono {f : Fl} (h : FOK K cl E ρ H D f) (h1 : ∀ σ H, Siz H → D.nx σ H → D'.nx σ H) (h2 : ∀ v H, Siz H → D.rt v H → D'.rt v H) (h3 : ∀ σ H, Siz H → D.bk σ H → D'.bk σ H) (h4 : ∀ σ H, Siz H → D.ct σ H → D'.ct σ H) : FOK K cl E ρ H D' f := by
  cases f with
  | nx e S => exact fun ρ1 H1 s g r e z => h1 _ _ z (h ρ1 H1 s g r e z)
  | bk e S => exact fun ρ1 H1 s g r e z => h3 _ _ z (h ρ1 H1 s g r e z)
  | ct e S => exact fun ρ1 H1 s g r e z => h4 _ _ z (h ρ1 H1 s g r e z)
  | rt e S => exact fun ρ1 H1 s g r e z => h2 _ _ z (h ρ1 H1 s g r e z)
  | ex c S => exact h
  | bad => exact h
theorem OKo.fl {α β : Type} {R : Rho → Hp → α → β → Prop} {o : Out α} {f : α → Store → Fl} (h : FOK K cl E ρ H D (o.fl f)) :
    OKo K cl E ρ H R (fun v H1 => ∃ ρ1 S1 a, Grow ρ H ρ1 H1 ∧ RelS K ρ1 S1 H1 ∧ R ρ1 H1 a v ∧ FOK K cl E ρ1 H1 D (f a S1)) o := by
  cases o with
  | ok a S => exact fun ρ' H' v g rs r _ => ⟨ρ', S, a, g, rs, r, FOK.grow g h⟩
  | ex c S => exact h
  | bad => exact h
/-- an end known with the sizes -/
abbrev eSiz (D : Ends) : Ends := { nx := fun σ H => Siz H → D.nx σ H, rt := fun v H => Siz H → D.rt v H, bk := fun σ H => Siz H → D.bk σ H, ct := fun σ H => Siz H → D.ct σ H }
theorem SP.unsiz {pins : List (Addr × Obj)} {f : Flow} {s : Shared} (h : SP X pins (eSiz D) f s) : SP X pins D f s := by
  cases f with
  | next => obtain ⟨σ, H, I, q⟩ := h; exact ⟨σ, H, I, q (siz_of I.hok)⟩
  | brk => obtain ⟨σ, H, I, q⟩ := h; exact ⟨σ, H, I, q (siz_of I.hok)⟩
  | cont => obtain ⟨σ, H, I, q⟩ := h; exact ⟨σ, H, I, q (siz_of I.hok)⟩
  | ret u => obtain ⟨v, σ, H, I, r, q⟩ := h; exact ⟨v, σ, H, I, r, q (siz_of I.hok)⟩
theorem PS.via {t t' : TS} (h : PS X st t) (i : ∀ D σ H, Siz H → t' D σ H → t (eSiz D) σ H) : PS X st t' :=
  ⟨fun pins s σ H D I q => thn (h.run pins s σ H (eSiz D) I (i D σ H (siz_of I.hok) q)) fun _ _ z => SP.unsiz z⟩
theorem PSs.via {t t' : TS} (h : PSs X sts t) (i : ∀ D σ H, Siz H → t' D σ H → t (eSiz D) σ H) : PSs X sts t' :=
  ⟨fun pins s σ H D I q => thn (h.run pins s σ H (eSiz D) I (i D σ H (siz_of I.hok) q)) fun _ _ z => SP.unsiz z⟩
theorem FOK.siz {f : Fl} (h : FOK K cl E ρ H D f) : FOK K cl E ρ H (eSiz D) f := h.mono (fun _ _ _ q _ => q) (fun _ _ _ q _ => q) (fun _ _ _ q _ => q) (fun _ _ _ q _ => q)
/-- steps of a reading -/
theorem lE_fl {ma : SE} {f : Mir.D → Store → Fl} {env : Env} (rs : RelS K ρ S H) (re : RelE K ρ H env σ) (h : FOK K cl E ρ H D ((ma env S).fl f)) {P : V → Hp → Prop}
    (k : ∀ x H1 ρ1 S1 a, Siz H1 → Grow ρ H ρ1 H1 → RelS K ρ1 S1 H1 → RelE K ρ1 H1 env σ → RD K ρ1 H1 a x → FOK K cl E ρ1 H1 D (f a S1) → P x H1) : lE K cl E ma σ H P :=
  ⟨ρ, env, S, rs, re, OKo.mono (OKo.fl h) fun x H1 z ⟨ρ1, S1, a, g, rs1, ra, h1⟩ => k x H1 ρ1 S1 a z g rs1 (re.grow g) ra h1⟩
theorem lA_fl {ma : SA} {f : List Mir.D → Store → Fl} {env : Env} (rs : RelS K ρ S H) (re : RelE K ρ H env σ) (h : FOK K cl E ρ H D ((ma env S).fl f)) {P : List V → Hp → Prop}
    (k : ∀ x H1 ρ1 S1 a, Siz H1 → Grow ρ H ρ1 H1 → RelS K ρ1 S1 H1 → RelE K ρ1 H1 env σ → RDs K ρ1 H1 a x → FOK K cl E ρ1 H1 D (f a S1) → P x H1) : lA K cl E ma σ H P :=
  ⟨ρ, env, S, rs, re, OKo.mono (OKo.fl h) fun x H1 z ⟨ρ1, S1, a, g, rs1, ra, h1⟩ => k x H1 ρ1 S1 a z g rs1 (re.grow g) ra h1⟩
theorem lT_fl {ma : ST} {f : Bool → Store → Fl} {env : Env} (rs : RelS K ρ S H) (re : RelE K ρ H env σ) (h : FOK K cl E ρ H D ((ma env S).fl f)) {P : Bool → Hp → Prop}
    (k : ∀ x H1 ρ1 S1, Siz H1 → Grow ρ H ρ1 H1 → RelS K ρ1 S1 H1 → RelE K ρ1 H1 env σ → FOK K cl E ρ1 H1 D (f x S1) → P x H1) : lT K cl E ma σ H P :=
  ⟨ρ, env, S, rs, re, OKo.mono (OKo.fl h) fun x H1 z ⟨ρ1, S1, a, g, rs1, ra, h1⟩ => by
    cases (show a = x from ra)
    exact k _ H1 ρ1 S1 z g rs1 (re.grow g) h1⟩

theorem ps_bad : PS X st (lS X.K cl E sBad) := ⟨fun _ _ _ _ _ _ ⟨_, _, _, _, _, h⟩ => h.elim⟩
theorem s_nil : PSs X [] (lS X.K cl E sNil) := PSs.via pss_nil fun D σ H z ⟨ρ, env, S, rs, re, h⟩ => fun z' => h ρ H σ Grow.refl rs re z'
theorem s_cons {m : SS} {ms : SS} (h1 : PS X st (lS X.K cl E m)) (h2 : PSs X sts (lS X.K cl E ms)) : PSs X (st :: sts) (lS X.K cl E (sSeq m ms)) := by
  refine PSs.via (pss_cons h1 h2) fun D σ H z ⟨ρ, env, S, rs, re, h⟩ => ⟨ρ, env, S, rs, re, ?_⟩
  unfold sSeq at h
  split at h
  · rename_i e S1 he
    rw [he]
    exact fun ρ1 H1 σ1 g rs1 re1 z1 => ⟨ρ1, e, S1, rs1, re1, (FOK.grow g h).siz⟩
  · rename_i r hr
    cases hm : m env S with
    | nx e S1 => exact absurd hm (hr e S1)
    | _ => rw [hm] at h; exact h.siz
theorem s_asg {tg e : Expr} {m : SE} {g : SG} {pos : Pos} (he : PE X e (lE X.K cl E m)) (hg : PG X tg (lG X.K cl E none g)) (hs : swapsWithSole [tg] e pos.line X.env = pure false) (hw : swappedStores [tg] e X.env = pure none)
    (h1 : (assignEach [tg] X.env).map (·.2) = [assign tg X.env]) : PS X (.Assign [tg] e pos) (lS X.K cl E (sAsg m g)) := by
  refine PS.via (ps_asg he hg hs hw h1) fun D σ H z ⟨ρ, env, S, rs, re, h⟩ => ?_
  refine lE_fl rs re h fun x H1 ρ1 S1 a z1 g1 rs1 re1 ra h1 => ?_
  refine ⟨ρ1, env, S1, a, rs1, re1, ra, OKo.mono (OKo.fl h1) fun σ2 H2 z2 ⟨ρ2, S2, e2, g2, rs2, re2, h2⟩ _ z' => ?_⟩
  exact h2 ρ2 H2 σ2 Grow.refl rs2 re2 z2
theorem s_expr {e : Expr} {m : SE} {pos : Pos} (he : PE X e (lE X.K cl E m)) (hs : swapsWith e none pos.line X.env = pure false) : PS X (.Expr e pos) (lS X.K cl E (sExpr m)) := by
  refine PS.via (ps_expr he hs) fun D σ H z ⟨ρ, env, S, rs, re, h⟩ => ?_
  exact lE_fl rs re h fun x H1 ρ1 S1 a z1 g1 rs1 re1 ra h1 => fun z' => h1 ρ1 H1 σ Grow.refl rs1 re1 z1
theorem s_ret {e : Expr} {m : SE} {pos : Pos} (he : PE X e (lE X.K cl E m)) : PS X (.Return (some e) pos) (lS X.K cl E (sRet m)) := by
  refine PS.via (ps_ret he) fun D σ H z ⟨ρ, env, S, rs, re, h⟩ => ?_
  exact lE_fl rs re h fun x H1 ρ1 S1 a z1 g1 rs1 re1 ra h1 => fun z' => h1 ρ1 H1 x Grow.refl rs1 ra z1
theorem s_retN {pos : Pos} : PS X (.Return none pos) (lS X.K cl E (sRet (mC .non))) :=
  PS.via ps_retN fun D σ H z ⟨ρ, env, S, rs, re, h⟩ => fun z' => h ρ H .non Grow.refl rs RD.non z'
theorem s_if {c : Expr} {a b : List Stmt} {t : ST} {ma mb : SS} {pos : Pos} (hc : PT X c (lT X.K cl E t)) (ha : PSs X a (lS X.K cl E ma)) (hb : PSs X b (lS X.K cl E mb)) : PS X (.If c a b pos) (lS X.K cl E (sIf t ma mb)) := by
  refine PS.via (ps_if hc ha hb) fun D σ H z ⟨ρ, env, S, rs, re, h⟩ => ?_
  refine lT_fl rs re h fun x H1 ρ1 S1 z1 g1 rs1 re1 h1 => ?_
  cases x with
  | true => exact ⟨ρ1, env, S1, rs1, re1, h1.siz⟩
  | false => exact ⟨ρ1, env, S1, rs1, re1, h1.siz⟩
theorem s_pass {pos : Pos} : PS X (.Pass pos) (lS X.K cl E sNil) := PS.via ps_pass fun D σ H z ⟨ρ, env, S, rs, re, h⟩ => fun z' => h ρ H σ Grow.refl rs re z'
theorem s_doc {x j pos pos'} : PS X (.Expr (.Constant (.str x) j pos) pos') (lS X.K cl E sNil) := PS.via ps_doc fun D σ H z ⟨ρ, env, S, rs, re, h⟩ => fun z' => h ρ H σ Grow.refl rs re z'
theorem s_break {pos : Pos} : PS X (.Break pos) (lS X.K cl E fun env S => .bk env S) := PS.via ps_break fun D σ H z ⟨ρ, env, S, rs, re, h⟩ => fun z' => h ρ H σ Grow.refl rs re z'
theorem s_cont {pos : Pos} : PS X (.Continue pos) (lS X.K cl E fun env S => .ct env S) := PS.via ps_continue fun D σ H z ⟨ρ, env, S, rs, re, h⟩ => fun z' => h ρ H σ Grow.refl rs re z'
theorem s_while {c : Expr} {body : List Stmt} {t : ST} {mb : SS} {pos : Pos} {n : Nat} (hp : PassesOwn (model X.prog X.w) X.A X.env X.xe) (hc : PT X c (lT X.K cl E t)) (hb : PSs X body (lS X.K cl E mb)) : PS X (.While c body [] pos) (lS X.K cl E (whileL t mb n)) := by
  refine PS.via (ps_while hp hc hb) fun D σ H z ⟨ρ, env, S, rs, re, h⟩ => ?_
  refine ⟨fun m σ H => ∃ ρ env S, RelS X.K ρ S H ∧ RelE X.K ρ H env σ ∧ Siz H ∧ FOK X.K cl E ρ H D (whileL t mb m env S), ⟨n, ρ, env, S, rs, re, z, h⟩, ?_⟩
  rintro m σ1 H1 ⟨ρ1, env1, S1, rs1, re1, z1, h1⟩
  cases m with
  | zero => exact h1.elim
  | succ m =>
    unfold whileL at h1
    refine ⟨ρ1, env1, S1, rs1, re1, ?_⟩
    cases ht : t env1 S1 with
    | bad => rw [ht] at h1; exact h1.elim
    | ex c S2 => rw [ht] at h1; exact h1
    | ok k S2 =>
      rw [ht] at h1
      intro ρ2 H2 k' g2 rs2 rk z2
      cases (show k = k' from rk)
      have re2 := re1.grow g2
      cases k with
      | false => exact fun z' => h1 ρ2 H2 σ1 g2 rs2 re2 z2
      | true =>
        refine ⟨fun σ H => ∃ ρ env S, RelS X.K ρ S H ∧ RelE X.K ρ H env σ ∧ Siz H ∧ FOK X.K cl E ρ H D (whileL t mb m env S), fun σ' H' q => ⟨m, Nat.lt_succ_self m, q⟩, ρ2, env1, S2, rs2, re2, ?_⟩
        have h1 := FOK.grow g2 h1
        dsimp only at h1
        cases hb : mb env1 S2 with
        | nx e S3 => rw [hb] at h1; exact fun ρ3 H3 σ3 g3 rs3 re3 z3 => ⟨ρ3, e, S3, rs3, re3, z3, FOK.grow g3 h1⟩
        | ct e S3 => rw [hb] at h1; exact fun ρ3 H3 σ3 g3 rs3 re3 z3 => ⟨ρ3, e, S3, rs3, re3, z3, FOK.grow g3 h1⟩
        | bk e S3 => rw [hb] at h1; exact fun ρ3 H3 σ3 g3 rs3 re3 z3 => fun z' => h1 ρ3 H3 σ3 g3 rs3 re3 z3
        | rt d S3 => rw [hb] at h1; exact fun ρ3 H3 v g3 rs3 rv z3 => fun z' => h1 ρ3 H3 v g3 rs3 rv z3
        | ex c S3 => rw [hb] at h1; exact h1
        | bad => rw [hb] at h1; exact h1
theorem s_for {tg iter : Expr} {body : List Stmt} {src : Env → Store → Out Src} {g : SG} {mb : SS} {pos : Pos} (hp : PassesOwn (model X.prog X.w) X.A X.env X.xe) (hc : X.calm = true) (hi : PI X tg iter (lI X.K cl E src)) (hg : PG X tg (lG X.K cl E none g)) (hb : PSs X body (lS X.K cl E mb))
    (hs : ∀ x, foldedSetIterable iter X.env x = pure x) : PS X (.For tg iter body [] pos) (lS X.K cl E (sFor src g mb)) := by
  refine PS.via (ps_for hp hc hi hg hb hs) fun D σ H z ⟨ρ, env, S, rs, re, h⟩ => ?_
  refine ⟨ρ, env, S, rs, re, OKo.mono (OKo.fl h) fun J H1 z1 ⟨ρ1, S1, s, g1, rs1, sv, h1⟩ => ?_⟩
  refine ⟨fun i m σ H => ∃ ρ env S, Grow ρ1 H1 ρ H ∧ RelS X.K ρ S H ∧ RelE X.K ρ H env σ ∧ Siz H ∧ m = s.len - i ∧ i ≤ s.len ∧ FOK X.K cl E ρ H D (forL s.get s.fin (fun d env S => (g d env S).fl fun e S2 => mb e S2) (s.len - i) i env S),
    ⟨s.len, ρ1, env, S1, Grow.refl, rs1, re.grow g1, z1, by simp, Nat.zero_le _, h1⟩, ?_⟩
  rintro i m σ2 H2 ⟨ρ2, env2, S2, g2, rs2, re2, z2, rfl, hi2, h2⟩
  obtain ⟨sv1, sv2⟩ := sv _ _ .refl ρ2 H2 S2 g2 rs2
  by_cases hlt : i < s.len
  · refine .inr ?_
    have hk : s.len - i = (s.len - (i + 1)) + 1 := by omega
    rw [hk] at h2
    unfold forL at h2
    cases hget : s.get i S2 with
    | none => rw [hget] at h2; exact h2.elim
    | some d =>
      rw [hget] at h2
      dsimp only at h2
      obtain ⟨go, yld⟩ := sv1 i d hlt hget
      refine ⟨go, fun σ H => ∃ ρ env S, Grow ρ1 H1 ρ H ∧ RelS X.K ρ S H ∧ RelE X.K ρ H env σ ∧ Siz H ∧ FOK X.K cl E ρ H D (forL s.get s.fin (fun d env S => (g d env S).fl fun e S2 => mb e S2) (s.len - (i + 1)) (i + 1) env S),
        fun σ' H' ⟨ρ3, e3, S3, k1, k2, k3, k4, k5⟩ => ⟨s.len - (i + 1), by omega, ρ3, e3, S3, k1, k2, k3, k4, rfl, hlt, k5⟩, fun x H3 y => ?_⟩
      obtain ⟨gy, rsy, ry⟩ := yld x H3 y
      have g3 := g2.trans gy
      refine ⟨ρ2, env2, S2, d, rsy, re2.grow gy, ry, ?_⟩
      have h2 := FOK.grow gy h2
      cases hgv : g d env2 S2 with
      | bad => rw [hgv] at h2; exact h2.elim
      | ex c S3 => rw [hgv] at h2; exact h2
      | ok e S3 =>
        rw [hgv] at h2
        dsimp only [Out.fl] at h2
        intro ρ4 H4 σ4 g4 rs4 re4 z4 w4
        refine ⟨ρ4, e, S3, rs4, re4, ?_⟩
        have g4' := g3.trans g4
        have h2 := FOK.grow g4 h2
        cases hbv : mb e S3 with
        | nx e5 S5 => rw [hbv] at h2; exact fun ρ5 H5 σ5 g5 rs5 re5 z5 => ⟨ρ5, e5, S5, g4'.trans g5, rs5, re5, z5, FOK.grow g5 h2⟩
        | ct e5 S5 => rw [hbv] at h2; exact fun ρ5 H5 σ5 g5 rs5 re5 z5 => ⟨ρ5, e5, S5, g4'.trans g5, rs5, re5, z5, FOK.grow g5 h2⟩
        | bk e5 S5 => rw [hbv] at h2; exact fun ρ5 H5 σ5 g5 rs5 re5 z5 => fun z' => h2 ρ5 H5 σ5 g5 rs5 re5 z5
        | rt d S5 => rw [hbv] at h2; exact fun ρ5 H5 v g5 rs5 rv z5 => fun z' => h2 ρ5 H5 v g5 rs5 rv z5
        | ex c S5 => rw [hbv] at h2; exact h2
        | bad => rw [hbv] at h2; exact h2
  · have hie : i = s.len := by omega
    subst hie
    refine .inl ?_
    rw [Nat.sub_self] at h2
    unfold forL at h2
    cases hf : s.fin S2 with
    | false => rw [hf] at h2; exact h2.elim
    | true =>
      rw [hf] at h2
      exact ⟨sv2 hf, fun z' => h2 ρ2 H2 σ2 Grow.refl rs2 re2 z2⟩
end
end Mir
end

section
set_option Elab.async false
set_option linter.all false
set_option maxRecDepth 100000
set_option maxHeartbeats 2000000
/-! Mir13t: the defs that call a lambda. -/
namespace Mir
open PySem PySem.Spec PyProof.Rows L2
section
variable {P : Program} {w : World} {K : PySem.W.Frag} {mg : Str → Option Value} {base : Heap} {cl : Nat → Addr} {j k : Nat} {A : Around} {outer : List PySem.Env} {s : Shared} {H : Hp} {f a : Addr} {I : Hp → Prop} {tl : XK → Hp → VK → Prop} {Ng : List Str} {q : Str} {sg : Scope} {cd : Value} {pn : List (Addr × Obj)} {xe : Value → Shared → Prop} {W : WX} {E : XK} {i : Nat} {cp : Str} {p1 p2 p3 : Pos}
abbrev cxL (P : Program) (w : World) (K : PySem.W.Frag) (mg : Str → Option Value) (base : Heap) (Ng : List Str) (q : Str) (sg : Scope) (a : Addr) (cd : Value) (A : Around) (outer : List PySem.Env) (s : Shared) (H : Hp) : Cx := cxOf C8.CX0 P w K mg base Ng q sg a cd A outer s H C8.E0
/-- f(), where the def got it -/
theorem pe_clos (C : ClosOk P w K mg base j outer s H f I tl) (hr : Room (j + 1) (cxL P w K mg base Ng q sg a cd A outer s H).A) (hgd : A.guards = some []) (tk : Takes ((cxL P w K mg base Ng q sg a cd A outer s H).tr pn xe) W)
    (hN : Ng[i]? = some cp) (hv : Vis sg cp) (hd : (cp == ("__debug__" : Str)) = false) (hcd : (cp == ("__classdict__" : Str)) = false) :
    PE ((cxL P w K mg base Ng q sg a cd A outer s H).tr pn xe) (.Call (.Name cp p1) [] [] p2) (fun σZ HZ Q => ∃ E : XK, (∀ cls d H', E cls d H' → W cls d σZ H') ∧ σZ[i]? = some (some (.ref f)) ∧ I HZ ∧ tl E HZ Q) := by
  refine ⟨fun pins sZ σZ HZ Q IZ h => ?_⟩
  obtain ⟨E, hW, hs, hi, ht⟩ := h
  refine wpAny_Call_Name_kw (thn ((pe_var (X := (cxL P w K mg base Ng q sg a cd A outer s H).tr pn xe) (pos := p1) (i := i) hN hv hd hcd).run pins sZ σZ HZ (fun v H1 => v = .ref f ∧ H1 = HZ) IZ ⟨.ref f, hs, rfl, rfl⟩) fun u s1 ⟨v, H1, I1, r1, e1, e2⟩ => ?_)
  subst e1 e2
  cases r1
  have un : Un (frs outer) [] H H1 s.heap s1.heap := I1.base
  refine PySem.W.callWith_F0 (C.there un) ?_
  refine wpAny_call (codeAny_mono (C.run _ _ s1 H1 Q E hr hgd I1.env0 un hi ht) fun r s' hq => ?_)
  cases r with
  | error e => exact tk e s' (XE.of_call I1 (fun cls d H' h => hW cls d H' h) hq)
  | ok fl =>
    cases fl with
    | ret u => exact I1.after hq
    | next => exact False.elim hq
    | brk => exact False.elim hq
    | cont => exact False.elim hq
/-- g(e), of a reading of one's own -/
theorem pe_call1 {X : Cx} {x : Str} {e : Expr} {te : TE} {g : FSem} {kr : Nat} {p pos : Pos} (D : Cal X.prog X.w X.K X.mg X.base cl kr x g) (hr : Room kr X.A) (hgd : X.A.guards = some []) (hg : Gl X x) (hx : (x == ("__debug__" : Str)) = false) (he : PE X e te) (hs : starEach [e] X.env = (false, eval e X.env) :: starEach [] X.env) :
    PE X (.Call (.Name x p) [e] [] pos) (fun σ H Q => te σ H fun v H' => spM X.K cl g [v] H' Q fun _ _ _ => False) := by
  obtain ⟨b, fd, ps, F, hm, hk, hb⟩ := D.ex
  refine ⟨fun pins s σ H Q I h => ?_⟩
  refine wpAny_Call_Name_kw (ld_glob I hg hm ?_ hx)
  have pa : PA X [e] (tCons te tNil) := pa_cons he pa_nil hs
  refine PySem.W.callWith_K (h₀ := X.base) I.ok.mod.kin hk (thn (pa.run pos pins s σ H (fun vs H' => spM X.K cl g vs H' Q fun _ _ _ => False) I h) fun us s1 ⟨vs, H1, I1, r, sp⟩ => ⟨I1.kIn, ?_⟩) hs (by rfl)
  have hl : us.length = ps.length := r.length.symm.trans (F.many _ _ _ _ sp)
  have b := hb s1 us I1.kIn (by simpa using hl)
  simp only [List.append_nil] at b
  refine wpAny_call (codeAny_mono (F.does X.A X.stack s1 H1 ⟨us, []⟩ us vs Q _ hr hgd I1.env0 b r sp) fun res s2 hq => ?_)
  cases res with
  | ok fl => cases fl with
    | ret u => exact I1.after hq
    | next => exact (show False from hq).elim
    | brk => exact (show False from hq).elim
    | cont => exact (show False from hq).elim
  | error ev =>
    obtain ⟨_, _, _, _, _, _, _, _, _, _, _, _, z⟩ := (show L2.CX X.prog X.w X.stack H1 s1 (fun _ _ _ => False) ev s2 from hq)
    exact z.elim

end

/-! ### the text's shapes -/
def asName : Expr → Option Str
  | .Name x _ => some x
  | _ => none
theorem asName_ok {e : Expr} {x : Str} (h : asName e = some x) : ∃ p, e = .Name x p := by
  cases e <;> first | (cases h; exact ⟨_, rfl⟩) | cases h
def asCall0 : Expr → Option Expr
  | .Call g [] [] _ => some g
  | _ => none
theorem asCall0_ok {e g : Expr} (h : asCall0 e = some g) : ∃ p, e = .Call g [] [] p := by
  unfold asCall0 at h
  split at h
  · cases h; exact ⟨_, rfl⟩
  · cases h
def asCall1 : Expr → Option (Expr × Expr)
  | .Call g [a] [] _ => some (g, a)
  | _ => none
theorem asCall1_ok {e : Expr} {g : Expr × Expr} (h : asCall1 e = some g) : ∃ p, e = .Call g.1 [g.2] [] p := by
  unfold asCall1 at h
  split at h
  · cases h; exact ⟨_, rfl⟩
  · cases h
def asCall2 : Expr → Option (Expr × Expr × Expr)
  | .Call g [a, b] [] _ => some (g, a, b)
  | _ => none
theorem asCall2_ok {e : Expr} {g : Expr × Expr × Expr} (h : asCall2 e = some g) : ∃ p, e = .Call g.1 [g.2.1, g.2.2] [] p := by
  unfold asCall2 at h
  split at h
  · cases h; exact ⟨_, rfl⟩
  · cases h
def asInt : Expr → Option Int
  | .Constant (.int i) _ _ => some i
  | _ => none
theorem asInt_ok {e : Expr} {i : Int} (h : asInt e = some i) : ∃ j p, e = .Constant (.int i) j p := by
  unfold asInt at h
  split at h
  · cases h; exact ⟨_, _, rfl⟩
  · cases h
def asBool : Expr → Option Bool
  | .Constant (.bool i) _ _ => some i
  | _ => none
theorem asBool_ok {e : Expr} {i : Bool} (h : asBool e = some i) : ∃ j p, e = .Constant (.bool i) j p := by
  unfold asBool at h
  split at h
  · cases h; exact ⟨_, _, rfl⟩
  · cases h
def asStr : Expr → Option Str
  | .Constant (.str i) _ _ => some i
  | _ => none
theorem asStr_ok {e : Expr} {i : Str} (h : asStr e = some i) : ∃ j p, e = .Constant (.str i) j p := by
  unfold asStr at h
  split at h
  · cases h; exact ⟨_, _, rfl⟩
  · cases h
def asTup2 : Expr → Option (Expr × Expr)
  | .Tuple [a, b] _ _ => some (a, b)
  | _ => none
theorem asTup2_ok {e : Expr} {g : Expr × Expr} (h : asTup2 e = some g) : ∃ k p, e = .Tuple [g.1, g.2] k p := by
  unfold asTup2 at h
  split at h
  · cases h; exact ⟨_, _, rfl⟩
  · cases h
def asIfE : Expr → Option (Expr × Expr × Expr)
  | .IfExp a b c _ => some (a, b, c)
  | _ => none
theorem asIfE_ok {e : Expr} {g : Expr × Expr × Expr} (h : asIfE e = some g) : ∃ p, e = .IfExp g.1 g.2.1 g.2.2 p := by
  unfold asIfE at h
  split at h
  · cases h; exact ⟨_, rfl⟩
  · cases h
def asRet1 : List Stmt → Option Expr
  | [.Return (some e) _] => some e
  | _ => none
theorem asRet1_ok {b : List Stmt} {e : Expr} (h : asRet1 b = some e) : ∃ p, b = [.Return (some e) p] := by
  unfold asRet1 at h
  split at h
  · cases h; exact ⟨_, rfl⟩
  · cases h
def asTryAs : Stmt → Option (List Stmt × Expr × Str × List Stmt)
  | .Try b [.ExceptHandler (some x) (some n) c _] [] [] _ => some (b, x, n, c)
  | _ => none
theorem asTryAs_ok {st : Stmt} {g : List Stmt × Expr × Str × List Stmt} (h : asTryAs st = some g) : ∃ p p', st = .Try g.1 [.ExceptHandler (some g.2.1) (some g.2.2.1) g.2.2.2 p] [] [] p' := by
  unfold asTryAs at h
  split at h
  · cases h; exact ⟨_, _, rfl⟩
  · cases h
def as1 {α : Type} : List α → Option α
  | [a] => some a
  | _ => none
theorem as1_ok {α : Type} {l : List α} {a : α} (h : as1 l = some a) : l = [a] := by
  unfold as1 at h
  split at h
  · cases h; rfl
  · cases h

/-! ### try: return (0, rd(f())) / except N as e: return (1, s1 if isinstance(e, O) else s2) -/
structure ToldT where
  rd : Str
  cp : Str
  ne : Str
  en : Str
  oor : Str
  s1 : Str
  s2 : Str
def toldM (body : List Stmt) : Option ToldT := do
  let (b, x, n, c) ← asTryAs (← as1 body)
  let (z, ca) ← asTup2 (← asRet1 b)
  let 0 ← asInt z | none
  let (rd, ca2) ← asCall1 ca
  let ne ← asName x
  let (o, ie) ← asTup2 (← asRet1 c)
  let 1 ← asInt o | none
  let (t, e1, e2) ← asIfE ie
  let (i, a1, a2) ← asCall2 t
  let i ← asName i
  let a1 ← asName a1
  if i = "isinstance" ∧ a1 = n then
    some ⟨← asName rd, ← asName (← asCall0 ca2), ne, n, ← asName a2, ← asStr e1, ← asStr e2⟩
  else none
theorem told_shape {body : List Stmt} {t : ToldT} (h : toldM body = some t) : ∃ i0 i1 j1 j2 k0 k1 q0 q1 q2 q3 q4 q5 q6 q7 q8 q9 r0 r1 r2 r3 r4 r5 r6 r7 r8 r9,
    body = [.Try [.Return (some (.Tuple [.Constant (.int 0) i0 q0, .Call (.Name t.rd q1) [.Call (.Name t.cp q2) [] [] q3] [] q4] k0 q5)) q6]
      [.ExceptHandler (some (.Name t.ne q7)) (some t.en) [.Return (some (.Tuple [.Constant (.int 1) i1 q8, .IfExp (.Call (.Name "isinstance" q9) [.Name t.en r0, .Name t.oor r1] [] r2) (.Constant (.str t.s1) j1 r3) (.Constant (.str t.s2) j2 r4) r5] k1 r6)) r7] r8] [] [] r9] := by
  unfold toldM at h
  simp only [Option.bind_eq_bind, Option.bind_eq_some_iff] at h
  obtain ⟨st, h1, ⟨b, x, n, c⟩, h2, rb, h3, ⟨z, ca⟩, h4, zi, h5, h⟩ := h
  have e1 := as1_ok h1
  obtain ⟨_, _, e2⟩ := asTryAs_ok h2
  obtain ⟨_, e3⟩ := asRet1_ok h3
  obtain ⟨_, _, e4⟩ := asTup2_ok h4
  obtain ⟨_, _, e5⟩ := asInt_ok h5
  dsimp only at *
  split at h
  · simp only [Option.bind_eq_bind, Option.bind_eq_some_iff] at h
    obtain ⟨⟨rd, ca2⟩, h6, ne, h7, rc, h8, ⟨o, ie⟩, h9, oi, h10, h⟩ := h
    obtain ⟨_, e6⟩ := asCall1_ok h6
    obtain ⟨_, e7⟩ := asName_ok h7
    obtain ⟨_, e8⟩ := asRet1_ok h8
    obtain ⟨_, _, e9⟩ := asTup2_ok h9
    obtain ⟨_, _, e10⟩ := asInt_ok h10
    dsimp only at *
    split at h
    · simp only [Option.bind_eq_bind, Option.bind_eq_some_iff] at h
      obtain ⟨⟨tt, x1, x2⟩, h11, ⟨i, a1, a2⟩, h12, i', h13, a1', h14, h⟩ := h
      obtain ⟨_, e11⟩ := asIfE_ok h11
      obtain ⟨_, e12⟩ := asCall2_ok h12
      obtain ⟨_, e13⟩ := asName_ok h13
      obtain ⟨_, e14⟩ := asName_ok h14
      dsimp only at *
      split at h
      · rename_i hc
        obtain ⟨rfl, rfl⟩ := hc
        simp only [Option.bind_eq_bind, Option.bind_eq_some_iff] at h
        obtain ⟨rd', h15, cx, h16, cp, h17, oo, h18, w1, h19, w2, h20, h⟩ := h
        obtain ⟨_, e15⟩ := asName_ok h15
        obtain ⟨_, e16⟩ := asCall0_ok h16
        obtain ⟨_, e17⟩ := asName_ok h17
        obtain ⟨_, e18⟩ := asName_ok h18
        obtain ⟨_, _, e19⟩ := asStr_ok h19
        obtain ⟨_, _, e20⟩ := asStr_ok h20
        cases h
        subst e17 e16 e15 e18 e19 e20 e14 e13 e12 e11 e10 e9 e8 e7 e6 e5 e4 e3 e2 e1
        exact ⟨_, _, _, _, _, _, _, _, _, _, _, _, _, _, _, _, _, _, _, _, _, _, _, _, _, _, rfl⟩
      · cases h
    · cases h
  · cases h
def toldSc (t : ToldT) (Ng : List Str) (sg : Scope) (i : Nat) : Bool :=
  decide (sg.names.lookup t.rd = some .globalImplicit) && (decide (sg.names.lookup t.ne = some .globalImplicit) && (decide (sg.names.lookup t.oor = some .globalImplicit) && (decide (sg.names.lookup ("isinstance" : Str) = some .globalImplicit) &&
  (decide (sg.names.lookup t.cp = some .local) && (decide (sg.names.lookup t.en = some .local) && (decide (Ng[0]? = some t.cp) && (decide (Ng[i]? = some t.en) && (decide (i ≠ 0) &&
  ([t.rd, t.ne, t.oor, t.cp, t.en].all fun x => !(x == ("__debug__" : Str)) && !(x == ("__classdict__" : Str)))))))))))
structure ToldOk (K : PySem.W.Frag) (mg : Str → Option Value) (cl : Nat → Addr) (t : ToldT) (word : Nat → Option Str) : Prop where
  ex : ∃ NE OO, mg t.ne = some (.ref NE) ∧ mg t.oor = some (.ref OO) ∧ mg "isinstance" = none ∧
    ∀ c x, word c = some x → ExcC K (cl c) ∧ PySem.W.exmOne K (.ref (cl c)) (.ref NE) = some true ∧ ∃ b : Bool, PySem.W.kitOne K (.ref (cl c)) (.ref OO) = some b ∧ x = if b then t.s1 else t.s2
theorem told_cal {P : Program} {w : World} {K : PySem.W.Frag} {mg : Str → Option Value} {base : Heap} {cl : Nat → Addr} {j k : Nat} {x : Str} {params : Arguments} {body : List Stmt} {sg : Scope} {a : Addr} {fd : FuncData} {Ng : List Str} {t : ToldT} {i : Nat} {rdf : FSem} {word : Nat → Option Str}
    (F : FunD K x x params body sg [] [] a fd) (hm : mg x = some (.ref a)) (hb : Binds K fd [t.cp] []) (Sg : FnScope Ng [t.cp] sg) (hsh : toldM body = some t) (hsc : toldSc t Ng sg i = true) (R : Cal P w K mg base cl k t.rd rdf) (O : ToldOk K mg cl t word) (hj : j + 1 ≤ k) :
    LamCal P w K mg base cl j (k + 1) x 0 (.told rdf word) := by
  obtain ⟨oc, od, dV, kV, doc, pm, an, cdv, ct, osl, rfl, lk, hcd, _, _⟩ := F.ex
  refine ⟨a, _, [t.cp], hm, F.kp, hb, rfl, fun A outer s H args pre us f I tl Q hr hgd e0 hbt hv hp C hI h => ?_⟩
  obtain rfl : pre = [] := List.length_eq_zero_iff.mp hp
  obtain ⟨NE, OO, g1, g2, g3, hO⟩ := O.ex
  unfold toldSc at hsc
  simp only [Bool.and_eq_true, decide_eq_true_eq, List.all_eq_true, List.mem_cons, List.not_mem_nil, or_false, forall_eq_or_imp, forall_eq, Bool.not_eq_true'] at hsc
  obtain ⟨c1, c2, c3, c4, c5, c6, c7, c8, c9, ⟨b1, b1'⟩, ⟨b2, b2'⟩, ⟨b3, b3'⟩, ⟨b4, b4'⟩, ⟨b5, b5'⟩⟩ := hsc
  obtain ⟨i0, i1, j1, j2, k0, k1, q0, q1, q2, q3, q4, q5, q6, q7, q8, q9, r0, r1, r2, r3, r4, r5, r6, r7, r8, r9, rfl⟩ := told_shape hsh
  refine LamX.run_ofS lk hcd Sg hr e0 hbt hv rfl fun hr' => ?_
  have hN : Ng.Nodup := Sg.nd
  refine ⟨_, PSs.via (t' := fun D σ H => _) (pss_one (ps_try_as (X := cxL P w K mg base Ng x sg a cdv A outer s H) (i := i) (c := .ref NE)
      (tb := fun W D σ H => ∃ E : XK, (∀ cls d H', E cls d H' → W cls d σ H') ∧ σ[0]? = some (some (.ref f)) ∧ I H ∧ tl E H fun v H' => spM K cl rdf [v] H' (fun v2 H2 => [V.int 0, v2].length ≤ sizeLine ∧ ∀ p, H2 p = none → D.rt (.ref p) (upd H2 p (.tup [.int 0, v2]))) fun _ _ _ => False)
      (ts := fun e cls d D σ H => ∃ c x, cls = .ref (cl c) ∧ d = none ∧ word c = some x ∧ (i < σ.length → σ[i]? = some (some (.ref e))) ∧ ∀ p, H p = none → D.rt (.ref p) (upd H p (.tup [.int 1, .str x])))
      rfl rfl hN c8 c6 ⟨c2, b2, .inl g1⟩ LamX.takes0 (fun W pn xe tk _ => ?_) (fun e oe cls d pn hz hf => ?_))) (fun D σ H z q => q), ?_⟩
  · refine ⟨fun pins s' σ H' D J h' => ?_⟩
    obtain ⟨E, hW, h1, h2, h3⟩ := h'
    have pc := pe_clos (P := P) (w := w) (K := K) (mg := mg) (base := base) (Ng := Ng) (q := x) (sg := sg) (a := a) (cd := cdv) (A := A) (outer := outer) (s := s) (H := H) (i := 0) (cp := t.cp) (p1 := q2) (p2 := q3) C (hr'.mono hj) hgd tk c7 (.inl c5) b4 b4'
    have pr := pe_call1 (p := q1) (pos := q4) (R : Cal ((cxL P w K mg base Ng x sg a cdv A outer s H).tr pn xe).prog _ _ _ _ cl k t.rd rdf) hr' hgd (show Gl ((cxL P w K mg base Ng x sg a cdv A outer s H).tr pn xe) t.rd from c1) b1 pc (by rfl)
    refine (pss_one (ps_ret (pos := q6) (pe_tup (x1 := k0) (pos := q5) (pa_cons (pe_int (j := i0) (pos := q0)) (pa_cons pr pa_nil (by rfl)) (by rfl))))).run pins s' σ H' D J ?_
    exact ⟨E, hW, h1, h2, h3⟩
  · refine ⟨fun pins s' σ H' D J h' => ?_⟩
    obtain ⟨c, w1, rfl, rfl, hw, hσ, h'⟩ := h'
    obtain ⟨xc, _, b, kb, rfl⟩ := hO c _ hw
    have ci := call_isE (a := e) (X := cxL P w K mg base Ng x sg a cdv A outer s H) (pn := pn) xc hz hf
    have pv := pe_var (X := (cxL P w K mg base Ng x sg a cdv A outer s H).suite e ((e, oe) :: pn)) (pos := r0) (i := i) c8 (.inl c6) b5 b5'
    have po := pe_glob (X := (cxL P w K mg base Ng x sg a cdv A outer s H).suite e ((e, oe) :: pn)) (pos := r1) (v := .ref OO) (u := .ref OO) (show Gl _ t.oor from c3) g2 rfl b3
    have pi := pe_callB (p := q9) (pos := r2) ci (show Gl _ "isinstance" from c4) g3 (by rfl) (pa_cons pv (pa_cons po pa_nil (by rfl)) (by rfl))
    refine (pss_one (ps_ret (pos := r7) (pe_tup (x1 := k1) (pos := r6) (pa_cons (pe_int (j := i1) (pos := q8)) (pa_cons (pe_ifExp (pos := r5) (pt_val pi) (pe_str (j := j1) (pos := r3)) (pe_str (j := j2) (pos := r4))) pa_nil (by rfl)) (by rfl))))).run pins s' σ H' D J ?_
    refine ⟨.ref e, hσ (by rw [J.len]; exact (List.getElem?_eq_some_iff.mp c8).1), .ref OO, .ref OO, b, rfl, fun u r => (show u = Value.ref OO from r), kb, b, rfl, ?_⟩
    cases b with
    | true => exact ⟨by rw [sizeLine_eq]; simp, h'⟩
    | false => exact ⟨by rw [sizeLine_eq]; simp, h'⟩
  · refine ⟨_, fun cls d H' z => ?_, rfl, hI, h⟩
    obtain ⟨rfl, c, x1, rfl, hw, hq⟩ := z
    refine ⟨true, (hO c x1 hw).2.1, fun _ e ne => ?_, fun z => by cases z⟩
    exact ⟨c, x1, rfl, rfl, hw, fun hl => List.getElem?_set_self (by simpa using hl), fun p np z => hq p np z⟩
end Mir
end

section
set_option Elab.async false
set_option linter.all false
set_option maxRecDepth 100000
set_option maxHeartbeats 2000000
/-! Mir13u: several clauses with names; the defs that tell the class of what was raised. -/
namespace Mir
open PySem PySem.Spec PyProof.Rows L2
/-- the clauses' wishes, where one of them takes it -/
def wAsL (K : PySem.W.Frag) (D : Ends) : List (Value × Nat × (Addr → Value → Option Addr → TS)) → WX
  | [] => fun _ _ _ _ => False
  | (c, i, ts) :: r => fun cls d σ H => ∃ b, PySem.W.exmOne K cls c = some b ∧
    (b = true → ∀ a, H a = none → ts a cls d { nx := fun τ G => D.nx (τ.set i none) G, rt := D.rt, bk := fun τ G => D.bk (τ.set i none) G, ct := fun τ G => D.ct (τ.set i none) G } (σ.set i (some (.ref a))) H) ∧
    (b = false → wAsL K D r cls d σ H)
inductive HdsAs (X : Cx) : List ExceptHandler → List (Value × Nat × (Addr → Value → Option Addr → TS)) → Prop
  | nil : HdsAs X [] []
  | cons {x n : Str} {c : Value} {i : Nat} {ts : Addr → Value → Option Addr → TS} {b0 : Stmt} {bs : List Stmt} {p p' : Pos} {hds : List ExceptHandler} {l : List (Value × Nat × (Addr → Value → Option Addr → TS))} (hc : Names X x c) (hi : X.N[i]? = some n) (hl : X.env.kindOf n = some .local)
      (hb : ∀ (a : Addr) (oe : Obj) (cls : Value) (d : Option Addr) (pn : List (Addr × Obj)), Zc cls d oe → (∃ vs, oe.data = .fields vs) → PSs (X.suite a ((a, oe) :: pn)) (b0 :: bs) (ts a cls d)) (r : HdsAs X hds l) :
      HdsAs X (.ExceptHandler (some (.Name x p)) (some n) (b0 :: bs) p' :: hds) ((c, i, ts) :: l)
theorem ps_tryL {X : Cx} {body : List Stmt} {hd0 : ExceptHandler} {hds : List ExceptHandler} {l : List (Value × Nat × (Addr → Value → Option Addr → TS))} {pos : Pos} {tb : WX → TS} (hs : X.stack = X.env :: X.outer) (hf : X.env.frame = some X.env.locals) (hN : X.N.Nodup)
    (hb : ∀ (W : WX) (pn : List (Addr × Obj)) (xe : Value → Shared → Prop), Takes (X.tr pn xe) W → PassesOwn (model X.prog X.w) X.A X.env xe → PSs (X.tr pn xe) body (tb W))
    (hh : HdsAs X (hd0 :: hds) l) : PS X (.Try body (hd0 :: hds) [] [] pos) (fun D σ H => tb (wAsL X.K D l) D σ H) := by
  refine ⟨fun pins s σ H D I want => ?_⟩
  have ok := I.ok
  have frA : X.A.frames = some (X.env :: X.outer) := by rw [ok.frames, hs]
  refine wpAny_Try_except ?_
  refine wpAny_mono ((hb (wAsL X.K D l) (X.pn ++ pins) (fun e u1 => wpAny (model X.prog X.w) X.A (noteFrame e X.env) (fun _ u2 => wpAny (model X.prog X.w) X.A (setFlight e none) (fun _ u3 =>
    wpAny (model X.prog X.w) X.A (handleBy e X.env (hd0 :: hds)) (SP X pins D) X.xe u3) X.xe u2) X.xe u1) (fun u t xx => ?_) PassesOwn.looking).run [] s σ H D (I.toTry _) want) (fun fl t got => ?_) (fun e t he => he)
  · obtain ⟨a, B, t0, pins0, τ, G, cls, d, rfl, J0, nb, up, sky, na, os, ag, want⟩ := xx
    have J : Inv X pins τ G t0 := J0.ofTry ok
    rw [hs] at sky
    show wpAny (model X.prog X.w) X.A (noteFrame (.ref a) X.env) _ _ _
    refine Sky.land Zc.steady frA hf sky fun g3 f3 w3 => ?_
    have J3 : Inv X pins τ G { t with heap := g3 } := J.landed nb f3.1 (up.trans w3) os ag
    obtain ⟨o3, v3, at3, z3, dt3⟩ := f3.there
    have nfr : a ∉ frs (X.env :: X.outer) := fun hm => by
      obtain ⟨_, o', e', no⟩ := f3.2.2.1.mem hm
      rw [at3] at e'
      cases e'
      exact no _ dt3
    have nL : a ≠ X.env.locals := fun z => nfr (List.mem_filterMap.mpr ⟨X.env, List.mem_cons_self, by rw [hf, z]⟩)
    have nF : a ∉ X.fs := fun hm => by
      obtain ⟨e, he, q⟩ := List.mem_filterMap.mp hm
      exact nfr (List.mem_filterMap.mpr ⟨e, List.mem_cons_of_mem _ he, q⟩)
    have S3 := J3.suite at3 dt3 na nL nF
    have go : ∀ {hds' : List ExceptHandler} {l' : List (Value × Nat × (Addr → Value → Option Addr → TS))}, HdsAs X hds' l' → wAsL X.K D l' cls d τ G → wpAny (model X.prog X.w) X.A (handleBy (.ref a) X.env hds') (SP X pins D) X.xe { t with heap := g3 } := by
      intro hds' l' hk
      induction hk with
      | nil => exact fun z => z.elim
      | @cons x n c i ts b0 bs p p' hds2 l2 hc hi hl hsu r ih =>
        intro want
        obtain ⟨b, hb1, yes, no⟩ := want
        refine wpAny_handleBy_cons (codeAny_handlers_test ?_) (by intro q; cases q)
        have LT : PySem.W.Looks (model X.prog X.w) g3 (typeOf (.ref a)) cls := fun _ _ _ _ k q => wpAny_typeOf_ref (k _ _ at3) (by rw [z3.1]; exact q)
        have LM := PySem.W.exm_one (M := model X.prog X.w) J3.kIn LT hb1
        have test : ∀ {Q E : Value → Shared → Prop}, Q c { t with heap := g3 } → wpAny (model X.prog X.w) (X.A.mark (some (.ref a))) (eval (.Name x p) X.env) Q E { t with heap := g3 } := fun {Q E} q => by
          obtain ⟨hg, hdbg, z | ⟨z, hv, hnn⟩⟩ := hc
          · exact ld_glob (X := X.suite a ((a, o3) :: (X.pn ++ pins))) S3 hg z q hdbg
          · exact ld_blt (X := X.suite a ((a, o3) :: (X.pn ++ pins))) S3 hg z hv q hnn hdbg
        refine test (LM.here ?_)
        cases b with
        | true =>
          refine codeAny_handlers_suite_as ?_
          refine HandSPX.lands_againZ f3 fun g4 f4 w4 => ?_
          have J4 : Inv X pins τ G { t with heap := g4 } := J.landed nb f4.1 ((up.trans w3).trans w4) os ag
          obtain ⟨o4, v4, at4, z4, dt4⟩ := f4.there
          refine store_ok (X := X.suite a ((a, o4) :: (X.pn ++ pins))) (v := .ref a) (J4.suite at4 dt4 na nL nF) hN hi (.inl hl) rfl (fun t5 S5 => ?_) (.inr hl)
          refine wpAny_mono ((hsu a o4 cls d (X.pn ++ pins) z4 ⟨_, dt4⟩).run [] t5 _ G _ S5 (yes rfl a na)) (fun fl t6 got => ?_) (fun _ _ z => False.elim z)
          have fin : ∀ {τ6 : L2.St} {G6 : Hp} {Q : Shared → Prop}, Inv (X.suite a ((a, o4) :: (X.pn ++ pins))) [] τ6 G6 t6 → (∀ t7, Inv X pins (τ6.set i none) G6 t7 → Q t7) →
              wpAny (model X.prog X.w) X.A (do bindName X.env n .none; unbindBehindTheSuite X.env n p') (fun _ t7 => Q t7) X.xe t6 := fun {_ _ _} S6 hq => gone_ok (S6.unsuite ok) hN hi hl hq
          cases fl with
          | next => obtain ⟨_, _, S6, q⟩ := got; exact fin S6 fun _ J7 => ⟨_, _, J7, q⟩
          | brk => obtain ⟨_, _, S6, q⟩ := got; exact fin S6 fun _ J7 => ⟨_, _, J7, q⟩
          | cont => obtain ⟨_, _, S6, q⟩ := got; exact fin S6 fun _ J7 => ⟨_, _, J7, q⟩
          | ret u => obtain ⟨_, _, _, S6, ru, q⟩ := got; exact fin S6 fun _ J7 => ⟨_, _, _, J7, ru, q⟩
        | false =>
          show wpAny _ X.A (handleBy (.ref a) X.env hds2) _ _ _
          exact ih (no rfl)
    exact go hh want
  · cases fl with
    | next => obtain ⟨_, _, J', q⟩ := got; exact wpAny_execs_nil ⟨_, _, J'.ofTry ok, q⟩
    | brk => obtain ⟨_, _, J', q⟩ := got; exact ⟨_, _, J'.ofTry ok, q⟩
    | cont => obtain ⟨_, _, J', q⟩ := got; exact ⟨_, _, J'.ofTry ok, q⟩
    | ret u => obtain ⟨_, _, _, J', ru, q⟩ := got; exact ⟨_, _, _, J'.ofTry ok, ru, q⟩
end Mir
end

section
set_option Elab.async false
set_option linter.all false
set_option maxRecDepth 100000
set_option maxHeartbeats 2000000
/-! Mir13v: the defs that tell which class was raised. -/
namespace Mir
open PySem PySem.Spec PyProof.Rows L2
def asTry2As : Stmt → Option (List Stmt × (Expr × Str × List Stmt) × (Expr × Str × List Stmt))
  | .Try b [.ExceptHandler (some x) (some n) c _, .ExceptHandler (some y) (some m) d _] [] [] _ => some (b, (x, n, c), (y, m, d))
  | _ => none
theorem asTry2As_ok {st : Stmt} {g : List Stmt × (Expr × Str × List Stmt) × (Expr × Str × List Stmt)} (h : asTry2As st = some g) :
    ∃ p p' p'', st = .Try g.1 [.ExceptHandler (some g.2.1.1) (some g.2.1.2.1) g.2.1.2.2 p, .ExceptHandler (some g.2.2.1) (some g.2.2.2.1) g.2.2.2.2 p'] [] [] p'' := by
  unfold asTry2As at h
  split at h
  · cases h; exact ⟨_, _, _, rfl⟩
  · cases h
def asTry2 : Stmt → Option (List Stmt × (Expr × List Stmt) × (Expr × List Stmt))
  | .Try b [.ExceptHandler (some x) none c _, .ExceptHandler (some y) none d _] [] [] _ => some (b, (x, c), (y, d))
  | _ => none
theorem asTry2_ok {st : Stmt} {g : List Stmt × (Expr × List Stmt) × (Expr × List Stmt)} (h : asTry2 st = some g) :
    ∃ p p' p'', st = .Try g.1 [.ExceptHandler (some g.2.1.1) none g.2.1.2 p, .ExceptHandler (some g.2.2.1) none g.2.2.2 p'] [] [] p'' := by
  unfold asTry2 at h
  split at h
  · cases h; exact ⟨_, _, _, rfl⟩
  · cases h
def as2 {α : Type} : List α → Option (α × α)
  | [a, b] => some (a, b)
  | _ => none
theorem as2_ok {α : Type} {l : List α} {a : α × α} (h : as2 l = some a) : l = [a.1, a.2] := by
  unfold as2 at h
  split at h
  · cases h; rfl
  · cases h
def asExpr1 : List Stmt → Option Expr
  | [.Expr e _] => some e
  | _ => none
theorem asExpr1_ok {b : List Stmt} {e : Expr} (h : asExpr1 b = some e) : ∃ p, b = [.Expr e p] := by
  unfold asExpr1 at h
  split at h
  · cases h; exact ⟨_, rfl⟩
  · cases h
def asAnd3 : Expr → Option (Expr × Expr × Expr)
  | .BoolOp .And [a, b, c] _ => some (a, b, c)
  | _ => none
theorem asAnd3_ok {e : Expr} {g : Expr × Expr × Expr} (h : asAnd3 e = some g) : ∃ p, e = .BoolOp .And [g.1, g.2.1, g.2.2] p := by
  unfold asAnd3 at h
  split at h
  · cases h; exact ⟨_, rfl⟩
  · cases h
def asEq : Expr → Option (Expr × Expr)
  | .Compare a [.Eq] [b] _ => some (a, b)
  | _ => none
theorem asEq_ok {e : Expr} {g : Expr × Expr} (h : asEq e = some g) : ∃ p, e = .Compare g.1 [.Eq] [g.2] p := by
  unfold asEq at h
  split at h
  · cases h; exact ⟨_, rfl⟩
  · cases h

/-! ### try: f() / except A: return i / except B: return j; return 0 -/
structure RaisedT where
  cp : Str
  x : Str
  y : Str
  i : Int
  j : Int
def raisedM (body : List Stmt) : Option RaisedT := do
  let (tr, rt) ← as2 body
  let (b, (x, c), (y, d)) ← asTry2 tr
  let 0 ← asInt (← asRet1 [rt]) | none
  some ⟨← asName (← asCall0 (← asExpr1 b)), ← asName x, ← asName y, ← asInt (← asRet1 c), ← asInt (← asRet1 d)⟩
theorem raised_shape {body : List Stmt} {t : RaisedT} (h : raisedM body = some t) : ∃ i0 i1 i2 q0 q1 q2 q3 q4 q5 q6 q7 q8 q9 r0 r1 r2 r3,
    body = [.Try [.Expr (.Call (.Name t.cp q0) [] [] q1) q2] [.ExceptHandler (some (.Name t.x q3)) none [.Return (some (.Constant (.int t.i) i0 q4)) q5] q6, .ExceptHandler (some (.Name t.y q7)) none [.Return (some (.Constant (.int t.j) i1 q8)) q9] r0] [] [] r1,
      .Return (some (.Constant (.int 0) i2 r2)) r3] := by
  unfold raisedM at h
  simp only [Option.bind_eq_bind, Option.bind_eq_some_iff] at h
  obtain ⟨⟨tr, rt⟩, h1, ⟨b, ⟨x, c⟩, y, d⟩, h2, z, h3, zi, h4, h⟩ := h
  have e1 := as2_ok h1
  obtain ⟨_, _, _, e2⟩ := asTry2_ok h2
  obtain ⟨_, e3⟩ := asRet1_ok h3
  obtain ⟨_, _, e4⟩ := asInt_ok h4
  dsimp only at *
  split at h
  · simp only [Option.bind_eq_bind, Option.bind_eq_some_iff] at h
    obtain ⟨eb, h5, ec, h6, cp, h7, xn, h8, yn, h9, r1, h10, i1, h11, r2, h12, i2, h13, h⟩ := h
    obtain ⟨_, e5⟩ := asExpr1_ok h5
    obtain ⟨_, e6⟩ := asCall0_ok h6
    obtain ⟨_, e7⟩ := asName_ok h7
    obtain ⟨_, e8⟩ := asName_ok h8
    obtain ⟨_, e9⟩ := asName_ok h9
    obtain ⟨_, e10⟩ := asRet1_ok h10
    obtain ⟨_, _, e11⟩ := asInt_ok h11
    obtain ⟨_, e12⟩ := asRet1_ok h12
    obtain ⟨_, _, e13⟩ := asInt_ok h13
    cases h
    cases e3
    subst e4 e11 e13 e10 e12 e7 e6 e5 e8 e9 e2 e1
    exact ⟨_, _, _, _, _, _, _, _, _, _, _, _, _, _, _, _, _, rfl⟩
  · cases h
def namesOk (sg : Scope) (gs ls : List Str) : Bool :=
  gs.all (fun x => decide (sg.names.lookup x = some .globalImplicit) && (!(x == ("__debug__" : Str)) && !(x == ("__classdict__" : Str)))) && ls.all fun x => decide (sg.names.lookup x = some .local) && (!(x == ("__debug__" : Str)) && !(x == ("__classdict__" : Str)))
theorem names_g {sg : Scope} {gs ls : List Str} (h : namesOk sg gs ls = true) {x : Str} (hx : x ∈ gs) : sg.names.lookup x = some .globalImplicit ∧ (x == ("__debug__" : Str)) = false ∧ (x == ("__classdict__" : Str)) = false := by
  unfold namesOk at h
  simp only [Bool.and_eq_true, List.all_eq_true, decide_eq_true_eq, Bool.not_eq_true'] at h
  exact h.1 x hx
theorem names_l {sg : Scope} {gs ls : List Str} (h : namesOk sg gs ls = true) {x : Str} (hx : x ∈ ls) : sg.names.lookup x = some .local ∧ (x == ("__debug__" : Str)) = false ∧ (x == ("__classdict__" : Str)) = false := by
  unfold namesOk at h
  simp only [Bool.and_eq_true, List.all_eq_true, decide_eq_true_eq, Bool.not_eq_true'] at h
  exact h.2 x hx
structure RaisedOk (K : PySem.W.Frag) (mg : Str → Option Value) (cl : Nat → Addr) (t : RaisedT) (word : Nat → Option Int) : Prop where
  ex : ∃ A B, mg t.x = some (.ref A) ∧ mg t.y = some (.ref B) ∧
    ∀ c i, word c = some i → ∃ b : Bool, PySem.W.exmOne K (.ref (cl c)) (.ref A) = some b ∧ (b = true → i = t.i) ∧ (b = false → PySem.W.exmOne K (.ref (cl c)) (.ref B) = some true ∧ i = t.j)
theorem raised_cal {P : Program} {w : World} {K : PySem.W.Frag} {mg : Str → Option Value} {base : Heap} {cl : Nat → Addr} {j k : Nat} {x : Str} {params : Arguments} {body : List Stmt} {sg : Scope} {a : Addr} {fd : FuncData} {Ng : List Str} {t : RaisedT} {word : Nat → Option Int}
    (F : FunD K x x params body sg [] [] a fd) (hm : mg x = some (.ref a)) (hb : Binds K fd [t.cp] []) (Sg : FnScope Ng [t.cp] sg) (hsh : raisedM body = some t) (hsc : namesOk sg [t.x, t.y] [t.cp] = true) (h0 : Ng[0]? = some t.cp) (O : RaisedOk K mg cl t word) (hj : j + 1 ≤ k) :
    LamCal P w K mg base cl j (k + 1) x 0 (.raised word) := by
  obtain ⟨oc, od, dV, kV, doc, pm, an, cdv, ct, osl, rfl, lk, hcd, _, _⟩ := F.ex
  refine ⟨a, _, [t.cp], hm, F.kp, hb, rfl, fun A outer s H args pre us f I tl Q hr hgd e0 hbt hv hp C hI h => ?_⟩
  obtain rfl : pre = [] := List.length_eq_zero_iff.mp hp
  obtain ⟨A1, B1, g1, g2, hO⟩ := O.ex
  obtain ⟨c1, b1, _⟩ := names_g hsc (x := t.x) (by simp)
  obtain ⟨c2, b2, _⟩ := names_g hsc (x := t.y) (by simp)
  obtain ⟨c3, b3, b3'⟩ := names_l hsc (x := t.cp) (by simp)
  obtain ⟨i0, i1, i2, q0, q1, q2, q3, q4, q5, q6, q7, q8, q9, r0, r1, r2, r3, rfl⟩ := raised_shape hsh
  refine LamX.run_ofS lk hcd Sg hr e0 hbt hv rfl fun hr' => ?_
  refine ⟨_, PSs.via (t' := fun D σ H => _) (pss_cons (ps_try_many (X := cxL P w K mg base Ng x sg a cdv A outer s H)
      (tb := fun W D σ H => ∃ E : XK, (∀ cls d H', E cls d H' → W cls d σ H') ∧ σ[0]? = some (some (.ref f)) ∧ I H ∧ tl E H fun v H' => D.nx σ H')
      (l := [(.ref A1, fun e cls d D σ H => D.rt (.int t.i) H), (.ref B1, fun e cls d D σ H => D.rt (.int t.j) H)])
      rfl rfl LamX.takes0 (fun W pn xe tk _ => ?_) (.cons ⟨c1, b1, .inl g1⟩ (fun e oe cls d pn hz hf => pss_one (ps_ret (pe_int (j := i0) (pos := q4)))) (.cons ⟨c2, b2, .inl g2⟩ (fun e oe cls d pn hz hf => pss_one (ps_ret (pe_int (j := i1) (pos := q8)))) .nil)))
      (pss_one (ps_ret (pos := r3) (pe_int (j := i2) (pos := r2))))) (fun D σ H z q => q), ?_⟩
  · refine ⟨fun pins s' σ H' D J h' => ?_⟩
    obtain ⟨E, hW, h1, h2, h3⟩ := h'
    have pc := pe_clos (P := P) (w := w) (K := K) (mg := mg) (base := base) (Ng := Ng) (q := x) (sg := sg) (a := a) (cd := cdv) (A := A) (outer := outer) (s := s) (H := H) (i := 0) (cp := t.cp) (p1 := q0) (p2 := q1) C (hr'.mono hj) hgd tk h0 (.inl c3) b3 b3'
    exact (pss_one (ps_expr (pos := q2) pc)).run pins s' σ H' D J ⟨E, hW, h1, h2, h3⟩
  · refine ⟨_, fun cls d H' z => ?_, rfl, hI, h⟩
    obtain ⟨rfl, c, i, rfl, hw, hq⟩ := z
    obtain ⟨b, e1, e2, e3⟩ := hO c i hw
    refine ⟨b, e1, fun z a ha => ?_, fun z => ?_⟩
    · rw [← e2 z]; exact hq
    · obtain ⟨y1, y2⟩ := e3 z
      exact ⟨true, y1, fun _ a ha => by rw [← y2]; exact hq, fun z => by cases z⟩

/-! ### try: f() / except A as e: return k == i and isinstance(e, N) and isinstance(e, V) / except B as e: .. j ..; return False -/
structure RaisesT where
  kd : Str
  cp : Str
  x : Str
  y : Str
  e : Str
  n : Str
  v : Str
  i : Int
  j : Int
def andM (e : Expr) : Option (Str × Int × Str × Str × Str) := do
  let (a, b, c) ← asAnd3 e
  let (k, i) ← asEq a
  let (f1, a1, a2) ← asCall2 b
  let (f2, b1, b2) ← asCall2 c
  if (← asName f1) = "isinstance" ∧ (← asName f2) = "isinstance" ∧ (← asName a1) = (← asName b1) then some (← asName k, ← asInt i, ← asName a1, ← asName a2, ← asName b2) else none
theorem and_shape {e : Expr} {t : Str × Int × Str × Str × Str} (h : andM e = some t) : ∃ i0 q0 q1 q2 q3 q4 q5 q6 q7 q8 q9 r0 r1,
    e = .BoolOp .And [.Compare (.Name t.1 q0) [.Eq] [.Constant (.int t.2.1) i0 q1] q2, .Call (.Name "isinstance" q3) [.Name t.2.2.1 q4, .Name t.2.2.2.1 q5] [] q6, .Call (.Name "isinstance" q7) [.Name t.2.2.1 q8, .Name t.2.2.2.2 q9] [] r0] r1 := by
  unfold andM at h
  simp only [Option.bind_eq_bind, Option.bind_eq_some_iff] at h
  obtain ⟨⟨a, b, c⟩, h1, ⟨k, i⟩, h2, ⟨f1, a1, a2⟩, h3, ⟨f2, b1, b2⟩, h4, n1, h5, n2, h6, n3, h7, n4, h8, h⟩ := h
  obtain ⟨_, e1⟩ := asAnd3_ok h1
  obtain ⟨_, e2⟩ := asEq_ok h2
  obtain ⟨_, e3⟩ := asCall2_ok h3
  obtain ⟨_, e4⟩ := asCall2_ok h4
  obtain ⟨_, e5⟩ := asName_ok h5
  obtain ⟨_, e6⟩ := asName_ok h6
  obtain ⟨_, e7⟩ := asName_ok h7
  obtain ⟨_, e8⟩ := asName_ok h8
  dsimp only at *
  split at h
  · rename_i hc
    obtain ⟨rfl, rfl, rfl⟩ := hc
    simp only [Option.bind_eq_bind, Option.bind_eq_some_iff] at h
    obtain ⟨k', h9, i', h10, y1, h11, y2, h12, y3, h13, h⟩ := h
    obtain ⟨_, e9⟩ := asName_ok h9
    obtain ⟨_, _, e10⟩ := asInt_ok h10
    obtain ⟨_, e11⟩ := asName_ok h11
    obtain ⟨_, e12⟩ := asName_ok h12
    obtain ⟨_, e13⟩ := asName_ok h13
    cases h
    subst e7
    cases e11
    subst e9 e10 e12 e13 e8 e6 e5 e4 e3 e2 e1
    exact ⟨_, _, _, _, _, _, _, _, _, _, _, _, _, rfl⟩
  · cases h
def raisesM (body : List Stmt) : Option RaisesT := do
  let (tr, rt) ← as2 body
  let (b, (x, n1, c), (y, n2, d)) ← asTry2As tr
  let bz ← asBool (← asRet1 [rt])
  let (k1, i, e1, u1, v1) ← andM (← asRet1 c)
  let (k2, j, e2, u2, v2) ← andM (← asRet1 d)
  if bz = false ∧ n1 = n2 ∧ k1 = k2 ∧ e1 = n1 ∧ e2 = n1 ∧ u1 = u2 ∧ v1 = v2 then
    some ⟨k1, ← asName (← asCall0 (← asExpr1 b)), ← asName x, ← asName y, n1, u1, v1, i, j⟩
  else none
theorem raises_shape {body : List Stmt} {t : RaisesT} (h : raisesM body = some t) : ∃ E1 E2 i2 q0 q1 q2 q3 q5 q6 q7 q9 r0 r1 r2 r3, andM E1 = some (t.kd, t.i, t.e, t.n, t.v) ∧ andM E2 = some (t.kd, t.j, t.e, t.n, t.v) ∧
    body = [.Try [.Expr (.Call (.Name t.cp q0) [] [] q1) q2] [.ExceptHandler (some (.Name t.x q3)) (some t.e) [.Return (some E1) q5] q6, .ExceptHandler (some (.Name t.y q7)) (some t.e) [.Return (some E2) q9] r0] [] [] r1,
      .Return (some (.Constant (.bool false) i2 r2)) r3] := by
  unfold raisesM at h
  simp only [Option.bind_eq_bind, Option.bind_eq_some_iff] at h
  obtain ⟨⟨tr, rt⟩, h1, ⟨b, ⟨x, n1, c⟩, y, n2, d⟩, h2, z, h3, bz, h4, E1, h5, ⟨k1, i, n3, u1, v1⟩, h6, E2, h7, ⟨k2, j, n4, u2, v2⟩, h8, h⟩ := h
  have e1 := as2_ok h1
  obtain ⟨_, _, _, e2⟩ := asTry2As_ok h2
  obtain ⟨_, e3⟩ := asRet1_ok h3
  obtain ⟨_, _, e4⟩ := asBool_ok h4
  obtain ⟨_, e5⟩ := asRet1_ok h5
  obtain ⟨_, e7⟩ := asRet1_ok h7
  dsimp only at *
  split at h
  · rename_i hc
    obtain ⟨rfl, rfl, rfl, rfl, rfl, rfl, rfl⟩ := hc
    simp only [Option.bind_eq_bind, Option.bind_eq_some_iff] at h
    obtain ⟨eb, h9, ec, h10, cp, h11, xn, h12, yn, h13, h⟩ := h
    obtain ⟨_, e9⟩ := asExpr1_ok h9
    obtain ⟨_, e10⟩ := asCall0_ok h10
    obtain ⟨_, e11⟩ := asName_ok h11
    obtain ⟨_, e12⟩ := asName_ok h12
    obtain ⟨_, e13⟩ := asName_ok h13
    cases h
    cases e3
    subst e4 e5 e7 e11 e10 e9 e12 e13 e2 e1
    exact ⟨_, _, _, _, _, _, _, _, _, _, _, _, _, _, _, h6, h8, rfl⟩
  · cases h
structure RaisesOk (K : PySem.W.Frag) (mg : Str → Option Value) (cl : Nat → Addr) (t : RaisesT) (word : Nat → Option Int) : Prop where
  ex : ∃ A B N V, mg t.x = some (.ref A) ∧ mg t.y = some (.ref B) ∧ mg "isinstance" = none ∧ mg t.n = some (.ref N) ∧ t.v = "ValueError" ∧ mg t.v = none ∧ V = Value.type "ValueError" ∧
    ∀ c i, word c = some i → ExcC K (cl c) ∧ PySem.W.kitOne K (.ref (cl c)) (.ref N) = some true ∧ PySem.W.kitOne K (.ref (cl c)) V = some true ∧
      ∃ b : Bool, PySem.W.exmOne K (.ref (cl c)) (.ref A) = some b ∧ (b = true → i = t.i) ∧ (b = false → PySem.W.exmOne K (.ref (cl c)) (.ref B) = some true ∧ i = t.j)
/-- what a clause tells -/
theorem raises_suite {P : Program} {w : World} {K : PySem.W.Frag} {mg : Str → Option Value} {base : Heap} {x : Str} {sg : Scope} {a : Addr} {Ng : List Str} {cdv : Value} {A : Around} {outer : List PySem.Env} {s : Shared} {H : Hp} {t : RaisesT} {E1 : Expr} {ii : Nat} {i : Int} {p5 : Pos} {e : Addr} {oe : Obj} {cls : Value} {d : Option Addr} {pn : List (Addr × Obj)} {N : Addr}
    (he : andM E1 = some (t.kd, i, t.e, t.n, t.v)) (hz : Zc cls d oe) (hf : ∃ vs, oe.data = .fields vs) (hsc : namesOk sg ["isinstance", t.x, t.y, t.n, t.v] [t.kd, t.cp, t.e] = true) (h0 : Ng[0]? = some t.kd) (hi : Ng[ii]? = some t.e)
    (g3 : mg "isinstance" = none) (g4 : mg t.n = some (.ref N)) (g5 : t.v = "ValueError") (g6 : mg t.v = none) :
    PSs ((cxL P w K mg base Ng x sg a cdv A outer s H).suite e ((e, oe) :: pn)) [.Return (some E1) p5]
      (fun D σ H' => ∃ D0 k, cls = .ref D0 ∧ d = none ∧ ExcC K D0 ∧ PySem.W.kitOne K (.ref D0) (.ref N) = some true ∧ PySem.W.kitOne K (.ref D0) (.type "ValueError") = some true ∧ σ[0]? = some (some (.int k)) ∧ (ii < σ.length → σ[ii]? = some (some (.ref e))) ∧ D.rt (.bl (decide (k = i))) H') := by
  refine ⟨fun pins s' σ H' D J h' => ?_⟩
  obtain ⟨D0, k, rfl, rfl, xc, k1, k2, s0, se, q⟩ := h'
  obtain ⟨c1, b1, _⟩ := names_g hsc (x := "isinstance") (by simp)
  obtain ⟨c2, b2, _⟩ := names_g hsc (x := t.n) (by simp)
  obtain ⟨c3, b3, _⟩ := names_g hsc (x := t.v) (by simp)
  obtain ⟨c4, b4, b4'⟩ := names_l hsc (x := t.kd) (by simp)
  obtain ⟨c5, b5, b5'⟩ := names_l hsc (x := t.e) (by simp)
  obtain ⟨i0, q0, q1, q2, q3, q4, q5, q6, q7, q8, q9, r0, r1, rfl⟩ := and_shape he
  have ci := call_isE (a := e) (X := cxL P w K mg base Ng x sg a cdv A outer s H) (pn := pn) xc hz hf
  have pk := pe_var (X := (cxL P w K mg base Ng x sg a cdv A outer s H).suite e ((e, oe) :: pn)) (pos := q0) (i := 0) h0 (.inl c4) b4 b4'
  have pv := pe_var (X := (cxL P w K mg base Ng x sg a cdv A outer s H).suite e ((e, oe) :: pn)) (pos := q4) (i := ii) hi (.inl c5) b5 b5'
  have pv2 := pe_var (X := (cxL P w K mg base Ng x sg a cdv A outer s H).suite e ((e, oe) :: pn)) (pos := q8) (i := ii) hi (.inl c5) b5 b5'
  have pn' := pe_glob (X := (cxL P w K mg base Ng x sg a cdv A outer s H).suite e ((e, oe) :: pn)) (pos := q5) (v := .ref N) (u := .ref N) (show Gl _ t.n from c2) g4 rfl b2
  have py := pe_bltn (X := (cxL P w K mg base Ng x sg a cdv A outer s H).suite e ((e, oe) :: pn)) (pos := q9) (x := t.v) (v := .ty "ValueError") (u := .type "ValueError") (show Gl _ t.v from c3) g6 (by rw [g5]; rfl) rfl (by rw [g5]; decide) b3
  have i1 := pe_callB (p := q3) (pos := q6) ci (show Gl _ "isinstance" from c1) g3 (by rfl) (pa_cons pv (pa_cons pn' pa_nil (by rfl)) (by rfl))
  have i2 := pe_callB (p := q7) (pos := r0) ci (show Gl _ "isinstance" from c1) g3 (by rfl) (pa_cons pv2 (pa_cons py pa_nil (by rfl)) (by rfl))
  have ce := pe_cmp (pos := q2) (pc_eqI pk (pe_int (i := i) (j := i0) (pos := q1)))
  refine (pss_one (ps_ret (pos := p5) (pe_and (pos := r1) ce (pe_and (pos := r1) i1 (pe_one (pos := r1) i2))))).run pins s' σ H' D J ?_
  have sv := se (by rw [J.len]; exact (List.getElem?_eq_some_iff.mp hi).1)
  refine ⟨.int k, s0, k, i, rfl, rfl, ?_⟩
  refine ⟨_, rfl, ?_⟩
  by_cases hk : k = i
  · rw [if_pos (by simpa using hk)]
    refine ⟨.ref e, sv, .ref N, .ref N, true, rfl, fun u r => (show u = Value.ref N from r), k1, true, rfl, ?_⟩
    refine ⟨.ref e, sv, .ty "ValueError", .type "ValueError", true, rfl, fun u r => (show u = Value.type "ValueError" from r), k2, ?_⟩
    rw [decide_eq_true hk] at q
    exact q
  · rw [if_neg (by simpa using hk)]
    rw [decide_eq_false hk] at q
    exact q
theorem raises_cal {P : Program} {w : World} {K : PySem.W.Frag} {mg : Str → Option Value} {base : Heap} {cl : Nat → Addr} {j k : Nat} {x : Str} {params : Arguments} {body : List Stmt} {sg : Scope} {a : Addr} {fd : FuncData} {Ng : List Str} {t : RaisesT} {ii : Nat} {word : Nat → Option Int}
    (F : FunD K x x params body sg [] [] a fd) (hm : mg x = some (.ref a)) (hb : Binds K fd [t.kd, t.cp] []) (Sg : FnScope Ng [t.kd, t.cp] sg) (hsh : raisesM body = some t) (hsc : namesOk sg ["isinstance", t.x, t.y, t.n, t.v] [t.kd, t.cp, t.e] = true) (h0 : Ng[0]? = some t.kd) (h1 : Ng[1]? = some t.cp) (hi : Ng[ii]? = some t.e) (hi2 : 2 ≤ ii)
    (O : RaisesOk K mg cl t word) (hj : j + 1 ≤ k) : LamCal P w K mg base cl j (k + 1) x 1 (.raises word) := by
  obtain ⟨oc, od, dV, kV, doc, pm, an, cdv, ct, osl, rfl, lk, hcd, _, _⟩ := F.ex
  refine ⟨a, _, [t.kd, t.cp], hm, F.kp, hb, rfl, fun A outer s H args pre us f I tl Q hr hgd e0 hbt hv hp C hI h => ?_⟩
  match pre, hp, hv, h with
  | [vk], _, hv, h =>
  obtain ⟨A1, B1, N, V, g1, g2, g3, g4, g5, g6, rfl, hO⟩ := O.ex
  obtain ⟨c1, b1, _⟩ := names_g hsc (x := t.x) (by simp)
  obtain ⟨c2, b2, _⟩ := names_g hsc (x := t.y) (by simp)
  obtain ⟨c3, b3, b3'⟩ := names_l hsc (x := t.cp) (by simp)
  obtain ⟨c4, b4, b4'⟩ := names_l hsc (x := t.e) (by simp)
  obtain ⟨E1, E2, i2, q0, q1, q2, q3, q5, q6, q7, q9, r0, r1, r2, r3, m1, m2, rfl⟩ := raises_shape hsh
  refine LamX.run_ofS lk hcd Sg hr e0 hbt hv rfl fun hr' => ?_
  have hN : Ng.Nodup := Sg.nd
  refine ⟨_, PSs.via (t' := fun D σ H => _) (pss_cons (ps_tryL (X := cxL P w K mg base Ng x sg a cdv A outer s H)
      (tb := fun W D σ H => ∃ E : XK, (∀ cls d H', E cls d H' → W cls d σ H') ∧ σ[1]? = some (some (.ref f)) ∧ I H ∧ tl E H fun v H' => D.nx σ H')
      (l := [(.ref A1, ii, _), (.ref B1, ii, _)])
      rfl rfl hN (fun W pn xe tk _ => ?_) (.cons ⟨c1, b1, .inl g1⟩ hi c4 (fun e oe cls d pn hz hf => raises_suite m1 hz hf hsc h0 hi g3 g4 g5 g6) (.cons ⟨c2, b2, .inl g2⟩ hi c4 (fun e oe cls d pn hz hf => raises_suite m2 hz hf hsc h0 hi g3 g4 g5 g6) .nil)))
      (pss_one (ps_ret (pos := r3) (pe_bl (b := false) (j := i2) (pos := r2))))) (fun D σ H z q => q), ?_⟩
  · refine ⟨fun pins s' σ H' D J h' => ?_⟩
    obtain ⟨E, hW, h1', h2, h3⟩ := h'
    have pc := pe_clos (P := P) (w := w) (K := K) (mg := mg) (base := base) (Ng := Ng) (q := x) (sg := sg) (a := a) (cd := cdv) (A := A) (outer := outer) (s := s) (H := H) (i := 1) (cp := t.cp) (p1 := q0) (p2 := q1) C (hr'.mono hj) hgd tk h1 (.inl c3) b3 b3'
    exact (pss_one (ps_expr (pos := q2) pc)).run pins s' σ H' D J ⟨E, hW, h1', h2, h3⟩
  · refine ⟨_, fun cls d H' z => ?_, rfl, hI, h⟩
    obtain ⟨rfl, c, i, k, rfl, hw, hpre, hq⟩ := z
    cases hpre
    obtain ⟨xc, y1, y2, b, z1, z2, z3⟩ := hO c i hw
    have len : ii < (L2.start Ng [V.int k, V.ref f]).length := by
      have := (List.getElem?_eq_some_iff.mp hi).1
      unfold L2.start
      simp
      omega
    have at0 : ∀ u, ((L2.start Ng [V.int k, V.ref f]).set ii u)[0]? = some (some (.int k)) := fun u => by
      rw [List.getElem?_set_ne (by omega)]
      rfl
    have ati : ∀ u, ii < ((L2.start Ng [V.int k, V.ref f]).set ii u).length → ((L2.start Ng [V.int k, V.ref f]).set ii u)[ii]? = some u := fun u _ => List.getElem?_set_self len
    refine ⟨b, z1, fun z e he => ⟨cl c, k, rfl, rfl, xc, y1, y2, at0 _, ati _, ?_⟩, fun z => ?_⟩
    · rw [← z2 z]; exact hq
    · obtain ⟨z4, z5⟩ := z3 z
      exact ⟨true, z4, fun _ e he => ⟨cl c, k, rfl, rfl, xc, y1, y2, at0 _, ati _, by rw [← z5]; exact hq⟩, fun z => by cases z⟩
end Mir
end

section
set_option Elab.async false
set_option linter.all false
set_option maxRecDepth 100000
set_option maxHeartbeats 4000000
/-! Mir11: statements, second part; all of a body. -/
namespace Mir
open PySem PySem.Spec L2
section
variable {X : Cx} {Γ : Gx} {cl : Nat → Addr} {E : XK} {N : List Str} {sc : Scope} {fb : Str → Bool} {k : Nat}

/-! ### a, b = c, d -/
def locSlot (N : List Str) (sc : Scope) (line : Nat) : Expr → Option (Str × Nat)
  | .Name x p => if decide (sc.names.lookup x = some .local) && (p.line == line) then (slotN N x).map fun i => (x, i) else none
  | _ => none
theorem locSlot_ok {line : Nat} {e : Expr} {x : Str} {i : Nat} (h : locSlot N sc line e = some (x, i)) : (∃ p, e = .Name x p ∧ p.line = line) ∧ sc.names.lookup x = some .local ∧ N[i]? = some x := by
  unfold locSlot at h
  split at h
  · rename_i y p
    split at h
    · rename_i hc
      rw [Bool.and_eq_true, decide_eq_true_eq] at hc
      cases hs : slotN N y with
      | none => rw [hs] at h; cases h
      | some j =>
        rw [hs] at h
        cases h
        exact ⟨⟨p, rfl, by simpa using hc.2⟩, hc.1, slot_ix hs⟩
    · cases h
  · cases h
theorem sw_plain {t e : Expr} {env : PySem.Env} (h : isTuple t = false ∨ isTuple e = false) (hl : ∀ ts p, t ≠ .List ts p) : swappedStores [t] e env = pure none := by
  unfold swappedStores
  cases t with
  | Tuple ts k p =>
    cases e with
    | Tuple es k2 p2 => rcases h with h | h <;> cases h
    | _ => rfl
  | List ts p => exact absurd rfl (hl ts p)
  | _ => rfl
def isListE : Expr → Bool
  | .List _ _ => true
  | _ => false
/-- not exchanged: another number of targets than two or three; one of them no name; all constants -/
def isName : Expr → Bool
  | .Name _ _ => true
  | _ => false
/-- a local name on a line -/
def parName (sc : Scope) (line : Nat) : Expr → Bool
  | .Name x p => decide (sc.names.lookup x = some .local) && (p.line == line)
  | _ => false
def headLine (ts : List Expr) : Nat := (ts.head?.map (·.pos.line)).getD 0
theorem names_few {f : Expr → Option Str} {c : Expr → Bool} (hf : ∀ e, c e = false → f e = none) : ∀ ts : List Expr, ts.all c = false → (ts.filterMap f).length < ts.length
  | [], h => by cases h
  | t :: ts, h => by
    have le : (ts.filterMap f).length ≤ ts.length := List.length_filterMap_le _ _
    rw [List.filterMap_cons]
    rw [List.all_cons, Bool.and_eq_false_iff] at h
    rcases h with h | h
    · rw [hf t h]
      simp only [List.length_cons]
      exact Nat.lt_succ_of_le le
    · have ih := names_few hf ts h
      split
      · simp only [List.length_cons]; omega
      · simp only [List.length_cons]; omega
theorem bne_lt {a b : Nat} (h : a < b) {c : Bool} : ((a != b) || c) = true := by
  rw [Bool.or_eq_true]
  exact .inl (bne_iff_ne.mpr (Nat.ne_of_lt h))
theorem sw_many {ts es : List Expr} {k k2 p p2} {env : PySem.Env} (h : (ts.length == 2 || ts.length == 3) = false ∨ ts.all (parName env.scope (headLine ts)) = false ∨ (es.all (foldedForSure 8) = true)) : swappedStores [.Tuple ts k p] (.Tuple es k2 p2) env = pure none := by
  unfold swappedStores
  dsimp only [pure_bind, bind_pure_comp]
  by_cases h1 : (!(ts.length == 2 || ts.length == 3) || es.length != ts.length || env.blockKind != .function) = true
  · rw [if_pos h1]
  · rw [if_neg h1]
    have h1' : (ts.length == 2 || ts.length == 3) = true := by
      cases q : (ts.length == 2 || ts.length == 3) with
      | true => rfl
      | false => rw [q] at h1; exact absurd rfl h1
    split
    · rfl
    · rcases h with h | h | h
      · rw [h1'] at h; cases h
      · refine if_pos (bne_lt (names_few (fun e he => ?_) ts h))
        cases e with
        | Name x p =>
          have he : (decide (env.scope.names.lookup x = some .local) && (p.line == headLine ts)) = false := he
          have hk : (env.kindOf x == some .local) = decide (env.scope.names.lookup x = some .local) := by
            rw [Bool.eq_iff_iff, decide_eq_true_eq, beq_iff_eq]
            exact Iff.rfl
          show (if (env.kindOf x == some .local && (p.line == headLine ts)) = true then some x else none) = none
          rw [hk, he, if_neg Bool.false_ne_true]
        | _ => rfl
      · split
        · rfl
        · first
            | rfl
            | (rw [if_pos h])

theorem kind_fn {env : PySem.Env} (h : env.scope.kind = .function) : env.blockKind = .function := by unfold Env.blockKind; rw [h]; rfl
theorem sw_two {x y : Str} {a b : Expr} {k k2 p2} {p px py : Pos} {env : PySem.Env} (hk : env.scope.kind = .function) (hx : env.scope.names.lookup x = some .local) (hy : env.scope.names.lookup y = some .local) (hl : py.line = px.line) (hne : x ≠ y)
    (hs : [a, b].any isStar = false) (hf : [a, b].all (foldedForSure 8) = false) (hc : [a, b].all (constantsAlone 8) = false) : swappedStores [.Tuple [.Name x px, .Name y py] k p] (.Tuple [a, b] k2 p2) env = pure (some [x, y]) := by
  have hb := kind_fn hk
  have k1 : env.kindOf x = some .local := hx
  have k3 : env.kindOf y = some .local := hy
  unfold swappedStores
  dsimp only [pure_bind, bind_pure_comp]
  rw [if_neg (by simp [hb]), if_neg (by
    rw [Bool.not_eq_true]
    refine Eq.trans (congrArg (fun f => List.any [a, b] f) (funext fun e => ?_)) hs
    cases e <;> rfl)]
  have hn : ∀ f : Expr → Option Str, f (.Name x px) = some x → f (.Name y py) = some y → [Expr.Name x px, Expr.Name y py].filterMap f = [x, y] := fun f h1 h2 => by simp [List.filterMap_cons, h1, h2]
  have hd : ([x, y] : List Str).eraseDups = [x, y] := by
    simp [List.eraseDups_cons, hne, Ne.symm hne]
  rw [hn]
  · rw [hd, if_neg (by simp), if_neg (by rw [hf]; simp), if_neg (by rw [hc]; simp)]
  · simp [k1, Expr.pos]
  · simp [k3, Expr.pos, hl]
theorem sw_three {x y z : Str} {a b c : Expr} {k k2 p2} {p px py pz : Pos} {env : PySem.Env} (hk : env.scope.kind = .function) (hx : env.scope.names.lookup x = some .local) (hy : env.scope.names.lookup y = some .local) (hz : env.scope.names.lookup z = some .local) (hl : py.line = px.line) (hl2 : pz.line = px.line) (hne : x ≠ y) (hne2 : x ≠ z) (hne3 : y ≠ z)
    (hs : [a, b, c].any isStar = false) (hf : [a, b, c].all (foldedForSure 8) = false) (hc : [a, b, c].all (constantsAlone 8) = false) : swappedStores [.Tuple [.Name x px, .Name y py, .Name z pz] k p] (.Tuple [a, b, c] k2 p2) env = pure (some [x, y, z]) := by
  have hb := kind_fn hk
  have k1 : env.kindOf x = some .local := hx
  have k3 : env.kindOf y = some .local := hy
  have k4 : env.kindOf z = some .local := hz
  unfold swappedStores
  dsimp only [pure_bind, bind_pure_comp]
  rw [if_neg (by simp [hb]), if_neg (by
    rw [Bool.not_eq_true]
    refine Eq.trans (congrArg (fun f => List.any [a, b, c] f) (funext fun e => ?_)) hs
    cases e <;> rfl)]
  have hn : ∀ f : Expr → Option Str, f (.Name x px) = some x → f (.Name y py) = some y → f (.Name z pz) = some z → [Expr.Name x px, Expr.Name y py, Expr.Name z pz].filterMap f = [x, y, z] := fun f h1 h2 h3 => by simp [List.filterMap_cons, h1, h2, h3]
  have hd : ([x, y, z] : List Str).eraseDups = [x, y, z] := by
    simp [List.eraseDups_cons, hne, hne2, hne3, Ne.symm hne, Ne.symm hne2, Ne.symm hne3]
  rw [hn]
  · rw [hd, if_neg (by simp), if_neg (by rw [hf]; simp), if_neg (by rw [hc]; simp)]
  · simp [k1, Expr.pos]
  · simp [k3, Expr.pos, hl]
  · simp [k4, Expr.pos, hl2]
theorem s_par2 {i j : Nat} {x y : Str} {a b : Expr} {as : SA} {px py pt pos : Pos} {kt k2 pt2} (hc : X.calm = true) (hN : X.N.Nodup) (hi : X.N[i]? = some x) (hj : X.N[j]? = some y) (hij : i ≠ j)
    (hx : X.env.scope.names.lookup x = some .local) (hy : X.env.scope.names.lookup y = some .local) (ha : PA X [a, b] (lA X.K cl E as)) (hw : swappedStores [.Tuple [.Name x px, .Name y py] kt pt] (.Tuple [a, b] k2 pt2) X.env = pure (some [x, y])) :
    PS X (.Assign [.Tuple [.Name x px, .Name y py] kt pt] (.Tuple [a, b] k2 pt2) pos) (lS X.K cl E (sPar [i, j] as)) := by
  refine PS.via (ps_par hc hN hi hj hij hx hy ha hw) fun D σ H z ⟨ρ, env, S, rs, re, h⟩ => ?_
  refine lA_fl rs re h fun vs H1 ρ1 S1 ds z1 g1 rs1 re1 rd h1 => ?_
  split at h1
  · rename_i h2
    cases h2
    obtain ⟨v, u, rfl, rv, ru⟩ := rd.two
    exact ⟨v, u, rfl, fun _ => h1 ρ1 H1 _ Grow.refl rs1 ((re1.set rv).set ru) z1⟩
  · rename_i h2; cases h2
  · exact h1.elim
theorem RDs.three {K : PySem.W.Frag} {ρ : Rho} {H : Hp} {d e f : D} {vs : List V} (h : RDs K ρ H [d, e, f] vs) : ∃ v u w, vs = [v, u, w] ∧ RD K ρ H d v ∧ RD K ρ H e u ∧ RD K ρ H f w := by
  unfold RDs at h
  obtain ⟨v, r, rfl, h1, h2⟩ := h
  obtain ⟨u, w, rfl, h3, h4⟩ := h2.two
  exact ⟨v, u, w, rfl, h1, h3, h4⟩
theorem s_par3 {i j l : Nat} {x y w : Str} {a b c : Expr} {as : SA} {px py pz pt pos : Pos} {kt k2 pt2} (hc : X.calm = true) (hN : X.N.Nodup) (hi : X.N[i]? = some x) (hj : X.N[j]? = some y) (hl : X.N[l]? = some w) (hij : i ≠ j) (hil : i ≠ l) (hjl : j ≠ l)
    (hx : X.env.scope.names.lookup x = some .local) (hy : X.env.scope.names.lookup y = some .local) (hz : X.env.scope.names.lookup w = some .local) (ha : PA X [a, b, c] (lA X.K cl E as)) (hw : swappedStores [.Tuple [.Name x px, .Name y py, .Name w pz] kt pt] (.Tuple [a, b, c] k2 pt2) X.env = pure (some [x, y, w])) :
    PS X (.Assign [.Tuple [.Name x px, .Name y py, .Name w pz] kt pt] (.Tuple [a, b, c] k2 pt2) pos) (lS X.K cl E (sPar [i, j, l] as)) := by
  refine PS.via (ps_par3 hc hN hi hj hl hij hil hjl hx hy hz ha hw) fun D σ H z ⟨ρ, env, S, rs, re, h⟩ => ?_
  refine lA_fl rs re h fun vs H1 ρ1 S1 ds z1 g1 rs1 re1 rd h1 => ?_
  split at h1
  · rename_i h2; cases h2
  · rename_i h2
    cases h2
    obtain ⟨v, u, w, rfl, rv, ru, rw'⟩ := rd.three
    exact ⟨v, u, w, rfl, fun _ => h1 ρ1 H1 _ Grow.refl rs1 (((re1.set rv).set ru).set rw') z1⟩
  · exact h1.elim

/-! ### x = [.. for ..] -/
theorem s_setLc {i : Nat} {y : Str} {py : Pos} {elt tg iter : Expr} {ifs : List Expr} {scope : Scope} {own : List (Str × Nat)} {pos spos : Pos} {mt : Bool} {src : Mir.Env → Store → Out Src} {g : SG} {t : ST} {e : SE} (hc : X.calm = true) (hN : X.N.Nodup) (hy : X.N[i]? = some y) (hyl : X.env.scope.names.lookup y = some .local)
    (hsw : swapsWith (.ListComp elt [⟨tg, iter, ifs, 0⟩] scope pos) (some (.Name y py)) spos.line X.env = pure true) (hi : PI X tg iter (lI X.K cl E src)) (ok : BlkOk X.N X.env.scope scope own)
    (hg : ∀ (s : Shared) (H : Hp) (C : Addr) (cs : List (Str × Addr)) (fp : List Addr), PG (X.blk s H scope (compEnvC scope cs C X.env) fp) tg (lG X.K cl E0 (some (own.map (·.2))) g))
    (ht : ∀ (s : Shared) (H : Hp) (C : Addr) (cs : List (Str × Addr)) (fp : List Addr), PTs (X.blk s H scope (compEnvC scope cs C X.env) fp) ifs (lT X.K cl E0 t))
    (he : ∀ (s : Shared) (H : Hp) (C : Addr) (cs : List (Str × Addr)) (fp : List Addr), PE (X.blk s H scope (compEnvC scope cs C X.env) fp) elt (lE X.K cl E0 e)) (hs : ∀ x, foldedSetIterable iter X.env x = pure x) :
    PS X (.Assign [.Name y py] (.ListComp elt [⟨tg, iter, ifs, 0⟩] scope pos) spos) (lS X.K cl E (sAsg (mLC (own.map (·.2)) mt src g t e) (gSet i))) := by
  refine PS.via (ps_setLc hc hN hy hyl hsw hi ok hg ht he hs) fun D σ H z ⟨ρ, env, S, rs, re, h⟩ => ?_
  refine l_lc (mt := mt) σ H (fun v H' => D.nx (σ.set i (some v)) H') ?_
  refine lE_fl rs re h fun x H1 ρ1 S1 a z1 g1 rs1 re1 ra h1 => ?_
  exact h1 ρ1 H1 _ Grow.refl rs1 (re1.set ra) z1

/-! ### op= -/
def augV : Operator → Option V2
  | .Add => some vIadd
  | .Sub => some vSub
  | .Mult => some vImul
  | .BitXor => some vXor
  | _ => none
theorem aug_ok {op : Operator} {f : V2} (h : augV op = some f) : OpR X (inplaceOp op) (w2 X.K cl E f) := by
  cases op <;> first | (cases h; first | exact or_iadd | exact or_isub | exact or_imul | exact or_ixor) | cases h
theorem s_aug {i : Nat} {x : Str} {e : Expr} {m : SE} {op : Operator} {f : V2} {pos' pos : Pos} (hN : X.N.Nodup) (hi : X.N[i]? = some x) (hx : Loc X.env.scope x) (he : PE X e (lE X.K cl E m)) (ho : OpR X (inplaceOp op) (w2 X.K cl E f)) (hf : X.fn x = true ∨ X.env.scope.names.lookup x = some .local) :
    PS X (.AugAssign (.Name x pos') op e pos) (lS X.K cl E (sAug i f m)) := by
  refine PS.via (ps_aug hN hi hx he (ti := w2 X.K cl E f) ho hf) fun D σ H z ⟨ρ, env, S, rs, re, h⟩ => ?_
  unfold sAug at h
  split at h
  · rename_i d hd
    obtain ⟨v, hv, rv⟩ := re.2 i d hd
    refine ⟨v, hv, lE_fl rs re h fun y H1 ρ1 S1 b z1 g1 rs1 re1 rb h1 => ?_⟩
    refine ⟨ρ1, S1, d, b, rs1, rv.grow g1, rb, OKo.mono (OKo.fl h1) fun z H2 z2 ⟨ρ2, S2, c, g2, rs2, rc, h2⟩ _ => ?_⟩
    exact h2 ρ2 H2 _ Grow.refl rs2 ((re1.grow g2).set rc) z2
  · exact h.elim
def vGet : V2 := fun c i S => match c with
  | .ref n => vIx (.ref n) i S
  | _ => .bad
theorem pg_list : PGet X (rIxL X.K) := by
  intro pins s σ H x y v u Q I rx ry h
  obtain ⟨p, xs, i, z, rfl, rfl, hq, he, q⟩ := h
  cases rx
  obtain ⟨t, rfl⟩ := ry
  obtain ⟨its, r, pl, hz⟩ := I.list hq
  obtain ⟨j, h1, h2, h3, h4, h5⟩ := atI_get he
  obtain ⟨w, ew, rw'⟩ := r.get h2
  have hl := r.length
  have hn := line63
  by_cases h0 : 0 ≤ i
  · have hj : i.toNat = j := by
      rw [seqIndex_of h0 h5] at h1
      exact Option.some.inj h1
    exact wpAny_getItem_list pl.isList h0 (by omega) (by rw [hj]; simpa using ew) ⟨z, H, I, rw', q⟩
  · have hj : (i + (its.toArray.size : Int)).toNat = j := by
      rw [seqIndex_neg (by omega) h4] at h1
      rw [List.size_toArray, ← hl]
      exact Option.some.inj h1
    exact wpAny_getItem_list_neg pl.isList (by omega) (by rw [List.size_toArray] <;> omega) (by omega) (by rw [hj]; simpa using ew) ⟨z, H, I, rw', q⟩
theorem pg_dict (hu : X.A.units + 1 < cLine) : PGet X rIxDict := by
  intro pins s σ H x y v u Q I rx ry h
  obtain ⟨a, z, rfl, g, q⟩ := h
  cases (show v = Value.ref a from rx)
  exact d_getItem hu I g ry fun w' s' I' r' => ⟨z, H, I', r', q⟩
theorem pg_siz {r r' : R2} (h : PGet X r) (i : ∀ x y H Q, Siz H → r' x y H Q → r x y H (fun v H' => Siz H' → Q v H')) : PGet X r' :=
  OpR.siz (f := getItem) (r := r) (r' := r') h i
theorem pg_ix (hu : X.A.units + 1 < cLine) : PGet X (w2 X.K cl E vGet) := by
  show OpR X getItem (w2 X.K cl E vGet)
  refine OpR.cases fun x y H Q z q => ?_
  obtain ⟨ρ, S, a, b, rs, ra, rb, q⟩ := q
  unfold vGet at q
  split at q
  · unfold vIx at q
    dsimp only at q
    split at q
    · rename_i xs hS
      split at q
      · split at q
        · rename_i hd
          obtain ⟨p, vs, rfl, hs, qs⟩ := list_at rs (d := .ref _) (xs := xs) (by simp only [listOf, hS]) ra
          cases rb.ofInt
          obtain ⟨w, hw, rw'⟩ := atI_rds qs hd
          exact ⟨_, pg_list, p, vs, _, w, rfl, rfl, SqL.of hs, hw, ok_val rs q rw'⟩
        · exact q.elim
      · exact q.elim
    · rename_i t kvs hS
      split at q
      · rename_i hk
        unfold RD at ra
        obtain ⟨p, rfl, hn⟩ := ra
        have g := dget_at rs hn hS hk rb
        split at q
        · rename_i d hd
          rw [hd] at g
          obtain ⟨w, g1, rw'⟩ := g
          exact ⟨_, pg_dict hu, p, w, rfl, g1, ok_val rs q rw'⟩
        · exact q.elim
      · exact q.elim
    · exact q.elim
  · exact q.elim
def sAugG (o k : SE) (f : V2) (m : SE) : SS := fun env S => (o env S).fl fun c S1 => (k env S1).fl fun i S2 => (vGet c i S2).fl fun x S3 => (m env S3).fl fun y S4 => (f x y S4).fl fun z S5 => (vSet c i z S5).fl fun _ S6 => .nx env S6
theorem s_augS {o i e : Expr} {mo mi m : SE} {f : V2} {op : Operator} {tpos pos : Pos} (hu : X.A.units + 1 < cLine) (ho : PE X o (lE X.K cl E mo)) (hi : PE X i (lE X.K cl E mi)) (he : PE X e (lE X.K cl E m)) (hp : OpR X (inplaceOp op) (w2 X.K cl E f))
    (ha : ∀ ov iv new, augStore i ov iv new = (do holding [new, ov, iv] (setItem ov iv new); release [new, ov, iv] []; pure .next)) : PS X (.AugAssign (.Subscript o i tpos) op e pos) (lS X.K cl E (sAugG mo mi f m)) := by
  refine PS.via (ps_augS ho hi (tget := w2 X.K cl E vGet) (pg_ix hu) he (tip := w2 X.K cl E f) hp (sr_set (cl := cl) (E := E) hu) ha) fun D σ H z ⟨ρ, env, S, rs, re, h⟩ => ?_
  refine lE_fl rs re h fun c H1 ρ1 S1 dc z1 g1 rs1 re1 rc h1 => ?_
  refine lE_fl rs1 re1 h1 fun k H2 ρ2 S2 dk z2 g2 rs2 re2 rk h2 => ?_
  refine ⟨ρ2, S2, dc, dk, rs2, rc.grow g2, rk, OKo.mono (OKo.fl h2) fun x H3 z3 ⟨ρ3, S3, dx, g3, rs3, rx, h3⟩ => ?_⟩
  have re3 := re2.grow g3
  refine lE_fl rs3 re3 h3 fun y H4 ρ4 S4 dy z4 g4 rs4 re4 ry h4 => ?_
  refine ⟨ρ4, S4, dx, dy, rs4, rx.grow g4, ry, OKo.mono (OKo.fl h4) fun w H5 z5 ⟨ρ5, S5, dz, g5, rs5, rz, h5⟩ => ?_⟩
  have re5 := re4.grow g5
  have gg := ((g2.trans g3).trans g4).trans g5
  refine ⟨ρ5, S5, dc, dk, dz, rs5, rc.grow gg, rk.grow ((g3.trans g4).trans g5), rz, OKo.mono (OKo.fl h5) fun _ H6 z6 ⟨ρ6, S6, _, g6, rs6, _, h6⟩ => ?_⟩
  exact fun _ => h6 ρ6 H6 _ Grow.refl rs6 (re5.grow g6) z6

/-! ### raise -/
structure ExcK (X : Cx) (Γ : Gx) (cl : Nat → Addr) : Prop where
  ex : ∀ x c, Γ.exc.lookup x = some c → PySem.W.excIn X.K (cl c) He.veBase "ValueError.__new__" = true ∧ X.mg x = some (.ref (cl c)) ∧ PySem.W.keepIn X.K (.ref (cl c)) = true ∧ PySem.W.subIn X.K (.ref (cl c)) (.type "BaseException") = some true ∧ PySem.W.typeIn X.K (.ref (cl c)) = some (.type "type")
theorem s_raise {x m : Str} {j c : Nat} {p p2 pos pos2 : Pos} (hc : X.calm = true) (tk : Takes X (fun c d _ H => E c d H)) (ek : ExcK X Γ cl) (hx : Γ.exc.lookup x = some c) (hg : Gl X x) (hdb : (x == ("__debug__" : Str)) = false) :
    PS X (.Raise (some (.Call (.Name x p) [.Constant (.str m) j p2] [] pos)) none pos2) (lS X.K cl E (sRaise c)) := by
  obtain ⟨e1, e2, e3, e4, e5⟩ := ek.ex x c hx
  refine PS.via (ps_raise hc tk (pmk_own PySem.F.excBase_ValueError e1 e2 e3 (raises_own e4 e5) hg hdb)) fun D σ H z ⟨ρ, env, S, rs, re, h⟩ => ?_
  exact h ρ H Grow.refl rs

/-! ### the whole -/
def isComp : Expr → Bool
  | .ListComp _ _ _ _ => true
  | .SetComp _ _ _ _ => true
  | .DictComp _ _ _ _ _ => true
  | _ => false
theorem swaps_plain {t e : Expr} {l : Nat} {env : PySem.Env} (h : isComp e = false ∨ isName t = false) : swapsWithSole [t] e l env = pure false := by
  unfold swapsWithSole swapsWith
  cases e with
  | ListComp _ _ _ _ => rcases h with h | h; cases h; cases t <;> first | rfl | cases h
  | SetComp _ _ _ _ => rcases h with h | h; cases h; cases t <;> first | rfl | cases h
  | DictComp _ _ _ _ _ => rcases h with h | h; cases h; cases t <;> first | rfl | cases h
  | _ => rfl
theorem swaps_none {e : Expr} {l : Nat} {env : PySem.Env} (h : isComp e = false) : swapsWith e none l env = pure false := by
  unfold swapsWith
  cases e <;> first | rfl | cases h
def lcSame (py : Pos) (y : Str) (pos : Pos) (scope : Scope) : Bool := (py.line == pos.line) && !(scope.names.any fun (n, k) => n == y && (k == .local || k == .cell))
theorem sw_false {elt : Expr} {gs : List Comprehension} {scope : Scope} {pos py : Pos} {y : Str} {l : Nat} {env : PySem.Env} (ha : lcSame py y pos scope = false) : swapsWith (.ListComp elt gs scope pos) (some (.Name y py)) l env = pure false := by
  unfold lcSame at ha
  unfold swapsWith
  show pure (env.blockKind == .function && env.kindOf y == some .local && py.line == pos.line && !(scope.names.any fun (n, k) => n == y && (k == .local || k == .cell))) = pure false
  rw [Bool.and_assoc (b := (py.line == pos.line)), ha, Bool.and_false]
theorem sw_cell {elt : Expr} {gs : List Comprehension} {scope : Scope} {pos py : Pos} {y : Str} {l : Nat} {env : PySem.Env} (h : env.scope.names.lookup y = some .cell) : swapsWith (.ListComp elt gs scope pos) (some (.Name y py)) l env = pure false := by
  have k : env.kindOf y = some .cell := h
  unfold swapsWith
  show pure (env.blockKind == .function && env.kindOf y == some .local && py.line == pos.line && !(scope.names.any fun (n, k) => n == y && (k == .local || k == .cell))) = pure false
  have e : (env.kindOf y == some NameKind.local) = false := by rw [k]; rfl
  rw [e, Bool.and_false, Bool.false_and, Bool.false_and]
section
variable (Γ : Gx) (N : List Str) (sc : Scope)
def dPar (n : Nat) (ts es : List Expr) : SS :=
  if (!es.any isStar) && ((!es.all (constantsAlone 8)) && decide (sc.kind = .function)) then (match ts, es with
    | [t1, t2], [a, b] => match locSlot N sc t1.pos.line t1, locSlot N sc t1.pos.line t2 with
      | some (_, i), some (_, j) => if i ≠ j then sPar [i, j] (dArgs (dE Γ N n sc) [a, b]) else sBad
      | _, _ => sBad
    | [t1, t2, t3], [a, b, c] => match locSlot N sc t1.pos.line t1, locSlot N sc t1.pos.line t2, locSlot N sc t1.pos.line t3 with
      | some (_, i), some (_, j), some (_, l) => if i ≠ j ∧ i ≠ l ∧ j ≠ l then sPar [i, j, l] (dArgs (dE Γ N n sc) [a, b, c]) else sBad
      | _, _, _ => sBad
    | _, _ => sBad)
  else sBad
def plainPar (ts es : List Expr) : Bool := !(ts.length == 2 || ts.length == 3) || (!ts.all (parName sc (headLine ts)) || es.all (foldedForSure 8))
def dAsg (n : Nat) (t e : Expr) : SS := match t, e with
  | .Tuple ts _ _, .Tuple es _ _ => if plainPar sc ts es then sAsg (dE Γ N n sc e) (dTgt N sc (fun _ => true) none (dE Γ N n sc) n t) else dPar Γ N sc n ts es
  | .Name y _, .ListComp elt gs scope pos => match gs with
    | [c] => match slotN N y with
      | some i => if decide (sc.kind = .function) && (decide (sc.names.lookup y = some .local) || decide (sc.names.lookup y = some .cell)) then sAsg (dLC N (Γ.mt pos) sc (dE Γ N n sc) (dE Γ N n) (dT Γ N n) elt c scope) (gSet i) else sBad
      | none => sBad
    | _ => sBad
  | t, e => if isListE t || (isStar t || (isName t && isComp e)) then sBad else sAsg (dE Γ N n sc e) (dTgt N sc (fun _ => true) none (dE Γ N n sc) n t)
mutual
def dS : Nat → Stmt → SS
  | 0, _ => sBad
  | n + 1, s => match s with
    | .Assign [t] e _ => dAsg Γ N sc n t e
    | .AugAssign t op e _ => match augV op with
      | some f => (match t with
        | .Name x _ => match slotN N x with
          | some i => if decide (sc.names.lookup x = some .local) || decide (sc.names.lookup x = some .cell) then sAug i f (dE Γ N n sc e) else sBad
          | none => sBad
        | .Subscript o i _ => if isSlice i then sBad else sAugG (dE Γ N n sc o) (dE Γ N n sc i) f (dE Γ N n sc e)
        | _ => sBad)
      | none => sBad
    | .Return v _ => match v with
      | some e => sRet (dE Γ N n sc e)
      | none => sRet (mC .non)
    | .Expr e _ => match e with
      | .Constant (.str _) _ _ => sNil
      | e => if isComp e then sBad else sExpr (dE Γ N n sc e)
    | .If c a b _ => sIf (dT Γ N n sc c) (dB n a) (dB n b)
    | .While c body orelse _ => match orelse with
      | [] => whileL (dT Γ N n sc c) (dB n body) Γ.wf
      | _ => sBad
    | .For t iter body orelse _ => match orelse with
      | [] => if isSet iter then sBad else sFor (dIter sc (dE Γ N n sc) t iter) (dTgt N sc (fun _ => true) none (dE Γ N n sc) n t) (dB n body)
      | _ => sBad
    | .Pass _ => sNil
    | .Break _ => fun env S => .bk env S
    | .Continue _ => fun env S => .ct env S
    | .Raise (some (.Call (.Name x _) [.Constant (.str _) _ _] [] _)) none _ => if globB sc x then (match Γ.exc.lookup x with
      | some c => sRaise c
      | none => sBad) else sBad
    | _ => sBad
def dB : Nat → List Stmt → SS
  | 0, _ => sBad
  | _ + 1, [] => sNil
  | n + 1, s :: ss => sSeq (dS n s) (dB n ss)
end
end
end
end Mir
end

section
set_option Elab.async false
set_option linter.all false
set_option maxRecDepth 100000
set_option maxHeartbeats 4000000
/-! Mir12: bodies are what they do. -/
namespace Mir
open PySem PySem.Spec L2
section
variable {X : Cx} {Γ : Gx} {cl : Nat → Addr} {E : XK} {N : List Str} {sc : Scope} {k : Nat}
theorem bnot_f {b : Bool} (h : (!b) = true) : b = false := by simpa using h
theorem dPar_ok (C : Cond X Γ cl E N sc (fun _ => true) k) {n : Nat} {ts es : List Expr} {kt k2 : Nat} {pt pt2 pos : Pos} (hp : plainPar sc ts es = false) : PS X (.Assign [.Tuple ts kt pt] (.Tuple es k2 pt2) pos) (lS X.K cl E (dPar Γ N sc n ts es)) := by
  have fE := (dE_ok (Γ := Γ) (cl := cl) (N := N) (k := k) n).1 X E sc _ C
  have hN : X.N.Nodup := by rw [C.eN]; exact C.nd
  unfold plainPar at hp
  rw [Bool.or_eq_false_iff, Bool.or_eq_false_iff] at hp
  obtain ⟨_, _, hf⟩ := hp
  unfold dPar
  split
  · rename_i hc
    rw [Bool.and_eq_true, Bool.and_eq_true, decide_eq_true_eq] at hc
    obtain ⟨hs, hk, hfn⟩ := hc
    have hs := bnot_f hs
    have hk := bnot_f hk
    have hfn : X.env.scope.kind = .function := by rw [C.eS]; exact hfn
    split
    · split
      · rename_i t1 t2 a b _ _ x i y j h1 h2
        split
        · rename_i hij
          obtain ⟨⟨px, rfl, lx⟩, hx, hi⟩ := locSlot_ok h1
          obtain ⟨⟨py, rfl, ly⟩, hy, hj⟩ := locSlot_ok h2
          rw [← C.eN] at hi hj
          rw [← C.eS] at hx hy
          have ne : x ≠ y := fun e => hij (nodup_ix hN hi (e ▸ hj))
          have ly : py.line = px.line := ly
          exact s_par2 C.calm hN hi hj hij hx hy (dArgs_ok fE _) (sw_two hfn hx hy ly ne hs hf hk)
        · exact ps_bad
      · exact ps_bad
    · split
      · rename_i t1 t2 t3 a b c _ _ x i y j z l h1 h2 h3
        split
        · rename_i hij
          obtain ⟨hij, hil, hjl⟩ := hij
          obtain ⟨⟨px, rfl, lx⟩, hx, hi⟩ := locSlot_ok h1
          obtain ⟨⟨py, rfl, ly⟩, hy, hj⟩ := locSlot_ok h2
          obtain ⟨⟨pz, rfl, lz⟩, hz, hl⟩ := locSlot_ok h3
          rw [← C.eN] at hi hj hl
          rw [← C.eS] at hx hy hz
          have ne : x ≠ y := fun e => hij (nodup_ix hN hi (e ▸ hj))
          have ne2 : x ≠ z := fun e => hil (nodup_ix hN hi (e ▸ hl))
          have ne3 : y ≠ z := fun e => hjl (nodup_ix hN hj (e ▸ hl))
          have ly : py.line = px.line := ly
          have lz : pz.line = px.line := lz
          exact s_par3 C.calm hN hi hj hl hij hil hjl hx hy hz (dArgs_ok fE _) (sw_three hfn hx hy hz ly lz ne ne2 ne3 hs hf hk)
        · exact ps_bad
      · exact ps_bad
    · exact ps_bad
  · exact ps_bad
theorem assign_one1 {t : Expr} {env : PySem.Env} (h : isStar t = false) : (assignEach [t] env).map (·.2) = [assign t env] := by
  rw [assign_one h]; rfl
theorem dAsg_ok (C : Cond X Γ cl E N sc (fun _ => true) k) {n : Nat} {t e : Expr} {pos : Pos} : PS X (.Assign [t] e pos) (lS X.K cl E (dAsg Γ N sc n t e)) := by
  have fE := (dE_ok (Γ := Γ) (cl := cl) (N := N) (k := k) n).1 X E sc _ C
  have hN : X.N.Nodup := by rw [C.eN]; exact C.nd
  have gT := fun t => dTgt_ok C (ow := none) fE n t
  unfold dAsg
  split
  · split
    · rename_i hp
      refine s_asg (fE _) (gT _) (swaps_plain (.inr rfl)) (sw_many ?_) (assign_one1 rfl)
      unfold plainPar at hp
      rw [Bool.or_eq_true, Bool.or_eq_true, Bool.not_eq_true', Bool.not_eq_true'] at hp
      rw [C.eS]
      exact hp
    · rename_i hp
      exact dPar_ok C (by simpa using hp)
  · split
    · rename_i y py elt scope pos2 gs c
      split
      · rename_i i hi
        split
        · rename_i hc
          rw [Bool.and_eq_true, Bool.or_eq_true, decide_eq_true_eq, decide_eq_true_eq, decide_eq_true_eq] at hc
          have hfn : X.env.scope.kind = .function := by rw [C.eS]; exact hc.1
          rcases hc.2 with hy | hy
          rotate_left
          · have hy : X.env.scope.names.lookup y = some .cell := by rw [C.eS]; exact hy
            have D := dE_ok (Γ := Γ) (cl := cl) (N := N) (k := k) n
            exact s_asg (dLC_ok C D.1 D.2) (g_name hN (by rw [C.eN]; exact slot_ix hi) (.inr hy) (.inl (C.hfb _ rfl)) fun _ e => by cases e) (sw_cell (l := pos.line) hy) (sw_plain (.inl rfl) fun _ _ e => by cases e) (assign_one1 rfl)
          have hy : X.env.scope.names.lookup y = some .local := by rw [C.eS]; exact hy
          have hix : X.N[i]? = some y := by rw [C.eN]; exact slot_ix hi
          have D := dE_ok (Γ := Γ) (cl := cl) (N := N) (k := k) n
          cases hsame : lcSame py y pos2 scope with
          | false =>
            exact s_asg (dLC_ok C D.1 D.2) (g_name hN hix (.inl hy) (.inr hy) fun _ e => by cases e) (sw_false (l := pos.line) hsame) (sw_plain (.inl rfl) fun _ _ e => by cases e) (assign_one1 rfl)
          | true =>
            unfold lcSame at hsame
            rw [Bool.and_eq_true] at hsame
            obtain ⟨tg, iter, ifs, asy⟩ := c
            unfold dLC
            split
            · rename_i h
              rw [Bool.and_eq_true, Bool.and_eq_true, decide_eq_true_eq] at h
              obtain ⟨h1, h2, h3⟩ := h
              cases h2
              have h3 : isSet iter = false := by simpa using h3
              have ok : BlkOk X.N X.env.scope scope (ownOf N scope) := by rw [C.eN, C.eS]; exact blkOk_by h1
              have tgt := fun (s : Shared) (H : Hp) (A : Addr) (cs : List (Str × Addr)) (fp : List Addr) => dTgt_ok (C.blk (s := s) (H := H) (scope := scope) (cs := cs) (A := A) (fp := fp)) (ow := some ((ownOf N scope).map (·.2))) (fs := fun _ => mBad) (fun e => pe_bad) 3 tg
              have elm := fun (s : Shared) (H : Hp) (A : Addr) (cs : List (Str × Addr)) (fp : List Addr) => D.1 _ _ _ _ (C.blk (s := s) (H := H) (scope := scope) (cs := cs) (A := A) (fp := fp)) elt
              refine s_setLc C.calm hN hix hy (sw_true hfn hy hsame.1 (by simpa using hsame.2)) (dIter_ok C fE iter) ok tgt (fun s H A cs fp => ?_) elm (folded_ok h3)
              show PTs _ ifs (lT _ _ _ (dIfs _ ifs))
              unfold dIfs
              split
              · refine ⟨fun pins s σ H Q I q => pts_nil.run pins s σ H Q I ?_⟩
                obtain ⟨ρ, env, S, rs, re, q⟩ := q
                exact q ρ H true Grow.refl rs rfl (siz_of I.hok)
              · exact pts_one (D.2 _ _ _ _ C.blk _)
              · exact ⟨fun _ _ _ _ _ _ ⟨_, _, _, _, _, h⟩ => h.elim⟩
            · exact ⟨fun _ _ _ _ _ _ ⟨_, _, _, _, _, h⟩ => h.elim⟩
        · exact ps_bad
      · exact ps_bad
    · exact ps_bad
  · rename_i h1 h2
    split
    · exact ps_bad
    · rename_i hc
      rw [Bool.or_eq_true, Bool.or_eq_true, not_or, not_or, Bool.and_eq_true, not_and] at hc
      obtain ⟨c1, c0, c2⟩ := hc
      · refine s_asg (fE _) (gT _) (swaps_plain ?_) (sw_plain ?_ ?_) (assign_one1 (by simpa using c0))
        · cases q : isName t with
          | false => exact .inr rfl
          | true => exact .inl (by simpa using c2 q)
        · cases q : isTuple t with
          | false => exact .inl rfl
          | true =>
            refine .inr ?_
            cases t with
            | Tuple ts kt pt =>
              cases e with
              | Tuple es ke pe => exact (h1 ts kt pt es ke pe rfl rfl).elim
              | _ => rfl
            | _ => cases q
        · rintro ts p rfl
          exact c1 rfl

/-! ### the whole -/
theorem dS_ok (C : Cond X Γ cl E N sc (fun _ => true) k) (ek : ExcK X Γ cl) (hp : PassesOwn (model X.prog X.w) X.A X.env X.xe) : ∀ n, (∀ s, PS X s (lS X.K cl E (dS Γ N sc n s))) ∧ (∀ ss, PSs X ss (lS X.K cl E (dB Γ N sc n ss)))
  | 0 => ⟨fun s => by unfold dS; exact ps_bad, fun ss => by unfold dB; exact ⟨fun _ _ _ _ _ _ ⟨_, _, _, _, _, h⟩ => h.elim⟩⟩
  | n + 1 => by
    obtain ⟨hS, hB⟩ := dS_ok C ek hp n
    have fE := (dE_ok (Γ := Γ) (cl := cl) (N := N) (k := k) n).1 X E sc _ C
    have fT := (dE_ok (Γ := Γ) (cl := cl) (N := N) (k := k) n).2 X E sc _ C
    have hN : X.N.Nodup := by rw [C.eN]; exact C.nd
    have u := C.u
    have gT := fun t => dTgt_ok C (ow := none) fE n t
    refine ⟨fun s => ?_, fun ss => ?_⟩
    · unfold dS
      split
      · exact dAsg_ok C
      · split
        · rename_i h
          split
          · split
            · rename_i x _ _ i hi
              split
              · rename_i hc
                rw [Bool.or_eq_true, decide_eq_true_eq, decide_eq_true_eq, ← C.eS] at hc
                exact s_aug hN (by rw [C.eN]; exact slot_ix hi) hc (fE _) (aug_ok h) (.inl (C.hfb _ rfl))
              · exact ps_bad
            · exact ps_bad
          · split
            · exact ps_bad
            · rename_i o i _ hs
              refine s_augS (by omega) (fE _) (fE _) (fE _) (aug_ok h) fun a b c => ?_
              cases i <;> first | rfl | exact absurd rfl hs
          · exact ps_bad
        · exact ps_bad
      · split
        · exact s_ret (fE _)
        · exact s_retN
      · split
        · exact s_doc
        · split
          · exact ps_bad
          · rename_i h
            exact s_expr (fE _) (swaps_none (by simpa using h))
      · exact s_if (fT _) (hB _) (hB _)
      · split
        · exact s_while hp (fT _) (hB _)
        · exact ps_bad
      · split
        · split
          · exact ps_bad
          · rename_i h
            exact s_for hp C.calm (dIter_ok C fE _) (gT _) (hB _) (folded_ok (by simpa using h))
        · exact ps_bad
      · exact s_pass
      · exact s_break
      · exact s_cont
      · split
        · rename_i hg
          obtain ⟨g1, g2⟩ := glob_of C hg
          split
          · rename_i hx
            exact s_raise C.calm C.tk ek hx g1 g2
          · exact ps_bad
        · exact ps_bad
      · exact ps_bad
    · unfold dB
      split
      · rename_i e; cases e
      · exact s_nil
      · rename_i e; cases e; exact s_cons (hS _) (hB _)
end
end Mir
end

section
set_option Elab.async false
set_option linter.all false
set_option maxRecDepth 100000
set_option maxHeartbeats 4000000
/-! Mir13: defs are what they do. -/
namespace Mir
open PySem PySem.Spec L2

/-! ### no reference from n on; equality -/
mutual
def D.lt (n : Nat) : D → Bool
  | .tup xs => lts n xs
  | .lst xs => lts n xs
  | .ref m => Nat.blt m n
  | _ => true
def lts (n : Nat) : List D → Bool
  | [] => true
  | x :: xs => x.lt n && lts n xs
end
mutual
def D.same : D → D → Bool
  | .non, .non => true
  | .bl a, .bl b => a == b
  | .int a, .int b => a == b
  | .str a, .str b => decide (a = b)
  | .tup xs, .tup ys => sames xs ys
  | .lst xs, .lst ys => sames xs ys
  | .ref a, .ref b => a == b
  | .scr a, .scr b => a == b
  | _, _ => false
def sames : List D → List D → Bool
  | [], [] => true
  | x :: xs, y :: ys => x.same y && sames xs ys
  | _, _ => false
end
mutual
theorem D.same_ok : ∀ {a b : D}, a.same b = true → a = b
  | .non, b, h => by cases b <;> first | rfl | cases h
  | .bl _, b, h => by cases b <;> first | (simp [D.same] at h; rw [h]) | cases h
  | .int _, b, h => by cases b <;> first | (simp [D.same] at h; rw [h]) | cases h
  | .str _, b, h => by cases b <;> first | (simp [D.same] at h; rw [h]) | cases h
  | .tup xs, b, h => by
    cases b with
    | tup ys => unfold D.same at h; rw [sames_ok h]
    | _ => simp [D.same] at h
  | .lst xs, b, h => by
    cases b with
    | lst ys => unfold D.same at h; rw [sames_ok h]
    | _ => simp [D.same] at h
  | .ref _, b, h => by cases b <;> first | (simp [D.same] at h; rw [h]) | cases h
  | .scr _, b, h => by cases b <;> first | (simp [D.same] at h; rw [h]) | cases h
theorem sames_ok : ∀ {a b : List D}, sames a b = true → a = b
  | [], b, h => by cases b <;> first | rfl | cases h
  | x :: xs, b, h => by
    cases b with
    | nil => cases h
    | cons y ys =>
      unfold sames at h
      rw [Bool.and_eq_true] at h
      rw [D.same_ok h.1, sames_ok h.2]
end
mutual
theorem D.same_refl : ∀ a : D, a.same a = true
  | .non => by simp [D.same]
  | .bl _ => by simp [D.same]
  | .int _ => by simp [D.same]
  | .str _ => by simp [D.same]
  | .tup xs => by unfold D.same; exact sames_refl xs
  | .lst xs => by unfold D.same; exact sames_refl xs
  | .ref _ => by simp [D.same]
  | .scr _ => by simp [D.same]
theorem sames_refl : ∀ a : List D, sames a a = true
  | [] => by simp [sames]
  | x :: xs => by unfold sames; rw [D.same_refl x, sames_refl xs]; rfl
end
def kvLt (n : Nat) : List (D × D) → Bool
  | [] => true
  | p :: r => p.1.lt n && (p.2.lt n && kvLt n r)
def kvSame : List (D × D) → List (D × D) → Bool
  | [], [] => true
  | p :: r, q :: r' => p.1.same q.1 && (p.2.same q.2 && kvSame r r')
  | _, _ => false
def Ob.lt (n : Nat) : Ob → Bool
  | .lst xs => lts n xs
  | .dic _ kvs => kvLt n kvs
def Ob.same : Ob → Ob → Bool
  | .lst xs, .lst ys => sames xs ys
  | .dic t kvs, .dic t' kvs' => (t == t') && kvSame kvs kvs'
  | _, _ => false
theorem kvSame_ok : ∀ {a b : List (D × D)}, kvSame a b = true → a = b
  | [], b, h => by cases b <;> first | rfl | cases h
  | (x, y) :: xs, b, h => by
    cases b with
    | nil => cases h
    | cons q ys =>
      obtain ⟨u, v⟩ := q
      unfold kvSame at h
      rw [Bool.and_eq_true, Bool.and_eq_true] at h
      have h1 := D.same_ok h.1
      have h2 := D.same_ok h.2.1
      dsimp only at h1 h2
      rw [h1, h2, kvSame_ok h.2.2]
theorem kvSame_refl : ∀ a : List (D × D), kvSame a a = true
  | [] => rfl
  | x :: xs => by unfold kvSame; rw [D.same_refl, D.same_refl, kvSame_refl xs]; rfl
theorem Ob.same_ok {a b : Ob} (h : a.same b = true) : a = b := by
  cases a <;> cases b <;> first | cases h | skip
  · exact congrArg Ob.lst (sames_ok h)
  · unfold Ob.same at h
    rw [Bool.and_eq_true] at h
    have h1 := h.1
    simp at h1
    rw [h1, kvSame_ok h.2]
theorem Ob.same_refl : ∀ a : Ob, a.same a = true
  | .lst xs => sames_refl xs
  | .dic t kvs => by show ((t == t) && kvSame kvs kvs) = true; rw [kvSame_refl]; simp
/-- the old objects are as they were, or refer to old ones alone -/
def backOk (n : Nat) : Store → Store → Bool
  | [], _ => true
  | _ :: _, [] => false
  | o :: S, o' :: S' => (o'.lt n || o.same o') && backOk n S S'
theorem backOk_app {n : Nat} : ∀ (S T : Store), backOk n S (S ++ T) = true
  | [], _ => rfl
  | o :: S, T => by
    show ((o.lt n || o.same o) && backOk n S (S ++ T)) = true
    rw [Ob.same_refl, backOk_app S T, Bool.or_true]; rfl
theorem backOk_get {n : Nat} : ∀ {S S' : Store} {i : Nat} {o' : Ob}, backOk n S S' = true → i < S.length → S'[i]? = some o' → (∃ o, S[i]? = some o ∧ o = o') ∨ o'.lt n = true
  | [], _, _, _, _, h, _ => by simp at h
  | _ :: _, [], _, _, h, _, _ => by cases h
  | o :: S, p :: S', i, o', h, hi, e => by
    unfold backOk at h
    rw [Bool.and_eq_true, Bool.or_eq_true] at h
    cases i with
    | zero =>
      simp at e
      subst e
      rcases h.1 with h | h
      · exact .inr h
      · exact .inl ⟨o, rfl, Ob.same_ok h⟩
    | succ i => exact backOk_get (i := i) h.2 (by simpa using hi) (by simpa using e)
theorem backOk_len {n : Nat} : ∀ {S S' : Store}, backOk n S S' = true → S.length ≤ S'.length
  | [], _, _ => Nat.zero_le _
  | _ :: _, [], h => by cases h
  | o :: S, p :: S', h => by
    unfold backOk at h
    rw [Bool.and_eq_true] at h
    simp only [List.length_cons]
    exact Nat.succ_le_succ (backOk_len h.2)
/-- what is told to the caller -/
def outD (n : Nat) (S' : Store) (d : D) : Option D := match d with
  | .ref m => if Nat.blt m n then some (.ref m) else (match S'[m]? with
    | some (.lst xs) => if lts n xs then some (.lst xs) else none
    | _ => none)
  | d => if d.lt n then some d else none
def finish (keep : Bool) (S : Store) : Fl → Out D
  | .rt d S' => if keep then .ok d S' else if backOk S.length S S' then (match outD S.length S' d with
    | some d' => .ok d' (S'.take S.length)
    | none => .bad) else .bad
  | .nx _ S' => if keep then .ok .non S' else if backOk S.length S S' then .ok .non (S'.take S.length) else .bad
  | .ex c S' => if keep then .ex c S' else if backOk S.length S S' then .ex c (S'.take S.length) else .bad
  | _ => .bad
section
variable {K : PySem.W.Frag} {ρ ρ' : Rho} {H H' : Hp}
mutual
theorem RD.lt : ∀ {d : D} {v : V}, RD K ρ H d v → d.lt ρ.l.length = true
  | .non, _, _ => by simp [D.lt]
  | .bl _, _, _ => by simp [D.lt]
  | .int _, _, _ => by simp [D.lt]
  | .str _, _, _ => by simp [D.lt]
  | .tup ds, v, h => by
    unfold RD at h
    obtain ⟨a, vs, e, h1, h2⟩ := h
    unfold D.lt
    exact RDs.lt h2
  | .lst ds, v, h => by
    unfold RD at h
    obtain ⟨a, vs, e, h1, h2⟩ := h
    unfold D.lt
    exact RDs.lt h2
  | .ref n, v, h => by
    unfold RD at h
    obtain ⟨a, e, h1⟩ := h
    unfold D.lt
    have := (List.getElem?_eq_some_iff.mp h1).1
    simpa [Nat.blt_eq] using this
  | .scr ns, v, _ => by simp [D.lt]
theorem RDs.lt : ∀ {ds : List D} {vs : List V}, RDs K ρ H ds vs → lts ρ.l.length ds = true
  | [], _, _ => by simp [lts]
  | d :: ds, vs, h => by
    unfold RDs at h
    obtain ⟨v, r, e, h1, h2⟩ := h
    unfold lts
    rw [RD.lt h1, RDs.lt h2]; rfl
end
/-- the places from n on are let go -/
def Rho.cut (ρ : Rho) (n : Nat) : Rho := ⟨ρ.l.take n, ρ.h, ρ.t⟩
theorem cut_notin {n : Nat} {a : Addr} (h : a ∉ ρ.all) : a ∉ (ρ.cut n).all := by
  intro z
  rcases List.mem_append.mp z with z | z
  · exact h (List.mem_append_left _ (List.mem_of_mem_take z))
  · exact h (List.mem_append_right _ z)
mutual
theorem RD.cut {n : Nat} : ∀ {d : D} {v : V}, RD K ρ H d v → d.lt n = true → RD K (ρ.cut n) H d v
  | .non, _, h, _ => h
  | .bl _, _, h, _ => h
  | .int _, _, h, _ => h
  | .str _, _, h, _ => h
  | .tup ds, v, h, l => by
    unfold RD at h ⊢
    unfold D.lt at l
    obtain ⟨a, vs, e, h1, h2⟩ := h
    exact ⟨a, vs, e, ⟨h1.1, cut_notin h1.2⟩, RDs.cut h2 l⟩
  | .lst ds, v, h, l => by
    unfold RD at h ⊢
    unfold D.lt at l
    obtain ⟨a, vs, e, h1, h2⟩ := h
    exact ⟨a, vs, e, ⟨h1.1, cut_notin h1.2⟩, RDs.cut h2 l⟩
  | .ref m, v, h, l => by
    unfold RD at h ⊢
    unfold D.lt at l
    obtain ⟨a, e, h1⟩ := h
    refine ⟨a, e, ?_⟩
    have l : m < n := by simpa [Nat.blt_eq] using l
    show (ρ.l.take n)[m]? = _
    rw [List.getElem?_take, if_pos l]
    exact h1
  | .scr ns, v, h, _ => by
    unfold RD at h ⊢
    obtain ⟨a, e, h1⟩ := h
    exact ⟨a, e, h1.imp (fun ⟨o, h1, h2⟩ => ⟨o, h1, cut_notin h2⟩) id⟩
theorem RDs.cut {n : Nat} : ∀ {ds : List D} {vs : List V}, RDs K ρ H ds vs → lts n ds = true → RDs K (ρ.cut n) H ds vs
  | [], _, h, _ => h
  | d :: ds, vs, h, l => by
    unfold RDs at h ⊢
    unfold lts at l
    rw [Bool.and_eq_true] at l
    obtain ⟨v, r, e, h1, h2⟩ := h
    exact ⟨v, r, e, RD.cut h1 l.1, RDs.cut h2 l.2⟩
end
theorem RKV.lt {κ : Type} {kf : D → Option κ} (hk : ∀ d k, kf d = some k → ∀ n, d.lt n = true) {kvs : List (D × D)} {es : List (κ × V)} (h : RKV K ρ H kf kvs es) : kvLt ρ.l.length kvs = true := by
  induction h with
  | nil => rfl
  | cons a t ih =>
    unfold kvLt
    rw [hk _ _ a.1, a.2.lt, ih]; rfl
theorem RKV.cut {κ : Type} {kf : D → Option κ} {n : Nat} {kvs : List (D × D)} {es : List (κ × V)} (h : RKV K ρ H kf kvs es) : kvLt n kvs = true → RKV K (ρ.cut n) H kf kvs es := by
  induction h with
  | nil => exact fun _ => .nil
  | cons a t ih =>
    intro l
    unfold kvLt at l
    rw [Bool.and_eq_true, Bool.and_eq_true] at l
    exact .cons ⟨a.1, a.2.cut l.2.1⟩ (ih l.2.2)
theorem keyD_lt (d : D) (k : Key) (h : keyD d = some k) (n : Nat) : d.lt n = true := by
  cases d <;> first | (simp [D.lt]; done) | (cases h; done)
theorem keysD_lt : ∀ {ds : List D} {ks : List Key}, ds.mapM keyD = some ks → ∀ n, lts n ds = true
  | [], _, _, _ => by simp [lts]
  | d :: ds, ks, h, n => by
    rw [List.mapM_cons] at h
    cases h1 : keyD d with
    | none => rw [h1] at h; cases h
    | some k =>
      rw [h1] at h
      cases h2 : ds.mapM keyD with
      | none => simp [h2] at h
      | some r =>
        unfold lts
        rw [keyD_lt d k h1, keysD_lt h2]; rfl
theorem keyT_lt (d : D) (k : List Key) (h : keyT d = some k) (n : Nat) : d.lt n = true := by
  cases d with
  | tup xs => unfold D.lt; exact keysD_lt h n
  | _ => cases h
theorem ROb.lt {o : Ob} {h : HO} (r : ROb K ρ H o h) : o.lt ρ.l.length = true := by
  cases o with
  | lst ds => obtain ⟨vs, e, r⟩ := r; exact RDs.lt r
  | dic t kvs =>
    cases t with
    | false => obtain ⟨es, e, r⟩ := r; exact RKV.lt keyD_lt r
    | true => obtain ⟨es, e, r⟩ := r; exact RKV.lt keyT_lt r
theorem ROb.cut {n : Nat} {o : Ob} {h : HO} (r : ROb K ρ H o h) (l : o.lt n = true) : ROb K (ρ.cut n) H o h := by
  cases o with
  | lst ds => obtain ⟨vs, e, r⟩ := r; exact ⟨vs, e, RDs.cut r l⟩
  | dic t kvs =>
    cases t with
    | false => obtain ⟨es, e, r⟩ := r; exact ⟨es, e, RKV.cut r l⟩
    | true => obtain ⟨es, e, r⟩ := r; exact ⟨es, e, RKV.cut r l⟩
theorem Grow.cut (g : Grow ρ H ρ' H') : Grow ρ H (ρ'.cut ρ.l.length) H' := by
  obtain ⟨t, e, _⟩ := g.pre
  refine ⟨⟨[], ?_, by simp⟩, g.hid, g.tb, g.fr, g.dom⟩
  show ρ'.l.take ρ.l.length = ρ.l ++ []
  rw [e, List.take_left, List.append_nil]
theorem RelS.cut {S S' : Store} (rs : RelS K ρ S H) (g : Grow ρ H ρ' H') (rs' : RelS K ρ' S' H') (b : backOk S.length S S' = true) : RelS K (ρ'.cut ρ.l.length) (S'.take S.length) H' := by
  have hl := rs.len
  have hl' := rs'.len
  have hb := backOk_len b
  refine ⟨?_, ?_, rs'.tab, rs'.told, fun a ha => ?_, fun n a o h1 h2 => ?_⟩
  · show (ρ'.l.take ρ.l.length).length = (S'.take S.length).length
    rw [List.length_take, List.length_take, hl, hl']
  · exact List.Nodup.sublist (List.take_sublist _ _) rs'.nd
  · obtain ⟨n, o, e⟩ := rs'.hid a ha
    exact ⟨fun z => n (List.mem_of_mem_take z), o, e⟩
  · have h1 : (ρ'.l.take ρ.l.length)[n]? = some a := h1
    rw [List.getElem?_take] at h1 h2
    split at h1
    · rename_i hn
      rw [if_pos (by rw [← hl]; exact hn)] at h2
      obtain ⟨u, e, q⟩ := rs'.ob n a o h1 h2
      refine ⟨u, e, q.cut ?_⟩
      rw [hl]
      rcases backOk_get b (by rw [← hl]; exact hn) h2 with ⟨o', e', rfl⟩ | l
      · obtain ⟨u', _, q'⟩ := rs.ob n ρ.l[n] o' (List.getElem?_eq_getElem hn) e'
        rw [← hl]
        exact q'.lt
      · exact l
    · cases h1
theorem finish_ok {cl : Nat → Addr} {E : XK} {Q : VK} {keep : Bool} {S : Store} {f : Fl} (rs : RelS K ρ S H) (h : OKo K cl E ρ H (RD K) Q (finish keep S f)) : FOK K cl E ρ H { nx := fun _ H' => Q .non H', rt := Q } f := by
  have hl := rs.len
  cases f with
  | bad => exact h
  | bk _ _ => exact (show False from h).elim
  | ct _ _ => exact (show False from h).elim
  | ex c S' =>
    intro ρ' H' g rs'
    unfold finish at h
    dsimp only at h
    split at h
    · exact h ρ' H' g rs'
    · split at h
      · rename_i b
        exact h _ H' g.cut (rs.cut g rs' b)
      · exact h.elim
  | nx e S' =>
    intro ρ' H' σ' g rs' re z
    unfold finish at h
    dsimp only at h
    split at h
    · exact h ρ' H' _ g rs' RD.non z
    · split at h
      · rename_i b
        exact h _ H' _ g.cut (rs.cut g rs' b) RD.non z
      · exact h.elim
  | rt d S' =>
    intro ρ' H' v g rs' rd z
    unfold finish at h
    dsimp only at h
    split at h
    · exact h ρ' H' _ g rs' rd z
    · split at h
      · rename_i b
        split at h
        · rename_i d' hd
          refine h _ H' _ g.cut (rs.cut g rs' b) ?_ z
          unfold outD at hd
          split at hd
          · rename_i m
            split at hd
            · rename_i hm
              cases hd
              refine rd.cut ?_
              unfold D.lt
              rw [hl]; exact hm
            · rename_i hm
              split at hd
              · rename_i xs hS
                split at hd
                · rename_i hx
                  cases hd
                  rw [← hl] at hx
                  unfold RD at rd ⊢
                  obtain ⟨a, rfl, ha⟩ := rd
                  obtain ⟨u, e, vs, rfl, q⟩ := rs'.ob m a _ ha hS
                  refine ⟨a, vs, rfl, ⟨e, fun y => ?_⟩, RDs.cut q hx⟩
                  rcases List.mem_append.mp y with y | y
                  · have y : a ∈ ρ'.l.take ρ.l.length := y
                    obtain ⟨j, hj, ej⟩ := List.getElem_of_mem y
                    rw [List.getElem_take] at ej
                    have hj1 : j < ρ.l.length := by rw [List.length_take] at hj; omega
                    have hj2 : j < ρ'.l.length := by rw [List.length_take] at hj; omega
                    have e1 : ρ'.l[j]? = some a := by rw [List.getElem?_eq_getElem hj2, ej]
                    have hjm : j = m := (List.getElem?_inj hj2 rs'.nd).mp (e1.trans ha.symm)
                    apply hm
                    rw [← hl, ← hjm]
                    simpa [Nat.blt_eq] using hj1
                  · exact (rs'.hid a y).1 (List.mem_of_getElem? ha)
                · cases hd
              · cases hd
          · split at hd
            · rename_i hx
              cases hd
              rw [← hl] at hx
              exact rd.cut hx
            · cases hd
        · exact h.elim
      · exact h.elim
end

/-! ### defs -/
structure DefT where
  name : Str
  ps : List Str
  N : List Str
  keep : Bool
  scope : Scope
  params : Arguments
  body : List Stmt
  fuel : Nat
def dF (Γ : Gx) (d : DefT) : FSem := fun args S =>
  if args.length = d.ps.length then finish d.keep S (dB Γ d.N d.scope d.fuel d.body (args.map some ++ List.replicate (d.N.length - args.length) none) S) else .bad
/-- a def of a body -/
def fF (np nN : Nat) (keep : Bool) (b : SS) : FSem := fun args S => if args.length = np then finish keep S (b (args.map some ++ List.replicate (nN - args.length) none) S) else .bad
theorem start_rel {K : PySem.W.Frag} {ρ : Rho} {H : Hp} : ∀ {ds : List D} {vs : List V}, RDs K ρ H ds vs → ∀ n : Nat, RelE K ρ H (ds.map some ++ List.replicate n none) (vs.map some ++ List.replicate n none) := by
  intro ds vs h n
  have hl := h.length
  refine ⟨by simp [hl], fun i d e => ?_⟩
  by_cases hi : i < ds.length
  · rw [List.getElem?_append_left (by simpa using hi)] at e
    rw [List.getElem?_append_left (by simpa [← hl] using hi)]
    rw [List.getElem?_map] at e ⊢
    cases q : ds[i]? with
    | none => rw [q] at e; cases e
    | some x =>
      rw [q] at e
      cases e
      obtain ⟨v, e1, r⟩ := h.get q
      exact ⟨v, by rw [e1]; rfl, r⟩
  · rw [List.getElem?_append_right (by simpa using hi), List.getElem?_replicate] at e
    split at e <;> cases e
/-- what the text's top promises -/
structure Top (P : Program) (w : World) (K : PySem.W.Frag) (mg : Str → Option Value) (base : Heap) (cl : Nat → Addr) (Γ : Gx) : Prop where
  nums : ∀ x i, Γ.nums.lookup x = some i → ∃ t, mg x = some (.int i t)
  free : ∀ x ∈ bltNames, mg x = none
  ex : ∀ x c, Γ.exc.lookup x = some c → PySem.W.excIn K (cl c) He.veBase "ValueError.__new__" = true ∧ mg x = some (.ref (cl c)) ∧ PySem.W.keepIn K (.ref (cl c)) = true ∧ PySem.W.subIn K (.ref (cl c)) (.type "BaseException") = some true ∧ PySem.W.typeIn K (.ref (cl c)) = some (.type "type")
/-- what a def's lambdas lean on -/
structure LamD (P : Program) (w : World) (K : PySem.W.Frag) (mg : Str → Option Value) (base : Heap) (cl : Nat → Addr) (Γ : Gx) (N : List Str) (k : Nat) (x : Str) (np : Nat) (kd : LK) (fd : FuncData) (qual : Str) : Prop where
  here : ∃ c T, fd.code = .ref c ∧ LamX.TabB base mg c T ∧ (T, qual ++ ".<locals>." ++ "<lambda>") ∈ tabsK K ∧ ∀ p ∈ tabsK K, p.1 = T → p.2 = qual ++ ".<locals>." ++ "<lambda>"
  ex : ∃ j, LamCal P w K mg base cl j k x np kd ∧ (∀ y f, Γ.fns.lookup y = some f → Cal P w K mg base cl j y f) ∧
    ∀ (X' : Cx) (E' : XK) (sc' : Scope), Cond0 X' Γ cl E' N sc' (fun _ => false) j → ∀ e, PE X' e (lE X'.K cl E' (Γ.lb sc' e))
theorem fn_ok {P : Program} {w : World} {K : PySem.W.Frag} {mg : Str → Option Value} {base : Heap} {cl : Nat → Addr} {Γ : Gx} {k : Nat} {d : DefT} {qual : Str} {f : Addr} {fd : FuncData} (T : Top P w K mg base cl Γ) (hf : ∀ x f, Γ.fns.lookup x = some f → Cal P w K mg base cl k x f)
    (F : FunD K d.name qual d.params d.body d.scope [] [] f fd) (S : FnScope d.N d.ps d.scope) (hL : ∀ x np kd, Γ.lam.lookup x = some (np, kd) → LamD P w K mg base cl Γ d.N k x np kd fd qual) : FnG P w K mg base (k + 1) f fd d.ps (spM K cl (dF Γ d)) := by
  obtain ⟨oc, od, dV, kV, doc, pm, an, cdv, ct, osl, rfl, lk, hcd, _, _⟩ := F.ex
  have many : ∀ vs H Q E, spM K cl (dF Γ d) vs H Q E → vs.length = d.ps.length := fun vs H Q E h => by
    obtain ⟨ρ, St, ds, rs, rd, h⟩ := h
    unfold dF at h
    split at h
    · rename_i hl
      rw [← hl, rd.length]
    · exact h.elim
  refine ⟨many, fun A outer s H args us vs Q E hr hgd e0 hbt hv h => ?_⟩
  refine LamX.run_ofS lk hcd S hr e0 hbt hv (many _ _ _ _ h) fun hr' => ⟨_, (dS_ok (k := k) (N := d.N) (sc := d.scope) (E := E) (cl := cl) (Γ := Γ) ⟨⟨rfl, S.nd, rfl, rfl, hr', hgd, takes_of rfl rfl rfl rfl, hf, T.nums, T.free, fun _ _ => rfl⟩, fun x np kd h => ⟨⟨(hL x np kd h).here⟩, (hL x np kd h).ex⟩⟩ ⟨T.ex⟩ (passes_of rfl) d.fuel).2 d.body, ?_⟩
  obtain ⟨ρ, St, ds, rs, rd, h⟩ := h
  unfold dF at h
  split at h
  · rename_i hl
    have hl2 := rd.length
    refine ⟨ρ, _, St, rs, ?_, finish_ok rs h⟩
    unfold L2.start
    rw [← hl2]
    exact start_rel rd _
  · exact h.elim
/-- a def of which nothing is told -/
theorem fn_bad {P : Program} {w : World} {K : PySem.W.Frag} {mg : Str → Option Value} {base : Heap} {cl : Nat → Addr} {k : Nat} {f : Addr} {fd : FuncData} {ps : List Str} : FnG P w K mg base k f fd ps (spM K cl fun _ _ => .bad) :=
  ⟨fun _ _ _ _ h => by obtain ⟨_, _, _, _, _, h⟩ := h; exact h.elim, fun _ _ _ _ _ _ _ _ _ _ _ _ _ _ h => by obtain ⟨_, _, _, _, _, h⟩ := h; exact h.elim⟩
end Mir
end

section
set_option Elab.async false
set_option linter.all false
set_option maxRecDepth 100000
set_option maxHeartbeats 4000000
/-! Mir14: the end of a law: the script handed to the law's def. -/
namespace Mir
open PySem PySem.Spec PyProof.Rows L2
/-- what is tracked at the law's call: the tables, the script where it is no object of the written part -/
def hp0 (T : List Addr) (scr : Option (Addr × HO)) : Hp := fun b => if b ∈ T then some (.tbl #[]) else match scr with
  | some (a, o) => if b = a then some o else none
  | none => none
theorem hp0_tab {T : List Addr} {scr : Option (Addr × HO)} {b : Addr} (h : b ∈ T) : hp0 T scr b = some (.tbl #[]) := if_pos h
theorem hp0_scr {T : List Addr} {a : Addr} {o : HO} (h : a ∉ T) : hp0 T (some (a, o)) a = some o := by
  unfold hp0
  rw [if_neg h]
  exact if_pos rfl
theorem hp0_some {T : List Addr} {scr : Option (Addr × HO)} {b : Addr} {u : HO} (h : hp0 T scr b = some u) : (b ∈ T ∧ u = .tbl #[]) ∨ (b ∉ T ∧ scr = some (b, u)) := by
  unfold hp0 at h
  by_cases hb : b ∈ T
  · rw [if_pos hb] at h
    cases h
    exact .inl ⟨hb, rfl⟩
  · rw [if_neg hb] at h
    cases scr with
    | none => cases h
    | some p =>
      obtain ⟨a, o⟩ := p
      dsimp only at h
      by_cases e : b = a
      · rw [if_pos e] at h
        cases h
        subst e
        exact .inr ⟨hb, rfl⟩
      · rw [if_neg e] at h
        cases h
section
variable {P : Program} {w : World} {K : PySem.W.Frag} {mg mb : Str → Option Value} {k : Nat} {fa a : Addr} {cs : List (Addr × Addr)} {fd : FuncData} {x : Str} {sp : Sp} {s : Shared} {vs : List Value} {ns : List Int}
/-- what the end leans on -/
structure AtLaw (w : World) (K : PySem.W.Frag) (mg mb : Str → Option Value) (cs : List (Addr × Addr)) (s : Shared) (a : Addr) (vs : List Value) (ns : List Int) : Prop where
  kin : K.In s.heap
  gl : s.heap.Ns mainGlobals mg
  bl : s.heap.Ns builtinsNs mb
  bb : ∀ x : Str, x ≠ "__name__" → mb x = bootBuiltins x
  lim : s.heap.NoLimit
  gen : s.gens = #[]
  tab : ∀ p ∈ cs, s.heap.get? p.2 = some { cls := .none, data := .fields #[] }
  tabK : ∀ p ∈ cs, K.lookup p.2 = none
  code : ∀ p ∈ cs, PySem.W.CodeHd s.heap p.1 p.2
  bm : ∃ (m : Addr) (o : Obj), mg "__builtins__" = some (.ref m) ∧ m ≠ builtinsNs ∧ s.heap.get? m = some o ∧ o.cls = .type "module" ∧ o.dict = some builtinsNs ∧ o.data = .plain
  scr : s.heap.get? a = some { cls := .type "list", data := .seq vs.toArray }
  nums : IntsAre vs ns
  few : ns.length ≤ sizeLine
theorem AtLaw.notab (L : AtLaw w K mg mb cs s a vs ns) : a ∉ cs.map (·.2) := by
  intro z
  obtain ⟨p, hp, e⟩ := List.mem_map.mp z
  have q := L.tab p hp
  rw [e, L.scr] at q
  cases q
/-- which of the two: tracked or written -/
def AtLaw.which (K : PySem.W.Frag) (a : Addr) (vs : List Value) (ns : List Int) : Option (Addr × HO) := match K.lookup a with
  | some _ => none
  | none => some (a, .frz { cls := .type "list", data := .seq vs.toArray } (.lst (ns.map V.int)))
theorem AtLaw.core (L : AtLaw w K mg mb cs s a vs ns) (hr : Room k callerA)
    (F : ∀ base : Heap, K.In base → base.Ns mainGlobals mg → (∀ p ∈ cs, LamX.TabB base mg p.1 p.2) → FnG P w K mg base k fa fd [x] sp) (bind : ∀ (s : Shared) (u : Value), BindsTo s fd ⟨[u], []⟩ [(x, u)])
    (hsp : ∀ H : Hp, (∀ p ∈ cs, H p.2 = some (.tbl #[])) → (∀ b ps, H b = some (.tbl ps) → b ∈ cs.map (·.2)) → ((∃ o, H a = some (.frz o (.lst (ns.map V.int)))) ∨ InK K a (ns.map V.int)) → sp [.ref a] H (fun v _ => v = .bl true) fun _ _ _ => False) :
    codeAny (model P w) callerA (.call (.ref fa) ⟨[.ref a], []⟩) (fun r s' => r = .ok (.ret (.bool true)) ∧ OldK s.heap s'.heap ∧ s'.os = s.os ∧ AllBare s'.gens) s := by
  have rel := vals_ints L.nums
  have lenV := L.nums.length
  have aT := L.notab
  generalize hH : hp0 (cs.map (·.2)) (AtLaw.which K a vs ns) = H
  have tabs : ∀ p ∈ cs, H p.2 = some (.tbl #[]) := fun p hp => by
    rw [← hH]
    exact hp0_tab (List.mem_map.mpr ⟨p, hp, rfl⟩)
  have told : ∀ b u, H b = some u → (b ∈ cs.map (·.2) ∧ u = .tbl #[]) ∨ (b = a ∧ u = .frz { cls := .type "list", data := .seq vs.toArray } (.lst (ns.map V.int)) ∧ K.lookup a = none) := fun b u e => by
    rw [← hH] at e
    rcases hp0_some e with z | ⟨_, z⟩
    · exact .inl z
    · unfold AtLaw.which at z
      split at z
      · cases z
      · rename_i hk
        cases z
        exact .inr ⟨rfl, rfl, hk⟩
  have isT : ∀ b, b ∈ cs.map (·.2) → s.heap.get? b = some { cls := .none, data := .fields #[] } ∧ K.lookup b = none := fun b hb => by
    obtain ⟨p, hp, rfl⟩ := List.mem_map.mp hb
    exact ⟨L.tab p hp, L.tabK p hp⟩
  have scr : (∃ o, H a = some (.frz o (.lst (ns.map V.int)))) ∨ InK K a (ns.map V.int) := by
    cases hk : K.lookup a with
    | none =>
      refine .inl ⟨{ cls := .type "list", data := .seq vs.toArray }, ?_⟩
      rw [← hH]
      have e : AtLaw.which K a vs ns = some (a, .frz { cls := .type "list", data := .seq vs.toArray } (.lst (ns.map V.int))) := by
        unfold AtLaw.which
        rw [hk]
      rw [e]
      exact hp0_scr aT
    | some o =>
      have e := L.kin a o hk
      rw [L.scr] at e
      cases e
      exact .inr ⟨_, vs.toArray, _, hk, rfl, rfl, rfl, by rw [List.size_toArray, lenV]; exact L.few, by simpa using rel⟩
  have hok : HOk P w H s.heap := fun b u e => by
    rcases told b u e with ⟨h1, rfl⟩ | ⟨rfl, rfl, _⟩
    · exact (isT b h1).1
    · exact ⟨L.scr, by rw [List.length_map]; exact L.few, vs, _, rel, L.scr⟩
  -- what stays in sight
  have seen : ∀ b o, s.heap.get? b = some o → (∀ vs n, o.data ≠ .seq vs n) → o.data ≠ .fields #[] → (hidT s.heap H).get? b = some o := fun b o e h1 h2 => by
    refine hidT_get e ?_
    cases q : H b with
    | none => rfl
    | some u =>
      rcases told b u q with ⟨z, _⟩ | ⟨z, _⟩
      · rw [(isT b z).1] at e; cases e; exact absurd rfl h2
      · rw [z, L.scr] at e; cases e; exact absurd rfl (h1 _ _)
  have kin : K.In (hidT s.heap H) := fun b o e => by
    refine hidT_get (L.kin b o e) ?_
    cases q : H b with
    | none => rfl
    | some u =>
      rcases told b u q with ⟨z, _⟩ | ⟨z, _, hk⟩
      · rw [(isT b z).2] at e; cases e
      · rw [z, hk] at e; cases e
  have nsS : ∀ {b : Addr} {m : Str → Option Value}, s.heap.Ns b m → (hidT s.heap H).Ns b m := fun {b m} ⟨o, es, ep, e, d, r⟩ =>
    ⟨o, es, ep, seen b o e (fun _ _ z => by rw [d] at z; cases z) (fun z => by rw [d] at z; cases z), d, r⟩
  have mod : L2.Mod K mg (hidT s.heap H) := by
    obtain ⟨mc, l1, l2⟩ := L.lim
    exact ⟨kin, nsS L.gl, ⟨mb, nsS L.bl, L.bb⟩, ⟨mc, nsS l1, l2⟩⟩
  have tb : ∀ p ∈ cs, LamX.TabB (hidT s.heap H) mg p.1 p.2 := fun p hp => by
    refine ⟨?_, ?_, fun z => ?_⟩
    · obtain ⟨o, us, file, tf, flags, tg, inF, text, tt, e1, r1, r2, r3, r⟩ := L.code p hp
      refine ⟨o, us, file, tf, flags, tg, inF, text, tt, seen _ o e1 (fun _ _ z => by rw [r2] at z; cases z) (fun z => ?_), r1, r2, r3, r⟩
      rw [r2] at z
      cases z
      simp at r3
    · obtain ⟨m, o, b1, b2, b3, b4, b5, b6⟩ := L.bm
      have g1 : m ≠ mainGlobals := fun q => by
        obtain ⟨o', es, ep, e, hd, _⟩ := L.gl
        rw [q, e] at b3
        cases b3
        rw [hd] at b6
        cases b6
      have g2 : m ≠ p.2 := fun q => by
        rw [q, L.tab p hp] at b3
        cases b3
        cases b6
      exact ⟨m, o, b1, b2, g1, g2, seen m o b3 (fun _ _ z => by rw [b6] at z; cases z) (fun z => by rw [b6] at z; cases z), b4, b5, b6⟩
    · obtain ⟨o, es, ep, e, hd, _⟩ := L.gl
      rw [z, L.tab p hp] at e
      cases e
      cases hd
  have e0 : Env0 P w K mg (hidT s.heap H) callerA [] s H := ⟨rfl, mod, fun b o e => of_hidT e, Nat.le_of_eq (hidT_size _ _), trivial, fun b hb => absurd (show b ∈ ([] : List Addr) from hb) (by simp), hok, .of_eq L.gen⟩
  refine codeAny_mono ((F _ kin (nsS L.gl) tb).does callerA [] s H ⟨[.ref a], []⟩ [.ref a] [.ref a] _ _ hr rfl e0 (bind s (.ref a)) (.cons rfl .nil) (hsp H tabs (fun b ps e => (told b _ e).elim (fun z => z.1) fun z => by cases z.2.1) scr)) fun r s2 h => ?_
  cases r with
  | error e =>
    obtain ⟨_, _, _, _, _, _, _, _, _, _, _, _, z⟩ := (show L2.CX P w [] H s (fun _ _ _ => False) e s2 from h)
    exact z.elim
  | ok fl =>
    cases fl with
    | next => exact False.elim h
    | brk => exact False.elim h
    | cont => exact False.elim h
    | ret u =>
      obtain ⟨v, H2, os, bare, un, ok2, ru, q⟩ := h
      cases (show v = .bl true from q)
      cases (show u = Value.bool true from ru)
      have kept : ∀ b o, b ∉ cs.map (·.2) → s.heap.get? b = some o → s2.heap.get? b = some o := fun b o nb e => by
        cases z : H b with
        | none => exact un.keep b o e z (fun y => absurd (show b ∈ ([] : List Addr) from y) (by simp)) (by simp)
        | some u =>
          rcases told b u z with ⟨y, _⟩ | ⟨rfl, rfl, _⟩
          · exact absurd y nb
          · have e2 := (ok2 b _ (un.frzs b _ _ z)).1
            rw [L.scr] at e
            cases e
            exact e2
      have grown : ∀ p ∈ cs, ∃ more : Array Value, s2.heap.get? p.2 = some { cls := .none, data := .fields more } := fun p hp => by
        obtain ⟨more, z⟩ := un.tbls p.2 #[] (tabs p hp)
        exact ⟨_, ok2 p.2 _ z⟩
      refine ⟨rfl, ⟨fun b o e => ?_, fun b o e => ?_⟩, os, bare⟩
      · by_cases hb : b ∈ cs.map (·.2)
        · obtain ⟨p, hp, rfl⟩ := List.mem_map.mp hb
          obtain ⟨more, hm⟩ := grown p hp
          rw [L.tab p hp] at e
          cases e
          exact .inr (.inl ⟨((L.code p hp).tab (L.tab p hp)).isCodeTable, rfl, #[], more, rfl, by rw [Array.empty_append]; exact hm⟩)
        · exact .inl (kept b o hb e)
      · by_cases hb : b ∈ cs.map (·.2)
        · obtain ⟨p, hp, rfl⟩ := List.mem_map.mp hb
          obtain ⟨more, hm⟩ := grown p hp
          exact ⟨_, hm⟩
        · exact ⟨o, kept b o hb e⟩
end
end Mir
namespace Mir
open PySem PySem.Spec PyProof.Rows L2
/-- what a law's text gives at the heap h behind its top -/
structure LawText (P : Program) (w : World) (mg : Str → Option Value) (fa : Addr) (h : Heap) (k n : Nat) (x : Str) : Prop where
  ex : ∃ (K : PySem.W.Frag) (fd : FuncData) (cs : List (Addr × Addr)) (cl : Nat → Addr) (f : FSem), K.In h ∧ (∀ p ∈ cs, h.get? p.2 = some { cls := .none, data := .fields #[] }) ∧ (∀ p ∈ cs, K.lookup p.2 = none) ∧ (∀ p ∈ cs, PySem.W.CodeHd h p.1 p.2) ∧
    (∀ p ∈ tabsK K, ∃ c, (c, p.1) ∈ cs) ∧ (∀ (s : Shared) (u : Value), BindsTo s fd ⟨[u], []⟩ [(x, u)]) ∧
    (∀ ns : List Int, ns.length ≤ n → (∀ z ∈ ns, Builtin.Int.intBits z ≤ 1048576) → ∃ S, f [.scr ns] [] = .ok (.bl true) S) ∧
    ∀ base : Heap, K.In base → base.Ns mainGlobals mg → (∀ p ∈ cs, LamX.TabB base mg p.1 p.2) → FnG P w K mg base k fa fd [x] (spM K cl f)
theorem walk_law {l : PySem.W.OpenLaw} {n k : Nat} {q : Program} {loose : List Str} {XP : (Str → Option Value) → Heap → Prop} {YP : World → Heap → Prop} {d : DefRec} {x : Str} (most : l.most = some n) (small : n ≤ sizeLine) (plain : d.params.defaults = []) (room : Room k callerA)
    (F : ∀ (w : World) (mg : Str → Option Value) (fa : Addr) (h : Heap), YP w h → h.Ns mainGlobals mg → mg d.name = some (.ref fa) → LawText l.prog w mg fa h k n x) : PySem.W.WalkO q loose XP YP l.row.toRowW d [] (fun f vs => PySem.call f vs) := by
  refine Att.attach_callB most plain fun w s₀ s mg mb fa o pm cd doc a vs ns G Y ho hd hcd hmg hobj hints hlen hbits hg => ?_
  obtain ⟨K, fd, cs, cl, f, kin, tab, tabK, code, hT, bind, hsem, hF⟩ := (F w mg fa _ Y G.T.g hmg).ex
  have L : AtLaw w K mg mb cs s a vs ns := ⟨kin, G.T.g, G.T.b, G.T.builtins, G.T.nolimit, hg, tab, tabK, code, G.T.bmain, hobj, hints, Nat.le_trans hlen small⟩
  refine L.core room hF bind fun H tabs only scr => ?_
  obtain ⟨S, e⟩ := hsem ns hlen hbits
  refine ⟨⟨[], [], tabsK K⟩, [], [.scr ns], ⟨rfl, List.nodup_nil, fun p hp => ?_, rfl, fun a ha => absurd (show a ∈ ([] : List Addr) from ha) (by simp), fun n a o h1 _ => ?_⟩, RDs.cons ?_ RDs.nil, ?_⟩
  · obtain ⟨c, hc⟩ := hT p hp
    exact LamX.TabS.nil (tabs _ hc)
  · have h1 : ([] : List Addr)[n]? = some a := h1
    simp at h1
  · unfold RD
    exact ⟨a, rfl, scr.imp (fun ⟨o, z⟩ => ⟨o, z, by simp [Rho.all]⟩) id⟩
  · rw [e]
    exact fun ρ' H' v g rs r z => r.ofBl
end Mir
end

section
set_option Elab.async false
set_option linter.all false
set_option maxRecDepth 100000
set_option maxHeartbeats 4000000
/-! Mir15: the defs of a text by the head's facts. -/
namespace Mir
open PySem PySem.Spec PyProof.Rows L2
/-- some of a list -/
def pick {α : Type} (l : List α) (is : List Nat) : List α := is.filterMap fun i => l[i]?
theorem pick_sub {α : Type} {l : List α} {is : List Nat} {x : α} (h : x ∈ pick l is) : x ∈ l := by
  unfold pick at h
  obtain ⟨i, _, e⟩ := List.mem_filterMap.mp h
  exact List.mem_of_getElem? e
theorem fact_in {fa : List He.Fa} {fn : List He.DefD} {K : PySem.W.Frag} (c : He.SaysD fa fn K) {f : He.Fa} (h : f ∈ fa) : f.ok K = true := by
  obtain ⟨i, hi⟩ := List.getElem?_of_mem h
  exact c.fact i hi
theorem mem_look {α : Type} {l : List (Str × α)} {x : Str} {a : α} (h : l.lookup x = some a) : (x, a) ∈ l := PySem.mem_of_lookup h
/-- the text's names -/
structure Names where
  nums : List (Str × Int)
  excs : List Str
  fns : List Str
def Names.fa (t : Names) : List He.Fa := t.fns.map He.Fa.glo ++ (bltNames.map He.Fa.free ++ (t.nums.map (fun p => He.Fa.int p.1 p.2) ++ (t.excs.map He.Fa.glo ++ t.excs.map He.Fa.exc)))
def Names.cl (t : Names) (K : PySem.W.Frag) : Nat → Addr := fun c => match t.excs[c]? with
  | some x => He.ga K x
  | none => 0
def Names.exl (t : Names) : List (Str × Nat) := t.excs.zipIdx
theorem top_ok {P : Program} {w : World} {K : PySem.W.Frag} {mg : Str → Option Value} {base h : Heap} {t : Names} {fn : List He.DefD} {fns : List (Str × FSem)} {ni ei : List Nat} {mt dt : Pos → Bool} {wf : Nat} {lam : List (Str × Nat × LK)} {lb : Scope → Expr → SE} (KX : K.In h) (G : h.Ns mainGlobals mg) (c : He.SaysD t.fa fn K) :
    Top P w K mg base (t.cl K) { fns := fns, nums := pick t.nums ni, exc := pick t.exl ei, mt := mt, dt := dt, wf := wf, lam := lam, lb := lb } := by
  refine ⟨fun x i hx => ?_, fun x hx => ?_, fun x n hx => ?_⟩
  · have m := pick_sub (mem_look hx)
    exact He.int_ok KX G (fact_in c (f := .int x i) (List.mem_append_right _ (List.mem_append_right _ (List.mem_append_left _ (List.mem_map.mpr ⟨(x, i), m, rfl⟩)))))
  · exact He.free_ok KX G (fact_in c (f := .free x) (List.mem_append_right _ (List.mem_append_left _ (List.mem_map.mpr ⟨x, hx, rfl⟩))))
  · have m := pick_sub (mem_look hx)
    have e : t.excs[n]? = some x := by
      have z := List.mem_zipIdx_iff_getElem?.mp m
      simpa using z
    have mx : x ∈ t.excs := List.mem_of_getElem? e
    have g := He.glo_ok KX G (fact_in c (f := .glo x) (List.mem_append_right _ (List.mem_append_right _ (List.mem_append_right _ (List.mem_append_left _ (List.mem_map.mpr ⟨x, mx, rfl⟩))))))
    have q := He.exc_ok (fact_in c (f := .exc x) (List.mem_append_right _ (List.mem_append_right _ (List.mem_append_right _ (List.mem_append_right _ (List.mem_map.mpr ⟨x, mx, rfl⟩))))))
    have ec : t.cl K n = He.ga K x := by
      unfold Names.cl
      rw [e]
    rw [ec]
    exact ⟨q.1, g, q.2.1, q.2.2.1, q.2.2.2⟩
/-- the callees -/
def CalL (P : Program) (w : World) (K : PySem.W.Frag) (mg : Str → Option Value) (base : Heap) (cl : Nat → Addr) (k : Nat) : List (Str × FSem) → Prop
  | [] => True
  | p :: r => Cal P w K mg base cl k p.1 p.2 ∧ CalL P w K mg base cl k r
theorem CalL.nil {P : Program} {w : World} {K : PySem.W.Frag} {mg : Str → Option Value} {base : Heap} {cl : Nat → Addr} {k : Nat} : CalL P w K mg base cl k [] := trivial
theorem CalL.cons {P : Program} {w : World} {K : PySem.W.Frag} {mg : Str → Option Value} {base : Heap} {cl : Nat → Addr} {k : Nat} {x : Str} {f : FSem} {r : List (Str × FSem)} (h : Cal P w K mg base cl k x f) (t : CalL P w K mg base cl k r) : CalL P w K mg base cl k ((x, f) :: r) := ⟨h, t⟩
theorem CalL.get {P : Program} {w : World} {K : PySem.W.Frag} {mg : Str → Option Value} {base : Heap} {cl : Nat → Addr} {k : Nat} : ∀ {l : List (Str × FSem)}, CalL P w K mg base cl k l → ∀ x f, l.lookup x = some f → Cal P w K mg base cl k x f
  | [], _, x, f, h => by cases h
  | (y, g) :: r, c, x, f, h => by
    unfold List.lookup at h
    split at h
    · rename_i e
      cases h
      have e : x = y := eq_of_beq e
      rw [e]
      exact c.1
    · exact CalL.get c.2 x f h
theorem dF_is {Γ : Gx} {d : DefT} {b : SS} (h : dB Γ d.N d.scope d.fuel d.body = b) : dF Γ d = fF d.ps.length d.N.length d.keep b := by
  subst h
  rfl
/-- a def as the head tells it -/
def DefT.datum (x : Str) (d : DefT) : He.DefD := ⟨(x, none), d.name, d.name, d.params, d.body, d.scope, [], []⟩
structure Said (K : PySem.W.Frag) (mg : Str → Option Value) (x : Str) (d : DefT) : Prop where
  ex : ∃ fd, FunD K d.name d.name d.params d.body d.scope [] [] (He.ga K x) fd ∧ Binds K fd d.ps [] ∧ ∀ (s : Shared) (us : List Value), us.length = d.ps.length → BindsTo s fd ⟨us, []⟩ (d.ps.zip us)
  gl : mg x = some (.ref (He.ga K x))
theorem said_ok {K : PySem.W.Frag} {mg : Str → Option Value} {h : Heap} {t : Names} {fn : List He.DefD} {x : Str} {d : DefT} (KX : K.In h) (G : h.Ns mainGlobals mg) (c : He.SaysD t.fa fn K) (i j : Nat) (hi : fn[i]? = some (d.datum x)) (hj : t.fns[j]? = some x)
    (hb : ∀ (kV doc pm : Value) (an : Option Addr) (cdv ct : Value) (us : List Value), us.length = d.ps.length → bindArgs (PySem.W.fnOf d.name d.name d.params d.body d.scope .none kV doc pm an cdv ct) ⟨us, []⟩ = pure (d.ps.zip us)) : Said K mg x d := by
  obtain ⟨fd, F⟩ := c.def_ i hi
  exact ⟨⟨fd, F, F.bindsN hb, F.bindsA hb⟩, He.glo_ok KX G (fact_in c (f := .glo x) (List.mem_append_left _ (List.mem_map.mpr ⟨x, List.mem_of_getElem? hj, rfl⟩)))⟩
section
variable {P : Program} {w : World} {K : PySem.W.Frag} {mg : Str → Option Value} {base h : Heap} {cl : Nat → Addr} {Γ : Gx} {k : Nat} {x : Str} {d : DefT}
theorem Said.cal {f : FSem} (D : Said K mg x d) (T : Top P w K mg base cl Γ) (hf : CalL P w K mg base cl k Γ.fns) (S : FnScope d.N d.ps d.scope) (e : dF Γ d = f) (hl : Γ.lam = [] := by rfl) : Cal P w K mg base cl (k + 1) x f := by
  obtain ⟨fd, F, b, _⟩ := D.ex
  exact ⟨_, fd, d.ps, e ▸ fn_ok T hf.get F S (fun x np kd h => by rw [hl] at h; cases h), D.gl, F.kp, b⟩
theorem Said.none (D : Said K mg x d) : Cal P w K mg base cl k x (fun _ _ => .bad) := by
  obtain ⟨fd, F, b, _⟩ := D.ex
  exact ⟨_, fd, d.ps, fn_bad, D.gl, F.kp, b⟩
end

/-! ### lambdas: the head's further facts -/
section
variable {P : Program} {w : World} {K : PySem.W.Frag} {mg : Str → Option Value} {base h : Heap} {cl : Nat → Addr} {Γ Γ0 : Gx} {j k : Nat} {x : Str} {d : DefT}
def excB (K : PySem.W.Frag) (a : Addr) : Bool :=
  He.eqO (PySem.W.findIn K (.ref a) "__getattribute__") (some (some (.builtin "BaseException.__getattribute__"))) && (He.eqO (PySem.W.findIn K (.ref a) "__getattr__") (some none) && (decide (PySem.W.subIn K (.ref a) (.type "BaseException") = some true) && (PySem.W.hasDictIn K a &&
  (He.eqO (PySem.W.findIn K (.ref a) "__class__") (some (some (.builtin "object.__class__"))) && (He.eqO (PySem.W.specialIn K (.builtin "object.__class__") "__get__") (some (some (.builtin "getset_descriptor.__get__"))) && (decide (PySem.W.takesIn K (.builtin "object.__class__") = some true) && decide (PySem.W.mroIn K a (.type "object") = some true)))))))
theorem excB_ok {a : Addr} (h : excB K a = true) : ExcC K a := by
  unfold excB at h
  simp only [Bool.and_eq_true, decide_eq_true_eq] at h
  obtain ⟨h1, h2, h3, h4, h5, h6, h7, h8⟩ := h
  exact ⟨He.eqO_ok h1, He.eqO_ok h2, h3, h4, He.eqO_ok h5, He.eqO_ok h6, h7, h8⟩
def toldX (K : PySem.W.Frag) (xs : List Str) (t : ToldT) (l : List Str) : Bool :=
  Nat.ble l.length xs.length && (xs.zip l).all fun p => excB K (He.ga K p.1) && (decide (PySem.W.exmOne K (.ref (He.ga K p.1)) (.ref (He.ga K t.ne)) = some true) && (match PySem.W.kitOne K (.ref (He.ga K p.1)) (.ref (He.ga K t.oor)) with
    | some b => decide (p.2 = if b then t.s1 else t.s2)
    | none => false))
def raisedX (K : PySem.W.Frag) (xs : List Str) (t : RaisedT) (l : List (Option Int)) : Bool :=
  Nat.ble l.length xs.length && (xs.zip l).all fun p => match p.2 with
    | none => true
    | some i => (match PySem.W.exmOne K (.ref (He.ga K p.1)) (.ref (He.ga K t.x)) with
      | some true => decide (i = t.i)
      | some false => decide (PySem.W.exmOne K (.ref (He.ga K p.1)) (.ref (He.ga K t.y)) = some true) && decide (i = t.j)
      | none => false)
def raisesX (K : PySem.W.Frag) (xs : List Str) (t : RaisesT) (l : List (Option Int)) : Bool :=
  decide (t.v = "ValueError") && (Nat.ble l.length xs.length && (xs.zip l).all fun p => match p.2 with
    | none => true
    | some i => excB K (He.ga K p.1) && (decide (PySem.W.kitOne K (.ref (He.ga K p.1)) (.ref (He.ga K t.n)) = some true) && (decide (PySem.W.kitOne K (.ref (He.ga K p.1)) (.type "ValueError") = some true) && (match PySem.W.exmOne K (.ref (He.ga K p.1)) (.ref (He.ga K t.x)) with
      | some true => decide (i = t.i)
      | some false => decide (PySem.W.exmOne K (.ref (He.ga K p.1)) (.ref (He.ga K t.y)) = some true) && decide (i = t.j)
      | none => false))))
theorem zip_at {α β : Type} {xs : List α} {l : List β} {c : Nat} {y : β} (hl : l.length ≤ xs.length) (h : l[c]? = some y) : ∃ x, xs[c]? = some x ∧ (x, y) ∈ xs.zip l := by
  obtain ⟨hc, rfl⟩ := List.getElem?_eq_some_iff.mp h
  have hx : c < xs.length := by omega
  refine ⟨xs[c], List.getElem?_eq_getElem hx, ?_⟩
  have z : (xs.zip l)[c]? = some (xs[c], l[c]) := by rw [List.getElem?_zip_eq_some]; exact ⟨List.getElem?_eq_getElem hx, List.getElem?_eq_getElem hc⟩
  exact List.mem_of_getElem? z
theorem cl_at {t : Names} {c : Nat} {x : Str} (h : t.excs[c]? = some x) : t.cl K c = He.ga K x := by
  unfold Names.cl
  rw [h]
theorem toldX_ok {n : Names} {t : ToldT} {l : List Str} (h : toldX K n.excs t l = true) (g1 : mg t.ne = some (.ref (He.ga K t.ne))) (g2 : mg t.oor = some (.ref (He.ga K t.oor))) (g3 : mg "isinstance" = none) : ToldOk K mg (n.cl K) t (fun c => l[c]?) := by
  unfold toldX at h
  rw [Bool.and_eq_true, List.all_eq_true] at h
  refine ⟨_, _, g1, g2, g3, fun c x hx => ?_⟩
  obtain ⟨y, h1, h2⟩ := zip_at (Nat.le_of_ble_eq_true h.1) hx
  have q := h.2 _ h2
  simp only [Bool.and_eq_true, decide_eq_true_eq] at q
  obtain ⟨q1, q2, q3⟩ := q
  rw [cl_at h1]
  refine ⟨excB_ok q1, q2, ?_⟩
  split at q3
  · rename_i b hb
    exact ⟨b, hb, of_decide_eq_true q3⟩
  · cases q3
theorem raisedX_ok {n : Names} {t : RaisedT} {l : List (Option Int)} (h : raisedX K n.excs t l = true) (g1 : mg t.x = some (.ref (He.ga K t.x))) (g2 : mg t.y = some (.ref (He.ga K t.y))) : RaisedOk K mg (n.cl K) t (fun c => l[c]?.join) := by
  unfold raisedX at h
  rw [Bool.and_eq_true, List.all_eq_true] at h
  refine ⟨_, _, g1, g2, fun c i hi => ?_⟩
  obtain ⟨o, ho, rfl⟩ := Option.bind_eq_some_iff.mp (show (l[c]?).bind id = some i from hi)
  obtain ⟨y, h1, h2⟩ := zip_at (Nat.le_of_ble_eq_true h.1) ho
  have q := h.2 _ h2
  dsimp only [id] at q
  rw [cl_at h1]
  split at q
  · rename_i e
    exact ⟨true, e, fun _ => of_decide_eq_true q, fun z => by cases z⟩
  · rename_i e
    rw [Bool.and_eq_true, decide_eq_true_eq, decide_eq_true_eq] at q
    exact ⟨false, e, (fun z => Bool.noConfusion z), fun _ => q⟩
  · cases q
theorem raisesX_ok {n : Names} {t : RaisesT} {l : List (Option Int)} (h : raisesX K n.excs t l = true) (g1 : mg t.x = some (.ref (He.ga K t.x))) (g2 : mg t.y = some (.ref (He.ga K t.y))) (g3 : mg "isinstance" = none) (g4 : mg t.n = some (.ref (He.ga K t.n))) (g5 : mg "ValueError" = none) : RaisesOk K mg (n.cl K) t (fun c => l[c]?.join) := by
  unfold raisesX at h
  rw [Bool.and_eq_true, Bool.and_eq_true, List.all_eq_true, decide_eq_true_eq] at h
  refine ⟨_, _, _, _, g1, g2, g3, g4, h.1, by rw [h.1]; exact g5, rfl, fun c i hi => ?_⟩
  obtain ⟨o, ho, rfl⟩ := Option.bind_eq_some_iff.mp (show (l[c]?).bind id = some i from hi)
  obtain ⟨y, h1, h2⟩ := zip_at (Nat.le_of_ble_eq_true h.2.1) ho
  have q := h.2.2 _ h2
  dsimp only [id] at q
  rw [cl_at h1]
  simp only [Bool.and_eq_true, decide_eq_true_eq] at q
  obtain ⟨q1, q2, q3, q⟩ := q
  refine ⟨excB_ok q1, q2, q3, ?_⟩
  split at q
  · rename_i e
    exact ⟨true, e, fun _ => of_decide_eq_true q, fun z => by cases z⟩
  · rename_i e
    rw [Bool.and_eq_true, decide_eq_true_eq, decide_eq_true_eq] at q
    exact ⟨false, e, (fun z => Bool.noConfusion z), fun _ => q⟩
  · cases q
/-- the tables: those of the defs, each lambda's def's own -/
def lamTabs (K : PySem.W.Frag) (tf : List He.Defn) (lds : List (Str × Str)) : Bool :=
  ((tabsK K).all fun p => (tf.map fun d => (He.cT K d).2).contains p.1) && lds.all fun d => ((tabsK K).any fun p => (p.1 == (He.cT K (d.1, none)).2) && decide (p.2 = d.2 ++ ".<locals>." ++ "<lambda>")) &&
    (tabsK K).all fun p => !(p.1 == (He.cT K (d.1, none)).2) || decide (p.2 = d.2 ++ ".<locals>." ++ "<lambda>")
theorem lamTabs_in {tf : List He.Defn} {lds : List (Str × Str)} (h : lamTabs K tf lds = true) : ∀ p ∈ tabsK K, ∃ c, (c, p.1) ∈ tf.map (He.cT K) := fun p hp => by
  unfold lamTabs at h
  rw [Bool.and_eq_true, List.all_eq_true] at h
  have q := h.1 p hp
  rw [List.contains_iff_mem] at q
  obtain ⟨d, hd, e⟩ := List.mem_map.mp q
  exact ⟨(He.cT K d).1, List.mem_map.mpr ⟨d, hd, by rw [← e]⟩⟩
theorem lam_here {tf : List He.Defn} {lds : List (Str × Str)} {n q : Str} {params : Arguments} {body : List Stmt} {scope : Scope} {fd : FuncData} (h : lamTabs K tf lds = true) (hd : (x, q) ∈ lds) (ht : ((x, Option.none) : He.Defn) ∈ tf) (F : FunD K n q params body scope [] [] (He.ga K x) fd)
    (tb : ∀ p ∈ tf.map (He.cT K), LamX.TabB base mg p.1 p.2) : ∃ c T, fd.code = .ref c ∧ LamX.TabB base mg c T ∧ (T, q ++ ".<locals>." ++ "<lambda>") ∈ tabsK K ∧ ∀ p ∈ tabsK K, p.1 = T → p.2 = q ++ ".<locals>." ++ "<lambda>" := by
  obtain ⟨oc, od, dV, kV, doc, pm, an, cdv, ct, osl, rfl, lk, hcd, _, _⟩ := F.ex
  obtain ⟨c, rfl⟩ := He.codeIn_ref hcd
  have ec : He.codeOf K (x, none) = c := He.codeOf_eq (p := (x, none)) lk rfl
  have T := tb _ (List.mem_map.mpr ⟨_, ht, rfl⟩)
  unfold lamTabs at h
  rw [Bool.and_eq_true, List.all_eq_true, List.all_eq_true] at h
  have z := h.2 _ hd
  rw [Bool.and_eq_true, List.any_eq_true, List.all_eq_true] at z
  obtain ⟨⟨p, hp, e⟩, z⟩ := z
  refine ⟨c, (He.cT K (x, none)).2, rfl, ?_, ?_, fun p hp e => ?_⟩
  · rw [← ec]; exact T
  · rw [Bool.and_eq_true, beq_iff_eq, decide_eq_true_eq] at e
    rw [← e.1, ← e.2]
    exact hp
  · have y := z p hp
    rw [e] at y
    simpa using y
theorem lb_ok {lam : List (Str × Nat × LK)} {lb : Scope → Expr → SE} {N : List Str} {m : Nat} (h0 : Γ0.lam = []) (hf : Γ.fns = Γ0.fns) (hn : Γ.nums = Γ0.nums) : ∀ (X' : Cx) (E' : XK) (sc' : Scope), Cond0 X' Γ cl E' N sc' (fun _ => false) j → ∀ e, PE X' e (lE X'.K cl E' (dE Γ0 N m sc' e)) :=
  fun X' E' sc' C => (dE_ok (Γ := Γ0) (cl := cl) (N := N) (k := j) m).1 X' E' sc' _ ⟨⟨C.eN, C.nd, C.eS, C.calm, C.room, C.gd, C.tk, by rw [← hf]; exact C.fns, by rw [← hn]; exact C.nums, C.free, C.hfb⟩, fun x np kd h => by rw [h0] at h; cases h⟩
/-- Γ0 with lambdas -/
def Gx.with (Γ0 : Gx) (N : List Str) (lam : List (Str × Nat × LK)) : Gx := { fns := Γ0.fns, nums := Γ0.nums, exc := Γ0.exc, mt := Γ0.mt, dt := Γ0.dt, wf := Γ0.wf, lam := lam, lb := dE Γ0 N 60 }
theorem top_with {N : List Str} {lam : List (Str × Nat × LK)} (T : Top P w K mg base cl Γ0) : Top P w K mg base cl (Γ0.with N lam) := ⟨T.nums, T.free, T.ex⟩
theorem CalL.mono {k' : Nat} (hk : k ≤ k') : ∀ {l : List (Str × FSem)}, CalL P w K mg base cl k l → CalL P w K mg base cl k' l
  | [], _ => trivial
  | _ :: _, c => ⟨c.1.mono hk, CalL.mono hk c.2⟩
theorem fn_okL {lam : List (Str × Nat × LK)} {f : Addr} {fd : FuncData} {qual : Str} (T : Top P w K mg base cl Γ0) (h0 : Γ0.lam = []) (hf : CalL P w K mg base cl k Γ0.fns) (F : FunD K d.name qual d.params d.body d.scope [] [] f fd) (S : FnScope d.N d.ps d.scope)
    (here : ∃ c T, fd.code = .ref c ∧ LamX.TabB base mg c T ∧ (T, qual ++ ".<locals>." ++ "<lambda>") ∈ tabsK K ∧ ∀ p ∈ tabsK K, p.1 = T → p.2 = qual ++ ".<locals>." ++ "<lambda>") (hl : ∀ x np kd, lam.lookup x = some (np, kd) → LamCal P w K mg base cl k (k + 2) x np kd) :
    FnG P w K mg base (k + 3) f fd d.ps (spM K cl (dF (Γ0.with d.N lam) d)) :=
  fn_ok (top_with T) ((CalL.mono (Nat.le_add_right k 2) hf).get) F S fun x np kd h => ⟨here, k, hl x np kd h, hf.get, lb_ok (lam := lam) (lb := fun _ _ => mBad) h0 rfl rfl⟩
theorem Said.calL {lam : List (Str × Nat × LK)} {f : FSem} {tf : List He.Defn} {lds : List (Str × Str)} (D : Said K mg x d) (T : Top P w K mg base cl Γ0) (h0 : Γ0.lam = []) (hf : CalL P w K mg base cl k Γ0.fns) (S : FnScope d.N d.ps d.scope) (ht : lamTabs K tf lds = true) (hd : (x, d.name) ∈ lds) (hx : ((x, Option.none) : He.Defn) ∈ tf)
    (tb : ∀ p ∈ tf.map (He.cT K), LamX.TabB base mg p.1 p.2) (hl : ∀ x np kd, lam.lookup x = some (np, kd) → LamCal P w K mg base cl k (k + 2) x np kd) (e : dF (Γ0.with d.N lam) d = f) : Cal P w K mg base cl (k + 3) x f := by
  obtain ⟨fd, F, b, _⟩ := D.ex
  exact ⟨_, fd, d.ps, e ▸ fn_okL T h0 hf F S (lam_here ht hd hx F tb) hl, D.gl, F.kp, b⟩
theorem Said.told {t : ToldT} {i : Nat} {rdf : FSem} {word : Nat → Option Str} (D : Said K mg x d) (hx : d.name = x) (Sg : FnScope d.N d.ps d.scope) (hp : d.ps = [t.cp]) (hsh : toldM d.body = some t) (hsc : toldSc t d.N d.scope i = true) (R : Cal P w K mg base cl k t.rd rdf) (O : ToldOk K mg cl t word) (hj : j + 1 ≤ k) : LamCal P w K mg base cl j (k + 1) x 0 (.told rdf word) := by
  obtain ⟨fd, F, b, _⟩ := D.ex
  subst hx
  rw [hp] at Sg b
  exact told_cal F D.gl b Sg hsh hsc R O hj
theorem Said.raised {t : RaisedT} {word : Nat → Option Int} (D : Said K mg x d) (hx : d.name = x) (Sg : FnScope d.N d.ps d.scope) (hp : d.ps = [t.cp]) (hsh : raisedM d.body = some t) (hsc : namesOk d.scope [t.x, t.y] [t.cp] = true) (h0 : d.N[0]? = some t.cp) (O : RaisedOk K mg cl t word) (hj : j + 1 ≤ k) : LamCal P w K mg base cl j (k + 1) x 0 (.raised word) := by
  obtain ⟨fd, F, b, _⟩ := D.ex
  subst hx
  rw [hp] at Sg b
  exact raised_cal F D.gl b Sg hsh hsc h0 O hj
theorem Said.raises {t : RaisesT} {ii : Nat} {word : Nat → Option Int} (D : Said K mg x d) (hx : d.name = x) (Sg : FnScope d.N d.ps d.scope) (hp : d.ps = [t.kd, t.cp]) (hsh : raisesM d.body = some t) (hsc : namesOk d.scope ["isinstance", t.x, t.y, t.n, t.v] [t.kd, t.cp, t.e] = true) (h0 : d.N[0]? = some t.kd) (h1 : d.N[1]? = some t.cp) (hi : d.N[ii]? = some t.e) (hi2 : 2 ≤ ii)
    (O : RaisesOk K mg cl t word) (hj : j + 1 ≤ k) : LamCal P w K mg base cl j (k + 1) x 1 (.raises word) := by
  obtain ⟨fd, F, b, _⟩ := D.ex
  subst hx
  rw [hp] at Sg b
  exact raises_cal F D.gl b Sg hsh hsc h0 h1 hi hi2 O hj
theorem lam_nil : ∀ x np kd, ([] : List (Str × Nat × LK)).lookup x = some (np, kd) → LamCal P w K mg base cl j k x np kd := fun _ _ _ h => by cases h
theorem lam_cons {y : Str} {n : Nat} {kd0 : LK} {r : List (Str × Nat × LK)} (L : LamCal P w K mg base cl j k y n kd0) (hr : ∀ x np kd, r.lookup x = some (np, kd) → LamCal P w K mg base cl j k x np kd) : ∀ x np kd, ((y, n, kd0) :: r).lookup x = some (np, kd) → LamCal P w K mg base cl j k x np kd := fun x np kd h => by
  unfold List.lookup at h
  split at h
  · rename_i e
    cases h
    rw [eq_of_beq e]
    exact L
  · exact hr x np kd h
theorem glo_at {t : Names} {fn : List He.DefD} {y : Str} (KX : K.In h) (G : h.Ns mainGlobals mg) (c : He.SaysD t.fa fn K) (hy : y ∈ t.excs) : mg y = some (.ref (He.ga K y)) :=
  He.glo_ok KX G (fact_in c (f := .glo y) (List.mem_append_right _ (List.mem_append_right _ (List.mem_append_right _ (List.mem_append_left _ (List.mem_map.mpr ⟨y, hy, rfl⟩))))))
theorem free_at {t : Names} {fn : List He.DefD} {y : Str} (KX : K.In h) (G : h.Ns mainGlobals mg) (c : He.SaysD t.fa fn K) (hy : y ∈ bltNames) : mg y = none :=
  He.free_ok KX G (fact_in c (f := .free y) (List.mem_append_right _ (List.mem_append_left _ (List.mem_map.mpr ⟨y, hy, rfl⟩))))
/-- the law's text at the head's heap -/
theorem text_of {fa : List He.Fa} {fn : List He.DefD} {tf : List He.Defn} {lds : List (Str × Str)} {ex : PySem.W.Frag → Bool} {n : Nat} {px : Str} {fad : Addr} {cl : PySem.W.Frag → Nat → Addr} {f : FSem} (Y : ∃ K : PySem.W.Frag, K.In h ∧ He.SaysX fa fn [] tf ex w h K) (hm : mg "law" = some (.ref fad))
    (ht : ∀ K, ex K = true → lamTabs K tf lds = true) (hl : ∀ K : PySem.W.Frag, K.In h → He.SaysD fa fn K → ∃ d : DefT, Said K mg "law" d ∧ d.ps = [px] ∧
      ∀ fd, FunD K d.name d.name d.params d.body d.scope [] [] (He.ga K "law") fd → ex K = true → ∀ base, K.In base → base.Ns mainGlobals mg → (∀ p ∈ tf.map (He.cT K), LamX.TabB base mg p.1 p.2) → FnG P w K mg base k (He.ga K "law") fd d.ps (spM K (cl K) f))
    (sem : ∀ ns : List Int, ns.length ≤ n → (∀ z ∈ ns, Builtin.Int.intBits z ≤ 1048576) → ∃ S, f [.scr ns] [] = .ok (.bl true) S) : LawText P w mg fad h k n px := by
  obtain ⟨K, KX, c⟩ := Y
  obtain ⟨d, D, hp, F⟩ := hl K KX c.t.d
  have e := hm.symm.trans D.gl
  cases e
  obtain ⟨fd, Fd, _, ba⟩ := D.ex
  refine ⟨K, fd, tf.map (He.cT K), cl K, f, KX, fun p hp => ?_, fun p hp => ?_, fun p hp => ?_, lamTabs_in (ht K c.more), fun s u => ?_, sem, fun base kb gb tb => ?_⟩
  · obtain ⟨q, hq, rfl⟩ := List.mem_map.mp hp
    exact c.empty q hq
  · obtain ⟨q, hq, rfl⟩ := List.mem_map.mp hp
    exact c.out q hq
  · obtain ⟨q, hq, rfl⟩ := List.mem_map.mp hp
    exact PySem.W.codeHd_of_K KX (c.hd q hq)
  · have z := ba s [u] (by rw [hp]; rfl)
    rw [hp] at z
    exact z
  · have z := F fd Fd c.more base kb gb tb
    rw [hp] at z
    exact z
end
end Mir
end

section
set_option Elab.async false
set_option linter.all false
set_option maxRecDepth 100000
/-! MirL: walks over items, in plain words. -/
namespace Mir
open PySem PySem.Spec
/-- a loop over items -/
def runF (body : D → SS) : List D → SS
  | [], env, S => .nx env S
  | d :: ds, env, S => match body d env S with
    | .nx e S1 => runF body ds e S1
    | .ct e S1 => runF body ds e S1
    | .bk e S1 => .nx e S1
    | r => r
theorem forL_go (body : D → SS) (pre : List D) : ∀ (ds : List D) (env : Env) (S : Store), forL (Src.items (pre ++ ds)).get (Src.items (pre ++ ds)).fin body ds.length pre.length env S = runF body ds env S := by
  intro ds
  induction ds generalizing pre with
  | nil => intro env S; rfl
  | cons d ds ih =>
    intro env S
    have hget : (Src.items (pre ++ d :: ds)).get pre.length S = some d := by
      show (pre ++ d :: ds)[pre.length]? = some d
      simp
    have hs : pre ++ d :: ds = (pre ++ [d]) ++ ds := by simp
    have hl : pre.length + 1 = (pre ++ [d]).length := by simp
    show forL _ _ body (ds.length + 1) pre.length env S = _
    unfold forL
    rw [hget]
    dsimp only
    unfold runF
    cases hb : body d env S with
    | nx e S1 => dsimp only; rw [hl, hs]; exact ih (pre ++ [d]) e S1
    | ct e S1 => dsimp only; rw [hl, hs]; exact ih (pre ++ [d]) e S1
    | _ => rfl
theorem forL_items (body : D → SS) (ds : List D) (env : Env) (S : Store) : forL (Src.items ds).get (Src.items ds).fin body (Src.items ds).len 0 env S = runF body ds env S := forL_go body [] ds env S
theorem sFor_items {src : Env → Store → Out Src} {g : SG} {b : SS} {ds : List D} {env : Env} {S S1 : Store} (h : src env S = .ok (.items ds) S1) : sFor src g b env S = runF (fun d env S => (g d env S).fl fun e S2 => b e S2) ds env S1 := by
  unfold sFor
  rw [h]
  exact forL_items _ ds env S1
/-- a comprehension over items -/
def runC (f : D → Store → Out (Option D)) : List D → Store → Out (List D)
  | [], S => .ok [] S
  | d :: ds, S => match f d S with
    | .ok o S1 => match runC f ds S1 with
      | .ok ys S2 => .ok (o.toList ++ ys) S2
      | _ => .bad
    | _ => .bad
theorem compL_go (f : D → Store → Out (Option D)) (pre : List D) : ∀ (ds : List D) (S : Store), compL (Src.items (pre ++ ds)).get (Src.items (pre ++ ds)).fin f ds.length pre.length S = runC f ds S := by
  intro ds
  induction ds generalizing pre with
  | nil => intro S; rfl
  | cons d ds ih =>
    intro S
    have hget : (Src.items (pre ++ d :: ds)).get pre.length S = some d := by
      show (pre ++ d :: ds)[pre.length]? = some d
      simp
    have hs : pre ++ d :: ds = (pre ++ [d]) ++ ds := by simp
    have hl : pre.length + 1 = (pre ++ [d]).length := by simp
    show compL _ _ f (ds.length + 1) pre.length S = _
    unfold compL
    rw [hget]
    dsimp only
    unfold runC
    cases hb : f d S with
    | ok o S1 =>
      dsimp only
      rw [hl, hs, ih (pre ++ [d]) S1]
      all_goals (cases runC f ds S1 <;> rfl)
    | _ => rfl
theorem mLC_items {own : List Nat} {mt : Bool} {src : Env → Store → Out Src} {g : SG} {t : ST} {e : SE} {ds : List D} {env : Env} {S S1 : Store} (h : src env S = .ok (.items ds) S1) (hl : ds.length ≤ 16777216) :
    mLC own mt src g t e env S = (match runC (mElt own g t e env) ds S1 with
      | .ok ys S2 => mkL mt ys S2
      | _ => .bad) := by
  unfold mLC
  rw [h]
  show (if Nat.ble ds.length 16777216 then _ else _) = _
  rw [if_pos (Nat.ble_eq_true_of_le hl)]
  rw [show compL (Src.items ds).get (Src.items ds).fin (mElt own g t e env) (Src.items ds).len 0 S1 = runC (mElt own g t e env) ds S1 from compL_go _ [] ds S1]
  all_goals (cases runC (mElt own g t e env) ds S1 <;> rfl)
/-- where each item does without the store -/
theorem runC_map {f : D → Store → Out (Option D)} {S : Store} {h : D → Option D} : ∀ {ds : List D}, (∀ d ∈ ds, f d S = .ok (h d) S) → runC f ds S = .ok (ds.filterMap h) S
  | [], _ => rfl
  | d :: ds, q => by
    unfold runC
    rw [q d List.mem_cons_self]
    dsimp only
    rw [runC_map (h := h) fun d' m => q d' (List.mem_cons_of_mem _ m)]
    dsimp only
    rw [List.filterMap_cons]
    cases h d <;> rfl
end Mir
end

section
set_option Elab.async false
set_option linter.all false
set_option maxRecDepth 100000
/-! MirS: the combinators stepped by simp, without walking into what is not reached yet. -/
namespace Mir
open PySem PySem.Spec
section
variable {α β : Type}
@[simp] theorem bind_ok (a : α) (S : Store) (f : α → Store → Out β) : (Out.ok a S).bind f = f a S := (rfl)
@[simp] theorem bind_ex (c : Nat) (S : Store) (f : α → Store → Out β) : (Out.ex c S : Out α).bind f = .ex c S := (rfl)
@[simp] theorem bind_bad (f : α → Store → Out β) : (Out.bad : Out α).bind f = .bad := (rfl)
@[simp] theorem fl_ok (a : α) (S : Store) (f : α → Store → Fl) : (Out.ok a S).fl f = f a S := (rfl)
@[simp] theorem fl_ex (c : Nat) (S : Store) (f : α → Store → Fl) : (Out.ex c S : Out α).fl f = .ex c S := (rfl)
/-- the rest behind a statement -/
def Fl.seq (f : Fl) (c : SS) : Fl := match f with
  | .nx e S => c e S
  | r => r
@[simp] theorem seq_nx (e : Env) (S : Store) (c : SS) : (Fl.nx e S).seq c = c e S := (rfl)
@[simp] theorem seq_rt (d : D) (S : Store) (c : SS) : (Fl.rt d S).seq c = .rt d S := (rfl)
@[simp] theorem seq_ex (k : Nat) (S : Store) (c : SS) : (Fl.ex k S).seq c = .ex k S := (rfl)
@[simp] theorem seq_bk (e : Env) (S : Store) (c : SS) : (Fl.bk e S).seq c = .bk e S := (rfl)
@[simp] theorem seq_ct (e : Env) (S : Store) (c : SS) : (Fl.ct e S).seq c = .ct e S := (rfl)
/-! ### expressions -/
def kV (o : Option (Option D)) (S : Store) : Out D := match o with
  | some (some d) => .ok d S
  | _ => .bad
@[simp] theorem mVar_ap (i : Nat) (env : Env) (S : Store) : mVar i env S = kV env[i]? S := (rfl)
@[simp] theorem kV_ap (d : D) (S : Store) : kV (some (some d)) S = .ok d S := (rfl)
@[simp] theorem mC_ap (d : D) (env : Env) (S : Store) : mC d env S = .ok d S := (rfl)
@[simp] theorem m1_ap (f : V1) (a : SE) (env : Env) (S : Store) : m1 f a env S = (a env S).bind f := (rfl)
def k2 (f : V2) (c : SE) (env : Env) : D → Store → Out D := fun x S1 => (c env S1).bind (f x)
@[simp] theorem m2_ap (f : V2) (a c : SE) (env : Env) (S : Store) : m2 f a c env S = (a env S).bind (k2 f c env) := (rfl)
@[simp] theorem k2_ap (f : V2) (c : SE) (env : Env) (x : D) (S : Store) : k2 f c env x S = (c env S).bind (f x) := (rfl)
def kTst : D → Store → Out Bool := fun x S1 => match x with
  | .bl k => .ok k S1
  | _ => .bad
@[simp] theorem mTst_ap (a : SE) (env : Env) (S : Store) : mTst a env S = (a env S).bind kTst := (rfl)
@[simp] theorem kTst_ap (b : Bool) (S : Store) : kTst (.bl b) S = .ok b S := (rfl)
def kTru : D → Store → Out Bool := fun x S1 => match truD S1 x with
  | some k => .ok k S1
  | none => .bad
@[simp] theorem mTru_ap (a : SE) (env : Env) (S : Store) : mTru a env S = (a env S).bind kTru := (rfl)
@[simp] theorem kTru_bl (b : Bool) (S : Store) : kTru (.bl b) S = .ok b S := (rfl)
@[simp] theorem kTru_int (i : Int) (S : Store) : kTru (.int i) S = .ok (i != 0) S := (rfl)
@[simp] theorem kTru_non (S : Store) : kTru .non S = .ok false S := (rfl)
@[simp] theorem kTru_tup (xs : List D) (S : Store) : kTru (.tup xs) S = .ok (!xs.isEmpty) S := (rfl)
@[simp] theorem kTru_lst (xs : List D) (S : Store) : kTru (.lst xs) S = .ok (!xs.isEmpty) S := (rfl)
def kNotT : Bool → Store → Out Bool := fun k S1 => .ok (!k) S1
@[simp] theorem mNotT_ap (t : ST) (env : Env) (S : Store) : mNotT t env S = (t env S).bind kNotT := (rfl)
@[simp] theorem kNotT_ap (b : Bool) (S : Store) : kNotT b S = .ok (!b) S := (rfl)
def kAndT (u : ST) (env : Env) : Bool → Store → Out Bool := fun k S1 => if k then u env S1 else .ok false S1
@[simp] theorem mAndT_ap (t u : ST) (env : Env) (S : Store) : mAndT t u env S = (t env S).bind (kAndT u env) := (rfl)
@[simp] theorem kAndT_t (u : ST) (env : Env) (S : Store) : kAndT u env true S = u env S := (rfl)
@[simp] theorem kAndT_f (u : ST) (env : Env) (S : Store) : kAndT u env false S = .ok false S := (rfl)
def kOrT (u : ST) (env : Env) : Bool → Store → Out Bool := fun k S1 => if k then .ok true S1 else u env S1
@[simp] theorem mOrT_ap (t u : ST) (env : Env) (S : Store) : mOrT t u env S = (t env S).bind (kOrT u env) := (rfl)
@[simp] theorem kOrT_t (u : ST) (env : Env) (S : Store) : kOrT u env true S = .ok true S := (rfl)
@[simp] theorem kOrT_f (u : ST) (env : Env) (S : Store) : kOrT u env false S = u env S := (rfl)
def kAndV (c : SE) (env : Env) : D → Store → Out D := fun x S1 => match x with
  | .bl true => c env S1
  | .bl false => .ok (.bl false) S1
  | _ => .bad
@[simp] theorem mAndV_ap (a c : SE) (env : Env) (S : Store) : mAndV a c env S = (a env S).bind (kAndV c env) := (rfl)
@[simp] theorem kAndV_t (c : SE) (env : Env) (S : Store) : kAndV c env (.bl true) S = c env S := (rfl)
@[simp] theorem kAndV_f (c : SE) (env : Env) (S : Store) : kAndV c env (.bl false) S = .ok (.bl false) S := (rfl)
def kOrV (c : SE) (env : Env) : D → Store → Out D := fun x S1 => match x with
  | .bl true => .ok (.bl true) S1
  | .bl false => c env S1
  | _ => .bad
@[simp] theorem mOrV_ap (a c : SE) (env : Env) (S : Store) : mOrV a c env S = (a env S).bind (kOrV c env) := (rfl)
@[simp] theorem kOrV_t (c : SE) (env : Env) (S : Store) : kOrV c env (.bl true) S = .ok (.bl true) S := (rfl)
@[simp] theorem kOrV_f (c : SE) (env : Env) (S : Store) : kOrV c env (.bl false) S = c env S := (rfl)
def kNotV : D → Store → Out D := fun x S1 => match x with
  | .bl k => .ok (.bl (!k)) S1
  | _ => .bad
@[simp] theorem mNotV_ap (a : SE) (env : Env) (S : Store) : mNotV a env S = (a env S).bind kNotV := (rfl)
@[simp] theorem kNotV_ap (b : Bool) (S : Store) : kNotV (.bl b) S = .ok (.bl (!b)) S := (rfl)
def kIf (a c : SE) (env : Env) : Bool → Store → Out D := fun k S1 => if k then a env S1 else c env S1
@[simp] theorem mIf_ap (t : ST) (a c : SE) (env : Env) (S : Store) : mIf t a c env S = (t env S).bind (kIf a c env) := (rfl)
@[simp] theorem kIf_t (a c : SE) (env : Env) (S : Store) : kIf a c env true S = a env S := (rfl)
@[simp] theorem kIf_f (a c : SE) (env : Env) (S : Store) : kIf a c env false S = c env S := (rfl)
def kCh3 (g : V2) (y : D) : D → Store → Out D := fun w S4 => g y w S4
def kCh2 (g : V2) (c : SE) (env : Env) (y : D) : D → Store → Out D := fun z S3 => match z with
  | .bl true => (c env S3).bind (g y)
  | .bl false => .ok (.bl false) S3
  | _ => .bad
def kCh1 (f g : V2) (c : SE) (env : Env) (x : D) : D → Store → Out D := fun y S2 => (f x y S2).bind (kCh2 g c env y)
def kCh (f g : V2) (b c : SE) (env : Env) : D → Store → Out D := fun x S1 => (b env S1).bind (kCh1 f g c env x)
@[simp] theorem mChain_ap (f g : V2) (a b c : SE) (env : Env) (S : Store) : mChain f g a b c env S = (a env S).bind (kCh f g b c env) := (rfl)
@[simp] theorem kCh_ap (f g : V2) (b c : SE) (env : Env) (x : D) (S : Store) : kCh f g b c env x S = (b env S).bind (kCh1 f g c env x) := (rfl)
@[simp] theorem kCh1_ap (f g : V2) (c : SE) (env : Env) (x y : D) (S : Store) : kCh1 f g c env x y S = (f x y S).bind (kCh2 g c env y) := (rfl)
@[simp] theorem kCh2_t (g : V2) (c : SE) (env : Env) (y : D) (S : Store) : kCh2 g c env y (.bl true) S = (c env S).bind (g y) := (rfl)
@[simp] theorem kCh2_f (g : V2) (c : SE) (env : Env) (y : D) (S : Store) : kCh2 g c env y (.bl false) S = .ok (.bl false) S := (rfl)
@[simp] theorem mNil_ap (env : Env) (S : Store) : mNil env S = .ok [] S := (rfl)
def kCons1 (x : D) : List D → Store → Out (List D) := fun xs S2 => .ok (x :: xs) S2
def kCons (as : SA) (env : Env) : D → Store → Out (List D) := fun x S1 => (as env S1).bind (kCons1 x)
@[simp] theorem mCons_ap (a : SE) (as : SA) (env : Env) (S : Store) : mCons a as env S = (a env S).bind (kCons as env) := (rfl)
@[simp] theorem kCons_ap (as : SA) (env : Env) (x : D) (S : Store) : kCons as env x S = (as env S).bind (kCons1 x) := (rfl)
@[simp] theorem kCons1_ap (x : D) (xs : List D) (S : Store) : kCons1 x xs S = .ok (x :: xs) S := (rfl)
def kTup : List D → Store → Out D := fun xs S1 => if Nat.ble xs.length 16777216 then .ok (.tup xs) S1 else .bad
@[simp] theorem mTup_ap (as : SA) (env : Env) (S : Store) : mTup as env S = (as env S).bind kTup := (rfl)
@[simp] theorem kTup_ap (xs : List D) (S : Store) (h : xs.length ≤ 16777216) : kTup xs S = .ok (.tup xs) S := if_pos (Nat.ble_eq_true_of_le h)
def kLst (mt : Bool) : List D → Store → Out D := fun xs S1 => if Nat.ble xs.length 16777216 then mkL mt xs S1 else .bad
@[simp] theorem mLst_ap (mt : Bool) (as : SA) (env : Env) (S : Store) : mLst mt as env S = (as env S).bind (kLst mt) := (rfl)
@[simp] theorem kLst_ap (mt : Bool) (xs : List D) (S : Store) (h : xs.length ≤ 16777216) : kLst mt xs S = mkL mt xs S := if_pos (Nat.ble_eq_true_of_le h)
@[simp] theorem mkL_t (ds : List D) (S : Store) : mkL true ds S = .ok (.ref S.length) (S ++ [.lst ds]) := (rfl)
@[simp] theorem mkL_f (ds : List D) (S : Store) : mkL false ds S = .ok (.lst ds) S := (rfl)
@[simp] theorem mCall_ap (f : FSem) (as : SA) (env : Env) (S : Store) : mCall f as env S = (as env S).bind f := (rfl)
@[simp] theorem mDic_ap (t : Bool) (env : Env) (S : Store) : mDic t env S = .ok (.ref S.length) (S ++ [.dic t []]) := (rfl)
def kInt : D → Store → Out (Option Int) := fun x S1 => match x with
  | .int i => .ok (some i) S1
  | _ => .bad
@[simp] theorem kInt_ap (i : Int) (S : Store) : kInt (.int i) S = .ok (some i) S := (rfl)
@[simp] theorem intO_n (env : Env) (S : Store) : intO none env S = .ok none S := (rfl)
@[simp] theorem intO_s (a : SE) (env : Env) (S : Store) : intO (some a) env S = (a env S).bind kInt := (rfl)
def kSl2 (mt : Bool) (x : D) (l : Option Int) : Option Int → Store → Out D := fun h S3 => vSl mt x l h S3
def kSl1 (mt : Bool) (hi : Option SE) (env : Env) (x : D) : Option Int → Store → Out D := fun l S2 => (intO hi env S2).bind (kSl2 mt x l)
def kSl (mt : Bool) (lo hi : Option SE) (env : Env) : D → Store → Out D := fun x S1 => (intO lo env S1).bind (kSl1 mt hi env x)
@[simp] theorem mSl_ap (mt : Bool) (a : SE) (lo hi : Option SE) (env : Env) (S : Store) : mSl mt a lo hi env S = (a env S).bind (kSl mt lo hi env) := (rfl)
@[simp] theorem kSl_ap (mt : Bool) (lo hi : Option SE) (env : Env) (x : D) (S : Store) : kSl mt lo hi env x S = (intO lo env S).bind (kSl1 mt hi env x) := (rfl)
@[simp] theorem kSl1_ap (mt : Bool) (hi : Option SE) (env : Env) (x : D) (l : Option Int) (S : Store) : kSl1 mt hi env x l S = (intO hi env S).bind (kSl2 mt x l) := (rfl)
@[simp] theorem kSl2_ap (mt : Bool) (x : D) (l h : Option Int) (S : Store) : kSl2 mt x l h S = vSl mt x l h S := (rfl)
def kIs (t : Ty) : D → Store → Out D := fun d S1 => match tyD S1 d with
  | some u => .ok (.bl (u.is t)) S1
  | none => .bad
@[simp] theorem mIs_ap (t : Ty) (a : SE) (env : Env) (S : Store) : mIs t a env S = (a env S).bind (kIs t) := (rfl)
@[simp] theorem kIs_int (t : Ty) (i : Int) (S : Store) : kIs t (.int i) S = .ok (.bl (Ty.int.is t)) S := (rfl)
@[simp] theorem kIs_bl (t : Ty) (i : Bool) (S : Store) : kIs t (.bl i) S = .ok (.bl (Ty.bl.is t)) S := (rfl)
@[simp] theorem kIs_str (t : Ty) (i : Str) (S : Store) : kIs t (.str i) S = .ok (.bl (Ty.str.is t)) S := (rfl)
@[simp] theorem kIs_tup (t : Ty) (i : List D) (S : Store) : kIs t (.tup i) S = .ok (.bl (Ty.tup.is t)) S := (rfl)
@[simp] theorem kIs_lst (t : Ty) (i : List D) (S : Store) : kIs t (.lst i) S = .ok (.bl (Ty.lst.is t)) S := (rfl)
@[simp] theorem kIs_non (t : Ty) (S : Store) : kIs t .non S = .ok (.bl (Ty.non.is t)) S := (rfl)
@[simp] theorem is_ii : Ty.int.is .int = true := (rfl)
@[simp] theorem is_ib : Ty.int.is .bl = false := (rfl)
@[simp] theorem is_it : Ty.int.is .tup = false := (rfl)
@[simp] theorem is_il : Ty.int.is .lst = false := (rfl)
@[simp] theorem is_is : Ty.int.is .str = false := (rfl)
@[simp] theorem is_bi : Ty.bl.is .int = true := (rfl)
@[simp] theorem is_bb : Ty.bl.is .bl = true := (rfl)
@[simp] theorem is_tt : Ty.tup.is .tup = true := (rfl)
@[simp] theorem is_ti : Ty.tup.is .int = false := (rfl)
@[simp] theorem is_tb : Ty.tup.is .bl = false := (rfl)
@[simp] theorem is_tl : Ty.tup.is .lst = false := (rfl)
@[simp] theorem is_ts : Ty.tup.is .str = false := (rfl)
@[simp] theorem is_li : Ty.lst.is .int = false := (rfl)
@[simp] theorem is_ll : Ty.lst.is .lst = true := (rfl)
@[simp] theorem is_lt : Ty.lst.is .tup = false := (rfl)
@[simp] theorem is_si : Ty.str.is .int = false := (rfl)
@[simp] theorem is_ss : Ty.str.is .str = true := (rfl)
@[simp] theorem is_st : Ty.str.is .tup = false := (rfl)
def kMtd1 (f : D → List D → Store → Out D) (c : D) : List D → Store → Out D := fun ds S2 => f c ds S2
def kMtd (f : D → List D → Store → Out D) (as : SA) (env : Env) : D → Store → Out D := fun c S1 => match listOf S1 c with
  | some _ => (as env S1).bind (kMtd1 f c)
  | none => .bad
@[simp] theorem mMtd_ap (f : D → List D → Store → Out D) (o : SE) (as : SA) (env : Env) (S : Store) : mMtd f o as env S = (o env S).bind (kMtd f as env) := (rfl)
def kMtdO (o : Option Ob) (f : D → List D → Store → Out D) (as : SA) (env : Env) (n : Nat) (S : Store) : Out D := match o with
  | some (.lst _) => (as env S).bind (kMtd1 f (.ref n))
  | _ => .bad
@[simp] theorem kMtd_ap (f : D → List D → Store → Out D) (as : SA) (env : Env) (n : Nat) (S : Store) : kMtd f as env (.ref n) S = kMtdO S[n]? f as env n S := by
  unfold kMtd kMtdO
  simp only [Mir.listOf]
  cases S[n]? with
  | none => rfl
  | some o => cases o <;> rfl
@[simp] theorem kMtdO_ap (f : D → List D → Store → Out D) (as : SA) (env : Env) (n : Nat) (S : Store) (xs : List D) : kMtdO (some (.lst xs)) f as env n S = (as env S).bind (kMtd1 f (.ref n)) := (rfl)
def kApp (o : Option Ob) (n : Nat) (d : D) (S : Store) : Out D := match o with
  | some (.lst xs) => if Nat.ble xs.length 16000000 then .ok .non (S.set n (.lst (xs ++ [d]))) else .bad
  | _ => .bad
@[simp] theorem vAppend_ap (n : Nat) (d : D) (S : Store) : vAppend (.ref n) [d] S = kApp S[n]? n d S := by
  unfold vAppend kApp
  dsimp only
  all_goals (cases S[n]? with
  | none => rfl
  | some o => cases o <;> rfl)
@[simp] theorem kApp_ap (xs : List D) (n : Nat) (d : D) (S : Store) (h : xs.length ≤ 16000000) : kApp (some (.lst xs)) n d S = .ok .non (S.set n (.lst (xs ++ [d]))) := if_pos (Nat.ble_eq_true_of_le h)
@[simp] theorem kMtd1_ap (f : D → List D → Store → Out D) (c : D) (ds : List D) (S : Store) : kMtd1 f c ds S = f c ds S := (rfl)
def kRg (tup mt : Bool) : D → Store → Out D := fun x S1 => match x with
  | .int j => mRgA tup mt 0 j S1
  | _ => .bad
@[simp] theorem mRg1_ap (tup mt : Bool) (a : SE) (env : Env) (S : Store) : mRg1 tup mt a env S = (a env S).bind (kRg tup mt) := (rfl)
/-- 0, 1, .. as values -/
def rg (n : Nat) : List Int := (List.range n).map fun i : Nat => (i : Int)
theorem rangeD_rg (n : Nat) : rangeD 0 n = (rg n).map D.int := by
  unfold rangeD rg
  rw [List.map_map]
  refine List.map_congr_left fun i _ => ?_
  simp
theorem rngOk_of {i : Int} (h1 : -4611686018427387904 ≤ i) (h2 : i < 4611686018427387904) : rngOk i = true := by
  unfold rngOk
  simp [h1, h2]
@[simp] theorem kRg_ap (tup mt : Bool) (j : Int) (S : Store) (h1 : j ≤ 16777216) (h2 : -16777216 ≤ j) : kRg tup mt (.int j) S = if tup then .ok (.tup ((rg j.toNat).map D.int)) S else mkL mt ((rg j.toNat).map D.int) S := by
  have hj : (j - 0).toNat ≤ 16777216 := by omega
  have b : Nat.ble (j - 0).toNat 16777216 = true := Nat.ble_eq_true_of_le hj
  have r : rngOk j = true := rngOk_of (by omega) (by omega)
  have r0 : rngOk 0 = true := rngOk_of (by omega) (by omega)
  have c : (rngOk 0 && (rngOk j && Nat.ble (j - 0).toNat 16777216)) = true := by rw [b, r, r0, Bool.and_self, Bool.and_self]
  have e : mRgA tup mt 0 j S = (if tup then .ok (.tup (rangeD 0 (j - 0).toNat)) S else mkL mt (rangeD 0 (j - 0).toNat) S) := by
    unfold mRgA
    exact if_pos c
  rw [Int.sub_zero, rangeD_rg] at e
  exact e
/-! ### places -/
@[simp] theorem gSet_ap (i : Nat) (d : D) (env : Env) (S : Store) : gSet i d env S = .ok (env.set i (some d)) S := (rfl)
@[simp] theorem gNone_ap (env : Env) (S : Store) : gNone [] env S = .ok env S := (rfl)
def kMore (gs : SGs) (r : List D) : Env → Store → Out Env := fun env1 S1 => gs r env1 S1
@[simp] theorem gMore_ap (g : SG) (gs : SGs) (d : D) (r : List D) (env : Env) (S : Store) : gMore g gs (d :: r) env S = (g d env S).bind (kMore gs r) := (rfl)
@[simp] theorem kMore_ap (gs : SGs) (r : List D) (env : Env) (S : Store) : kMore gs r env S = gs r env S := (rfl)
@[simp] theorem gTupD_ap (n : Nat) (gs : SGs) (ds : List D) (env : Env) (S : Store) (h : ds.length = n) : gTupD n gs (.tup ds) env S = gs ds env S := if_pos h
def kSub2 (env : Env) : Unit → Store → Out Env := fun _ S3 => .ok env S3
def kSub1 (env : Env) (c d : D) : D → Store → Out Env := fun k S2 => (vSet c k d S2).bind (kSub2 env)
def kSub (i : SE) (env : Env) (d : D) : D → Store → Out Env := fun c S1 => (i env S1).bind (kSub1 env c d)
@[simp] theorem gSubD_ap (o i : SE) (d : D) (env : Env) (S : Store) : gSubD o i d env S = (o env S).bind (kSub i env d) := (rfl)
@[simp] theorem kSub_ap (i : SE) (env : Env) (d c : D) (S : Store) : kSub i env d c S = (i env S).bind (kSub1 env c d) := (rfl)
@[simp] theorem kSub1_ap (env : Env) (d c k : D) (S : Store) : kSub1 env c d k S = (vSet c k d S).bind (kSub2 env) := (rfl)
@[simp] theorem kSub2_ap (env : Env) (S : Store) : kSub2 env () S = .ok env S := (rfl)
/-! ### statements -/
@[simp] theorem sSeq_ap (a c : SS) (env : Env) (S : Store) : sSeq a c env S = (a env S).seq c := by
  unfold sSeq Fl.seq
  cases a env S <;> rfl
@[simp] theorem sNil_ap (env : Env) (S : Store) : sNil env S = .nx env S := (rfl)
def kNx : Env → Store → Fl := fun e S2 => .nx e S2
@[simp] theorem kNx_ap (env : Env) (S : Store) : kNx env S = .nx env S := (rfl)
def kAsg (g : SG) (env : Env) : D → Store → Fl := fun d S1 => (g d env S1).fl kNx
@[simp] theorem sAsg_ap (m : SE) (g : SG) (env : Env) (S : Store) : sAsg m g env S = (m env S).fl (kAsg g env) := (rfl)
@[simp] theorem kAsg_ap (g : SG) (env : Env) (d : D) (S : Store) : kAsg g env d S = (g d env S).fl kNx := (rfl)
def kPar (is : List Nat) (env : Env) : List D → Store → Fl := fun ds S1 => match is, ds with
  | [i, j], [d, e] => .nx ((env.set i (some d)).set j (some e)) S1
  | [i, j, l], [d, e, f] => .nx (((env.set i (some d)).set j (some e)).set l (some f)) S1
  | _, _ => .bad
@[simp] theorem sPar_ap (is : List Nat) (as : SA) (env : Env) (S : Store) : sPar is as env S = (as env S).fl (kPar is env) := (rfl)
@[simp] theorem kPar_2 (i j : Nat) (env : Env) (d e : D) (S : Store) : kPar [i, j] env [d, e] S = .nx ((env.set i (some d)).set j (some e)) S := (rfl)
@[simp] theorem kPar_3 (i j l : Nat) (env : Env) (d e f : D) (S : Store) : kPar [i, j, l] env [d, e, f] S = .nx (((env.set i (some d)).set j (some e)).set l (some f)) S := (rfl)
def kAug1 (i : Nat) (env : Env) : D → Store → Fl := fun z S2 => .nx (env.set i (some z)) S2
def kAug (f : V2) (i : Nat) (env : Env) (x : D) : D → Store → Fl := fun y S1 => (f x y S1).fl (kAug1 i env)
def kAugV (o : Option (Option D)) (i : Nat) (f : V2) (m : SE) (env : Env) (S : Store) : Fl := match o with
  | some (some x) => (m env S).fl (kAug f i env x)
  | _ => .bad
@[simp] theorem sAug_ap (i : Nat) (f : V2) (m : SE) (env : Env) (S : Store) : sAug i f m env S = kAugV env[i]? i f m env S := (rfl)
@[simp] theorem kAugV_ap (x : D) (i : Nat) (f : V2) (m : SE) (env : Env) (S : Store) : kAugV (some (some x)) i f m env S = (m env S).fl (kAug f i env x) := (rfl)
@[simp] theorem kAug_ap (f : V2) (i : Nat) (env : Env) (x y : D) (S : Store) : kAug f i env x y S = (f x y S).fl (kAug1 i env) := (rfl)
@[simp] theorem kAug1_ap (i : Nat) (env : Env) (z : D) (S : Store) : kAug1 i env z S = .nx (env.set i (some z)) S := (rfl)
def kGa5 (env : Env) : Unit → Store → Fl := fun _ S6 => .nx env S6
def kGa4 (env : Env) (c i : D) : D → Store → Fl := fun z S5 => (vSet c i z S5).fl (kGa5 env)
def kGa3 (f : V2) (env : Env) (c i x : D) : D → Store → Fl := fun y S4 => (f x y S4).fl (kGa4 env c i)
def kGa2 (f : V2) (m : SE) (env : Env) (c i : D) : D → Store → Fl := fun x S3 => (m env S3).fl (kGa3 f env c i x)
def kGa1 (f : V2) (m : SE) (env : Env) (c : D) : D → Store → Fl := fun i S2 => (vGet c i S2).fl (kGa2 f m env c i)
def kGa (k : SE) (f : V2) (m : SE) (env : Env) : D → Store → Fl := fun c S1 => (k env S1).fl (kGa1 f m env c)
@[simp] theorem sAugG_ap (o k : SE) (f : V2) (m : SE) (env : Env) (S : Store) : sAugG o k f m env S = (o env S).fl (kGa k f m env) := (rfl)
@[simp] theorem kGa_ap (k : SE) (f : V2) (m : SE) (env : Env) (c : D) (S : Store) : kGa k f m env c S = (k env S).fl (kGa1 f m env c) := (rfl)
@[simp] theorem kGa1_ap (f : V2) (m : SE) (env : Env) (n : Nat) (i : D) (S : Store) : kGa1 f m env (.ref n) i S = (vIx (.ref n) i S).fl (kGa2 f m env (.ref n) i) := (rfl)
@[simp] theorem kGa2_ap (f : V2) (m : SE) (env : Env) (c i x : D) (S : Store) : kGa2 f m env c i x S = (m env S).fl (kGa3 f env c i x) := (rfl)
@[simp] theorem kGa3_ap (f : V2) (env : Env) (c i x y : D) (S : Store) : kGa3 f env c i x y S = (f x y S).fl (kGa4 env c i) := (rfl)
@[simp] theorem kGa4_ap (env : Env) (c i z : D) (S : Store) : kGa4 env c i z S = (vSet c i z S).fl (kGa5 env) := (rfl)
@[simp] theorem kGa5_ap (env : Env) (S : Store) : kGa5 env () S = .nx env S := (rfl)
def kRet : D → Store → Fl := fun d S1 => .rt d S1
@[simp] theorem sRet_ap (m : SE) (env : Env) (S : Store) : sRet m env S = (m env S).fl kRet := (rfl)
@[simp] theorem kRet_ap (d : D) (S : Store) : kRet d S = .rt d S := (rfl)
def kExp (env : Env) : D → Store → Fl := fun _ S1 => .nx env S1
@[simp] theorem sExpr_ap (m : SE) (env : Env) (S : Store) : sExpr m env S = (m env S).fl (kExp env) := (rfl)
@[simp] theorem kExp_ap (env : Env) (d : D) (S : Store) : kExp env d S = .nx env S := (rfl)
def kIfS (a c : SS) (env : Env) : Bool → Store → Fl := fun k S1 => if k then a env S1 else c env S1
@[simp] theorem sIf_ap (t : ST) (a c : SS) (env : Env) (S : Store) : sIf t a c env S = (t env S).fl (kIfS a c env) := (rfl)
@[simp] theorem kIfS_t (a c : SS) (env : Env) (S : Store) : kIfS a c env true S = a env S := (rfl)
@[simp] theorem kIfS_f (a c : SS) (env : Env) (S : Store) : kIfS a c env false S = c env S := (rfl)
@[simp] theorem sRaise_ap (c : Nat) (env : Env) (S : Store) : sRaise c env S = .ex c S := (rfl)
/-! ### values -/
section
variable (S : Store) (mt : Bool) (i j : Int)
@[simp] theorem vAdd_int : vAdd mt (.int i) (.int j) S = .ok (.int (i + j)) S := (rfl)
@[simp] theorem vAdd_tup (xs ys : List D) (h : xs.length + ys.length ≤ 16777216) : vAdd mt (.tup xs) (.tup ys) S = .ok (.tup (xs ++ ys)) S := if_pos h
@[simp] theorem vAdd_lst (xs ys : List D) (h : xs.length + ys.length ≤ 16777216) : vAdd mt (.lst xs) (.lst ys) S = mkL mt (xs ++ ys) S := if_pos h
@[simp] theorem vSub_int : vSub (.int i) (.int j) S = .ok (.int (i - j)) S := (rfl)
theorem divOk_of {i j : Int} (h1 : 0 < j) (h2 : j < 18446744073709551616) : divOk i j = true := by
  cases j with
  | negSucc n => exact absurd h1 (by omega)
  | ofNat n =>
    have g1 : 0 < (n : Int) := h1
    have g2 : (n : Int) < 18446744073709551616 := h2
    have h2 : n < 2 ^ 64 := by omega
    have a : Nat.ble 1 n = true := Nat.ble_eq_true_of_le (by omega)
    have b : n.log2 ≤ 8000 := by
      have := (Nat.log2_lt (by omega) (k := 64)).mpr h2
      omega
    have c : Nat.ble n.log2 8000 = true := Nat.ble_eq_true_of_le b
    show (Nat.ble 1 n && Nat.ble n.log2 8000) = true
    rw [a, c, Bool.and_self]
theorem modOk_of {i j : Int} (h1 : 0 < j) : modOk i j = true := by
  cases j with
  | ofNat n =>
    have : 0 < (n : Int) := h1
    exact Nat.ble_eq_true_of_le (by omega)
  | negSucc n => exact absurd h1 (by omega)
@[simp] theorem vDiv_int (h1 : 0 < j) (h2 : j < 18446744073709551616) : vDiv (.int i) (.int j) S = .ok (.int (i / j)) S := if_pos (divOk_of h1 h2)
@[simp] theorem vMod_int (h1 : 0 < j) : vMod (.int i) (.int j) S = .ok (.int (i % j)) S := if_pos (modOk_of h1)
theorem mulOk_of {i j : Int} (h1 : i.natAbs < 18446744073709551616) (h2 : j.natAbs < 18446744073709551616) : mulOk i j = true := by
  have key : ∀ n : Nat, n < 18446744073709551616 → n.log2 ≤ 64 := fun n h => by
    by_cases z : n = 0
    · subst z; decide
    · have := (Nat.log2_lt z (k := 64)).mpr (by omega)
      omega
  have a := key _ h1
  have b := key _ h2
  exact Nat.ble_eq_true_of_le (by omega)
@[simp] theorem vMul_int (h1 : i.natAbs < 18446744073709551616) (h2 : j.natAbs < 18446744073709551616) : vMul mt (.int i) (.int j) S = .ok (.int (i * j)) S := if_pos (mulOk_of h1 h2)
@[simp] theorem vLt_int : vLt (.int i) (.int j) S = .ok (.bl (decide (i < j))) S := (rfl)
@[simp] theorem vLe_int : vLe (.int i) (.int j) S = .ok (.bl (decide (i ≤ j))) S := (rfl)
@[simp] theorem vGt_int : vGt (.int i) (.int j) S = .ok (.bl (decide (j < i))) S := (rfl)
@[simp] theorem vGe_int : vGe (.int i) (.int j) S = .ok (.bl (decide (j ≤ i))) S := (rfl)
@[simp] theorem vEqS_int : vEqS (.int i) (.int j) S = .ok (.bl (decide (i = j))) S := by
  show vEq (.int i) (.int j) S = _
  simp only [vEq, vCmp, eqV, flat1, okD, eqF, Bool.and_self, if_true]
  by_cases h : i = j <;> simp [h]
@[simp] theorem vNeS_int : vNeS (.int i) (.int j) S = .ok (.bl (!decide (i = j))) S := by
  show vNe (.int i) (.int j) S = _
  simp only [vNe, vCmp, eqV, flat1, okD, eqF, Bool.and_self, if_true, Option.map]
  by_cases h : i = j <;> simp [h]
@[simp] theorem vIs_non (a : D) : vIs a .non S = .ok (.bl (match a with | .non => true | _ => false)) S := (rfl)
@[simp] theorem vIs_bl (a b : Bool) : vIs (.bl a) (.bl b) S = .ok (.bl (a == b)) S := (rfl)
@[simp] theorem vIsNot_non (a : D) : vIsNot a .non S = .ok (.bl (!(match a with | .non => true | _ => false))) S := (rfl)
@[simp] theorem vIsNot_bl (a b : Bool) : vIsNot (.bl a) (.bl b) S = .ok (.bl (!(a == b))) S := (rfl)
@[simp] theorem vNeg_int : vNeg (.int i) S = .ok (.int (-i)) S := (rfl)
@[simp] theorem vIadd_int : vIadd (.int i) (.int j) S = .ok (.int (i + j)) S := (rfl)
@[simp] theorem vLen_tup (xs : List D) : vLen [.tup xs] S = .ok (.int xs.length) S := (rfl)
@[simp] theorem vLen_lst (xs : List D) : vLen [.lst xs] S = .ok (.int xs.length) S := (rfl)
@[simp] theorem vLen_scr (xs : List Int) : vLen [.scr xs] S = .ok (.int xs.length) S := (rfl)
def kLen (o : Option Ob) (S : Store) : Out D := match o with
  | some (.lst xs) => .ok (.int xs.length) S
  | some (.dic _ kvs) => .ok (.int kvs.length) S
  | none => .bad
@[simp] theorem vLen_ref (n : Nat) : vLen [.ref n] S = kLen S[n]? S := (rfl)
@[simp] theorem kLen_lst (xs : List D) : kLen (some (.lst xs)) S = .ok (.int xs.length) S := (rfl)
@[simp] theorem kLen_dic (t : Bool) (kvs : List (D × D)) : kLen (some (.dic t kvs)) S = .ok (.int kvs.length) S := (rfl)
@[simp] theorem vAbs_int : vAbs [.int i] S = .ok (.int i.natAbs) S := by
  have e : (if i < 0 then -i else i) = (i.natAbs : Int) := by split <;> omega
  show Out.ok (D.int (if i < 0 then -i else i)) S = _
  rw [e]
@[simp] theorem vIntC_int : vIntC [.int i] S = .ok (.int i) S := (rfl)
@[simp] theorem vTuple_lst (xs : List D) : vTuple [.lst xs] S = .ok (.tup xs) S := (rfl)
@[simp] theorem vTuple_tup (xs : List D) : vTuple [.tup xs] S = .ok (.tup xs) S := (rfl)
def kTupO (o : Option Ob) (S : Store) : Out D := match o with
  | some (.lst xs) => .ok (.tup xs) S
  | _ => .bad
@[simp] theorem vTuple_ref (n : Nat) : vTuple [.ref n] S = kTupO S[n]? S := by
  unfold vTuple kTupO
  simp only [seqOf, Mir.listOf]
  cases S[n]? with
  | none => rfl
  | some o => cases o <;> rfl
@[simp] theorem kTupO_ap (xs : List D) : kTupO (some (.lst xs)) S = .ok (.tup xs) S := (rfl)
def kListO (o : Option Ob) (mt : Bool) (S : Store) : Out D := match o with
  | some (.lst xs) => mkL mt xs S
  | _ => .bad
@[simp] theorem vList_ref (n : Nat) : vList mt [.ref n] S = kListO S[n]? mt S := by
  unfold vList kListO
  simp only [seqOf, Mir.listOf]
  cases S[n]? with
  | none => rfl
  | some o => cases o <;> rfl
@[simp] theorem kListO_ap (xs : List D) : kListO (some (.lst xs)) mt S = mkL mt xs S := (rfl)
@[simp] theorem vList_tup (xs : List D) : vList mt [.tup xs] S = mkL mt xs S := (rfl)
@[simp] theorem vList_lst (xs : List D) : vList mt [.lst xs] S = mkL mt xs S := (rfl)
@[simp] theorem vMax2_2 : vMax2 [.int i, .int j] S = .ok (.int (if j > i then j else i)) S := (rfl)
@[simp] theorem vMin2_2 : vMin2 [.int i, .int j] S = .ok (.int (if j < i then j else i)) S := (rfl)
theorem intsOf_map : ∀ ns : List Int, intsOf (ns.map D.int) = some ns
  | [] => rfl
  | n :: ns => by
    have := intsOf_map ns
    unfold intsOf at *
    rw [List.map_cons, List.mapM_cons, this]
    rfl
@[simp] theorem vSum2_tup (ns : List Int) : vSum2 [.tup (ns.map D.int)] S = .ok (.int ns.sum) S := by unfold vSum2; simp only [intsOf_map]
@[simp] theorem vSum2_lst (ns : List Int) : vSum2 [.lst (ns.map D.int)] S = .ok (.int ns.sum) S := by
  show vSum [.lst (ns.map D.int)] S = _
  unfold vSum
  simp only [listInts, listOf, Option.bind, intsOf_map]
@[simp] theorem vSorted_lst (ns : List Int) : vSorted mt [.lst (ns.map D.int)] S = mkL mt ((sortI ns).map D.int) S := by
  unfold vSorted
  simp only [listInts, listOf, Option.bind, intsOf_map]
theorem bls_map : ∀ bs : List Bool, (bs.map D.bl).mapM blOf = some bs
  | [] => rfl
  | b :: bs => by
    rw [List.map_cons, List.mapM_cons, bls_map bs]
    rfl
@[simp] theorem vAll_lst (bs : List Bool) : vAnyAll true [.lst (bs.map D.bl)] S = .ok (.bl (bs.all id)) S := by
  unfold vAnyAll
  simp only [listOf, Option.bind, bls_map, if_true]
@[simp] theorem vAny_lst (bs : List Bool) : vAnyAll false [.lst (bs.map D.bl)] S = .ok (.bl (bs.any id)) S := by
  unfold vAnyAll
  simp only [listOf, Option.bind, bls_map, Bool.false_eq_true, if_false]
@[simp] theorem vAll_comp {α : Type} (b : α → Bool) (xs : List α) : vAnyAll true [.lst (xs.map (D.bl ∘ b))] S = .ok (.bl (xs.all b)) S := by
  have := vAll_lst S (xs.map b)
  rw [List.map_map, List.all_map] at this
  exact this
@[simp] theorem vAny_comp {α : Type} (b : α → Bool) (xs : List α) : vAnyAll false [.lst (xs.map (D.bl ∘ b))] S = .ok (.bl (xs.any b)) S := by
  have := vAny_lst S (xs.map b)
  rw [List.map_map, List.any_map] at this
  exact this
@[simp] theorem vAll_compt {α : Type} (b : α → Bool) (xs : List α) : vAnyAll true [.lst (xs.map (D.bl ∘ b)).tail] S = .ok (.bl (xs.tail.all b)) S := by rw [← List.map_tail]; exact vAll_comp S b _
@[simp] theorem vAll_fun {α : Type} (b : α → Bool) (xs : List α) : vAnyAll true [.lst (xs.map fun x => D.bl (b x))] S = .ok (.bl (xs.all b)) S := vAll_comp S b xs
@[simp] theorem vAny_fun {α : Type} (b : α → Bool) (xs : List α) : vAnyAll false [.lst (xs.map fun x => D.bl (b x))] S = .ok (.bl (xs.any b)) S := vAny_comp S b xs
theorem atI_of {α : Type} {xs : List α} {k : Nat} {i : Int} (e : i = (k : Int)) (h : k < xs.length) : L2.atI xs i = some xs[k] := by
  subst e
  exact L2.atI_nat (List.getElem?_eq_getElem h)
theorem atI_map {α β : Type} (f : α → β) (xs : List α) (i : Int) : L2.atI (xs.map f) i = (L2.atI xs i).map f := by
  unfold L2.atI
  rw [List.length_map]
  cases L2.ixN xs.length i with
  | none => rfl
  | some k => simp
theorem atI_nn {α : Type} (xs : List α) {i : Int} (h : 0 ≤ i) : L2.atI xs i = xs[i.toNat]? := by
  unfold L2.atI L2.ixN
  rw [if_pos h]
  split
  · rfl
  · rw [List.getElem?_eq_none (by omega)]; rfl
@[simp] theorem atI_lit {α : Type} (xs : List α) (n : Nat) : L2.atI xs (no_index (OfNat.ofNat n : Int)) = xs[(OfNat.ofNat n : Nat)]? := atI_nn xs (Int.natCast_nonneg n)
@[simp] theorem atI_cast {α : Type} (xs : List α) (n : Nat) : L2.atI xs (n : Int) = xs[n]? := atI_nn xs (Int.natCast_nonneg n)
@[simp] theorem atI_neg {α : Type} (xs : List α) : L2.atI xs (-1) = xs.getLast? := by
  unfold L2.atI L2.ixN
  rw [if_neg (by decide)]
  cases xs with
  | nil => rfl
  | cons x xs =>
    rw [if_pos (by simp only [List.length_cons]; omega), List.getLast?_eq_getElem?]
    show (x :: xs)[_]? = _
    congr 1
    simp only [List.length_cons]
    omega
def kIx (o : Option D) (S : Store) : Out D := match o with
  | some d => .ok d S
  | none => .bad
@[simp] theorem kIx_ap (d : D) : kIx (some d) S = .ok d S := (rfl)
@[simp] theorem vIx_tup (xs : List D) : vIx (.tup xs) (.int i) S = kIx (L2.atI xs i) S := (rfl)
@[simp] theorem vIx_lst (xs : List D) : vIx (.lst xs) (.int i) S = kIx (L2.atI xs i) S := (rfl)
def kIxO (o : Option Ob) (k : D) (S : Store) : Out D := match o with
  | some (.lst xs) => (match k with
    | .int i => kIx (L2.atI xs i) S
    | _ => .bad)
  | some (.dic t kvs) => if isKey t k then kIx (dLook t kvs k) S else .bad
  | none => .bad
@[simp] theorem vIx_ref (n : Nat) (k : D) : vIx (.ref n) k S = kIxO S[n]? k S := by
  unfold vIx kIxO
  dsimp only
  cases S[n]? with
  | none => rfl
  | some o =>
    cases o with
    | lst xs => cases k <;> rfl
    | dic t kvs => rfl
@[simp] theorem kIxO_lst (xs : List D) : kIxO (some (.lst xs)) (.int i) S = kIx (L2.atI xs i) S := (rfl)
def kSet (o : Option Ob) (n : Nat) (i v : D) (S : Store) : Out Unit := match o with
  | some (.lst xs) => (match i with
    | .int k => (match L2.ixN xs.length k with
      | some j => .ok () (S.set n (.lst (xs.set j v)))
      | none => .bad)
    | _ => .bad)
  | some (.dic t kvs) => if isKey t i && Nat.ble kvs.length 16000000 then .ok () (S.set n (.dic t (dPut t kvs i v))) else .bad
  | none => .bad
@[simp] theorem vSet_ref (n : Nat) (k d : D) : vSet (.ref n) k d S = kSet S[n]? n k d S := (rfl)
theorem ixN_of {n : Nat} {i : Int} (h0 : 0 ≤ i) (h1 : i < n) : L2.ixN n i = some i.toNat := by
  unfold L2.ixN
  rw [if_pos h0, if_pos h1]
@[simp] theorem kSet_lst (xs : List D) (n : Nat) (d : D) (h0 : 0 ≤ i) (h1 : i < (xs.length : Int)) : kSet (some (.lst xs)) n (.int i) d S = .ok () (S.set n (.lst (xs.set i.toNat d))) := by
  unfold kSet
  simp only [ixN_of h0 h1]
def kMulO (o : Option Ob) (k : Int) : Out D := match o with
  | some (.lst xs) => if decide (k ≤ 16777216) && Nat.ble (xs.length * k.toNat) 16777216 && decide (-(16777216) ≤ k) then mkL mt (List.replicate k.toNat xs).flatten S else .bad
  | _ => .bad
@[simp] theorem vMul_ref (n : Nat) (k : Int) : vMul mt (.ref n) (.int k) S = kMulO S mt S[n]? k := by
  unfold vMul kMulO
  simp only [Mir.listOf]
  cases S[n]? with
  | none => rfl
  | some o => cases o <;> rfl
@[simp] theorem kMulO_ap (xs : List D) (k : Int) (h0 : 0 ≤ k) (hk : k ≤ 16777216) (h : xs.length * k.toNat ≤ 16777216) : kMulO S mt (some (.lst xs)) k = mkL mt (List.replicate k.toNat xs).flatten S := by
  have b : Nat.ble (xs.length * k.toNat) 16777216 = true := Nat.ble_eq_true_of_le h
  have c : (decide (k ≤ 16777216) && Nat.ble (xs.length * k.toNat) 16777216 && decide (-(16777216) ≤ k)) = true := by
    rw [b, decide_eq_true hk, decide_eq_true (show (-(16777216) : Int) ≤ k by omega)]
    rfl
  exact if_pos c
@[simp] theorem vMul_lst (xs : List D) (k : Int) (h0 : 0 ≤ k) (hk : k ≤ 16777216) (h : xs.length * k.toNat ≤ 16777216) : vMul mt (.lst xs) (.int k) S = mkL mt (List.replicate k.toNat xs).flatten S := kMulO_ap S mt xs k h0 hk h
@[simp] theorem rep_ints (k : Nat) (j : Int) : (List.replicate k [D.int j]).flatten = (List.replicate k j).map D.int := by
  induction k with
  | zero => rfl
  | succ k ih => rw [List.replicate_succ, List.flatten_cons, ih]; rfl
def kSlO (o : Option Ob) (lo hi : Option Int) : Out D := match o with
  | some (.lst xs) => mkL mt (cutD xs lo hi) S
  | _ => .bad
@[simp] theorem vSl_ref (n : Nat) (lo hi : Option Int) : vSl mt (.ref n) lo hi S = kSlO S mt S[n]? lo hi := by
  unfold vSl kSlO
  simp only [Mir.listOf]
  cases S[n]? with
  | none => rfl
  | some o => cases o <;> rfl
@[simp] theorem kSlO_ap (xs : List D) (lo hi : Option Int) : kSlO S mt (some (.lst xs)) lo hi = mkL mt (cutD xs lo hi) S := (rfl)
@[simp] theorem vSl_lst (xs : List D) (lo hi : Option Int) : vSl mt (.lst xs) lo hi S = mkL mt (cutD xs lo hi) S := (rfl)
@[simp] theorem vSl_tup (xs : List D) (lo hi : Option Int) : vSl mt (.tup xs) lo hi S = .ok (.tup (cutD xs lo hi)) S := (rfl)
theorem sIx_nn (n d : Nat) {i : Int} (h : 0 ≤ i) : HT.sIx n d (some i) = min i.toNat n := by
  show (if i < 0 then (i + (n : Int)).toNat else min i.toNat n) = _
  rw [if_neg (by omega)]
theorem cutD_from (xs : List D) {i : Int} (h : 0 ≤ i) : cutD xs (some i) none = xs.drop i.toNat := by
  unfold cutD
  rw [sIx_nn _ _ h]
  show (xs.drop (min i.toNat xs.length)).take (xs.length - min i.toNat xs.length) = _
  by_cases hl : i.toNat ≤ xs.length
  · rw [Nat.min_eq_left hl, List.take_of_length_le (by simp)]
  · rw [Nat.min_eq_right (by omega), List.drop_of_length_le (i := i.toNat) (by omega)]
    simp
theorem cutD_to (xs : List D) {i : Int} (h : 0 ≤ i) : cutD xs none (some i) = xs.take i.toNat := by
  unfold cutD
  rw [sIx_nn _ _ h]
  show (xs.drop 0).take (min i.toNat xs.length - 0) = _
  rw [List.drop_zero, Nat.sub_zero]
  by_cases hl : i.toNat ≤ xs.length
  · rw [Nat.min_eq_left hl]
  · rw [Nat.min_eq_right (by omega), List.take_of_length_le (by omega), List.take_of_length_le (by omega)]
/-- alike values -/
theorem okD_ints : ∀ (n : Nat) (xs : List Int), (xs.map D.int).all (okD (n + 1)) = true
  | _, [] => rfl
  | n, x :: xs => by
    rw [List.map_cons, List.all_cons, okD_ints n xs]
    rfl
theorem eqL_ints (n : Nat) : ∀ xs ys : List Int, eqL (eqF (n + 1)) (xs.map D.int) (ys.map D.int) = decide (xs = ys)
  | [], [] => by simp [eqL]
  | [], _ :: _ => by simp [eqL]
  | _ :: _, [] => by simp [eqL]
  | x :: xs, y :: ys => by
    rw [List.map_cons, List.map_cons]
    unfold eqL
    rw [eqL_ints n xs ys]
    show ((x == y) && decide (xs = ys)) = _
    by_cases h : x = y <;> by_cases h2 : xs = ys <;> simp [h, h2]
theorem eqV_lsts (xs ys : List Int) : eqV S (.lst (xs.map .int)) (.lst (ys.map .int)) = some (decide (xs = ys)) := by
  show (if okD 60 (.lst (xs.map .int)) && okD 60 (.lst (ys.map .int)) then some (eqF 60 (.lst (xs.map .int)) (.lst (ys.map .int))) else none) = _
  show (if (xs.map D.int).all (okD 59) && (ys.map D.int).all (okD 59) then some (eqL (eqF 59) (xs.map .int) (ys.map .int)) else none) = _
  rw [okD_ints, okD_ints, eqL_ints]
  rfl
theorem eqV_tups (xs ys : List Int) : eqV S (.tup (xs.map .int)) (.tup (ys.map .int)) = some (decide (xs = ys)) := by
  show (if (xs.map D.int).all (okD 59) && (ys.map D.int).all (okD 59) then some (eqL (eqF 59) (xs.map .int) (ys.map .int)) else none) = _
  rw [okD_ints, okD_ints, eqL_ints]
  rfl
@[simp] theorem vEqS_lsts (xs ys : List Int) : vEqS (.lst (xs.map .int)) (.lst (ys.map .int)) S = .ok (.bl (decide (xs = ys))) S := by
  show vCmp (fun a b S => eqV S a b) _ _ S = _
  unfold vCmp
  dsimp only
  rw [eqV_lsts]
@[simp] theorem vEqS_tups (xs ys : List Int) : vEqS (.tup (xs.map .int)) (.tup (ys.map .int)) S = .ok (.bl (decide (xs = ys))) S := by
  show vCmp (fun a b S => eqV S a b) _ _ S = _
  unfold vCmp
  dsimp only
  rw [eqV_tups]
@[simp] theorem vNeS_lsts (xs ys : List Int) : vNeS (.lst (xs.map .int)) (.lst (ys.map .int)) S = .ok (.bl (!decide (xs = ys))) S := by
  show vCmp (fun a b S => (eqV S a b).map (!·)) _ _ S = _
  unfold vCmp
  dsimp only
  rw [eqV_lsts]
  rfl
@[simp] theorem vNeS_tups (xs ys : List Int) : vNeS (.tup (xs.map .int)) (.tup (ys.map .int)) S = .ok (.bl (!decide (xs = ys))) S := by
  show vCmp (fun a b S => (eqV S a b).map (!·)) _ _ S = _
  unfold vCmp
  dsimp only
  rw [eqV_tups]
  rfl
@[simp] theorem vEqS_bl (a b : Bool) : vEqS (.bl a) (.bl b) S = .ok (.bl (a == b)) S := by cases a <;> cases b <;> rfl
@[simp] theorem vNeS_bl (a b : Bool) : vNeS (.bl a) (.bl b) S = .ok (.bl (!(a == b))) S := by cases a <;> cases b <;> rfl
theorem smDs_ints : ∀ {xs : List Int}, (∀ x ∈ xs, x.natAbs ≤ 900000000000) → smDs (xs.map D.int) = true
  | [], _ => by simp [smDs]
  | x :: xs, h => by
    rw [List.map_cons]
    unfold smDs
    rw [smDs_ints fun y hy => h y (List.mem_cons_of_mem _ hy)]
    have := Nat.ble_eq_true_of_le (h x List.mem_cons_self)
    simp [smD, this]
theorem cnDs_ints : ∀ xs : List Int, cnDs (xs.map D.int) = 2 * xs.length
  | [] => by simp [cnDs]
  | x :: xs => by
    rw [List.map_cons]
    unfold cnDs
    rw [cnDs_ints xs]
    simp only [cnD, List.length_cons]
    omega
theorem vRepr_ints (xs : List Int) (h1 : ∀ x ∈ xs, x.natAbs ≤ 900000000000) (h2 : xs.length ≤ 9000) : vRepr [.tup (xs.map .int)] S = .ok (.str (py (.tup (xs.map .int))).shown) S := by
  have a : okD 60 (.tup (xs.map .int)) = true := okD_ints 58 xs
  have b : smD (.tup (xs.map .int)) = true := by unfold smD; exact smDs_ints h1
  have c : cnD (.tup (xs.map .int)) ≤ 20000 := by unfold cnD; rw [cnDs_ints]; omega
  have d : reprOk (.tup (xs.map .int)) = true := by
    unfold reprOk
    rw [a, b, Nat.ble_eq_true_of_le c]
    rfl
  exact if_pos d
@[simp] theorem vEqS_str (x y : Str) : vEqS (.str x) (.str y) S = .ok (.bl (decide (x = y))) S := (rfl)
@[simp] theorem vNeS_str (x y : Str) : vNeS (.str x) (.str y) S = .ok (.bl (!decide (x = y))) S := (rfl)
theorem mem_rg0 {n : Nat} {x : Int} : x ∈ (List.range n).map (fun i : Nat => (i : Int)) ↔ 0 ≤ x ∧ x < n := by
  simp only [List.mem_map, List.mem_range]
  constructor
  · rintro ⟨k, hk, rfl⟩; omega
  · exact fun h => ⟨x.toNat, by omega, by omega⟩
end
/-! ### walks -/
def kSrc : D → Store → Out Src := fun x S1 => match srcOf S1 x with
  | some s => .ok s S1
  | none => .bad
@[simp] theorem mSrc_ap (a : SE) (env : Env) (S : Store) : mSrc a env S = (a env S).bind kSrc := (rfl)
@[simp] theorem kSrc_tup (xs : List D) (S : Store) : kSrc (.tup xs) S = .ok (.items xs) S := (rfl)
@[simp] theorem kSrc_lst (xs : List D) (S : Store) : kSrc (.lst xs) S = .ok (.items xs) S := (rfl)
def kR1 : List D → Store → Out Src := fun xs S1 => match xs with
  | [.int j] => if rngOk j then .ok (.items (rangeD 0 j.toNat)) S1 else .bad
  | _ => .bad
@[simp] theorem mRange1_ap (as : SA) (env : Env) (S : Store) : mRange1 as env S = (as env S).bind kR1 := (rfl)
@[simp] theorem kR1_ap (j : Int) (S : Store) (h1 : -4611686018427387904 ≤ j) (h2 : j < 4611686018427387904) : kR1 [.int j] S = .ok (.items ((rg j.toNat).map D.int)) S := by
  show (if rngOk j then _ else _) = _
  rw [if_pos (rngOk_of h1 h2), rangeD_rg]
/-- i, i + 1, .. -/
def rgs (i : Int) (n : Nat) : List Int := (List.range n).map fun k : Nat => i + (k : Int)
theorem mem_rg {n : Nat} {x : Int} : x ∈ rg n ↔ 0 ≤ x ∧ x < n := mem_rg0
theorem mem_rgs {i : Int} {n : Nat} {x : Int} : x ∈ rgs i n ↔ i ≤ x ∧ x < i + n := by
  unfold rgs
  simp only [List.mem_map, List.mem_range]
  constructor
  · rintro ⟨k, hk, rfl⟩; omega
  · exact fun h => ⟨(x - i).toNat, by omega, by omega⟩
@[simp] theorem rg_len (n : Nat) : (rg n).length = n := by simp [rg]
@[simp] theorem rgs_len (i : Int) (n : Nat) : (rgs i n).length = n := by simp [rgs]
def kR2 : List D → Store → Out Src := fun xs S1 => match xs with
  | [.int i, .int j] => if rngOk i && rngOk j then .ok (.items (rangeD i (j - i).toNat)) S1 else .bad
  | _ => .bad
@[simp] theorem mRange2_ap (as : SA) (env : Env) (S : Store) : mRange2 as env S = (as env S).bind kR2 := (rfl)
@[simp] theorem kR2_ap (i j : Int) (S : Store) (h1 : -4611686018427387904 ≤ i) (h2 : i < 4611686018427387904) (h3 : -4611686018427387904 ≤ j) (h4 : j < 4611686018427387904) : kR2 [.int i, .int j] S = .ok (.items ((rgs i (j - i).toNat).map D.int)) S := by
  show (if rngOk i && rngOk j then _ else _) = _
  rw [if_pos (by rw [rngOk_of h1 h2, rngOk_of h3 h4]; rfl)]
  unfold rangeD rgs
  rw [List.map_map]
  rfl
/-- a loop over items: an invariant of what is done with each -/
theorem runF_inv {α : Type} {body : D → SS} {enc : α → D} {β : Type} {R : β → Env → Store → Prop} {step : β → α → β} : ∀ {xs : List α} {b : β} {env : Env} {S : Store},
    (∀ b x env S, x ∈ xs → R b env S → ∃ env' S', body (enc x) env S = .nx env' S' ∧ R (step b x) env' S') → R b env S → ∃ env' S', runF body (xs.map enc) env S = .nx env' S' ∧ R (xs.foldl step b) env' S'
  | [], b, env, S, _, r => ⟨env, S, rfl, r⟩
  | x :: xs, b, env, S, h, r => by
    obtain ⟨env1, S1, e1, r1⟩ := h b x env S List.mem_cons_self r
    obtain ⟨env2, S2, e2, r2⟩ := runF_inv (xs := xs) (fun b y env S hy => h b y env S (List.mem_cons_of_mem _ hy)) r1
    exact ⟨env2, S2, by rw [List.map_cons]; unfold runF; rw [e1]; exact e2, r2⟩
/-- it goes on, so -/
def Fl.is (f : Fl) (P : Env → Store → Prop) : Prop := match f with
  | .nx e S => P e S
  | _ => False
@[simp] theorem is_nx (e : Env) (S : Store) (P : Env → Store → Prop) : (Fl.nx e S).is P = P e S := (rfl)
theorem is_elim {f : Fl} {P : Env → Store → Prop} (h : f.is P) : ∃ e S, f = .nx e S ∧ P e S := by
  cases f with
  | nx e S => exact ⟨e, S, rfl, h⟩
  | _ => exact h.elim
theorem runF_at {α : Type} {body : D → SS} {enc : α → D} {β : Type} {R : β → Env → Store → Prop} {step : β → α → β} {xs : List α} {b : β} {env : Env} {S : Store} {f : Fl} (hx : runF body (xs.map enc) env S = f)
    (h : ∀ P : β → Env → Store → Prop, (∀ b env S, R b env S → P b env S) → ∀ b x env S, x ∈ xs → R b env S → (body (enc x) env S).is (P (step b x))) (r : R b env S) : ∃ env' S', f = .nx env' S' ∧ R (xs.foldl step b) env' S' := by
  obtain ⟨env', S', e, r'⟩ := runF_inv (fun b x env S hx r => is_elim (h R (fun _ _ _ r => r) b x env S hx r)) r
  exact ⟨env', S', hx.symm.trans e, r'⟩
theorem runF_all {α : Type} {body : D → SS} {enc : α → D} {R : Env → Store → Prop} {xs : List α} {env : Env} {S : Store} {f : Fl} (hx : runF body (xs.map enc) env S = f)
    (h : ∀ P : Env → Store → Prop, (∀ env S, R env S → P env S) → ∀ x env S, x ∈ xs → R env S → (body (enc x) env S).is P) (r : R env S) : ∃ env' S', f = .nx env' S' ∧ R env' S' :=
  runF_at (R := fun (_ : Unit) => R) (step := fun b _ => b) (b := ()) hx (fun P hP _ x env S hx p => h (P ()) (hP ()) x env S hx p) r
theorem runF_ixGo {α : Type} {body : D → SS} {enc : α → D} {R : Nat → Env → Store → Prop} : ∀ (xs : List α) (o : Nat) (env : Env) (S : Store),
    (∀ (k : Nat) (env : Env) (S : Store) (hk : k < xs.length), R (o + k) env S → ∃ env' S', body (enc xs[k]) env S = .nx env' S' ∧ R (o + k + 1) env' S') → R o env S → ∃ env' S', runF body (xs.map enc) env S = .nx env' S' ∧ R (o + xs.length) env' S'
  | [], o, env, S, _, r => ⟨env, S, rfl, r⟩
  | x :: xs, o, env, S, h, r => by
    obtain ⟨env1, S1, e1, r1⟩ := h 0 env S (by simp) r
    obtain ⟨env2, S2, e2, r2⟩ := runF_ixGo xs (o + 1) env1 S1 (fun k env S hk r => by
      have := h (k + 1) env S (by simpa using hk) (by rw [show o + (k + 1) = o + 1 + k by omega]; exact r)
      rw [show o + (k + 1) + 1 = o + 1 + k + 1 by omega] at this
      exact this) r1
    refine ⟨env2, S2, ?_, by rw [List.length_cons, show o + (xs.length + 1) = o + 1 + xs.length by omega]; exact r2⟩
    rw [List.map_cons]
    unfold runF
    have e1 : body (enc x) env S = .nx env1 S1 := e1
    rw [e1]
    exact e2
/-- a loop, its rounds counted -/
theorem runF_ix {α : Type} {body : D → SS} {enc : α → D} {R : Nat → Env → Store → Prop} {xs : List α} {env : Env} {S : Store} {f : Fl} (hx : runF body (xs.map enc) env S = f)
    (h : ∀ P : Nat → Env → Store → Prop, (∀ b env S, R b env S → P b env S) → ∀ (k : Nat) (env : Env) (S : Store) (hk : k < xs.length), R k env S → (body (enc xs[k]) env S).is (P (k + 1))) (r : R 0 env S) : ∃ env' S', f = .nx env' S' ∧ R xs.length env' S' := by
  obtain ⟨env', S', e, r'⟩ := runF_ixGo (R := R) (body := body) (enc := enc) xs 0 env S (fun k env S hk r => by
    have := is_elim (h R (fun _ _ _ r => r) k env S hk (by rw [Nat.zero_add] at r; exact r))
    rw [Nat.zero_add]
    exact this) r
  rw [Nat.zero_add] at r'
  exact ⟨env', S', hx.symm.trans e, r'⟩
/-- some of the items, by what is drawn -/
theorem runC_sub {α : Type} {f : D → Store → Out (Option D)} {enc ec : α → D} {P : Store → Prop} : ∀ {xs : List α} {S : Store},
    (∀ S x, x ∈ xs → P S → ∃ (c : Bool) (S' : Store), f (enc x) S = .ok (if c then some (ec x) else none) S' ∧ P S') → P S → ∃ (zs : List α) (S' : Store), runC f (xs.map enc) S = .ok (zs.map ec) S' ∧ zs.Sublist xs ∧ P S'
  | [], S, _, p => ⟨[], S, rfl, .slnil, p⟩
  | x :: xs, S, h, p => by
    obtain ⟨c, S1, e1, p1⟩ := h S x List.mem_cons_self p
    obtain ⟨zs, S2, e2, s2, p2⟩ := runC_sub (xs := xs) (fun S y hy => h S y (List.mem_cons_of_mem _ hy)) p1
    refine ⟨(if c then [x] else []) ++ zs, S2, ?_, ?_, p2⟩
    · rw [List.map_cons]
      unfold runC
      rw [e1]
      dsimp only
      rw [e2]
      cases c <;> rfl
    · cases c with
      | true => exact s2.cons_cons x
      | false => exact s2.cons x
theorem runC_rel {α β : Type} {f : D → Store → Out (Option D)} {enc : α → D} {ec : β → D} {P : List β → Store → Prop} : ∀ {xs : List α} {ys : List β} {S : Store},
    (∀ ys S x, x ∈ xs → P ys S → ∃ (o : Option β) (S' : Store), f (enc x) S = .ok (o.map ec) S' ∧ P (ys ++ o.toList) S') → P ys S → ∃ zs S', runC f (xs.map enc) S = .ok (zs.map ec) S' ∧ P (ys ++ zs) S'
  | [], ys, S, _, p => ⟨[], S, rfl, by simpa using p⟩
  | x :: xs, ys, S, h, p => by
    obtain ⟨o, S1, e1, p1⟩ := h ys S x List.mem_cons_self p
    obtain ⟨zs, S2, e2, p2⟩ := runC_rel (xs := xs) (fun ys S y hy => h ys S y (List.mem_cons_of_mem _ hy)) p1
    refine ⟨o.toList ++ zs, S2, ?_, by simpa using p2⟩
    rw [List.map_cons]
    unfold runC
    rw [e1]
    dsimp only
    rw [e2]
    cases o <;> simp
def bodyF (g : SG) (b : SS) : D → SS := fun d env S => (g d env S).fl b
@[simp] theorem bodyF_ap (g : SG) (b : SS) (d : D) (env : Env) (S : Store) : bodyF g b d env S = (g d env S).fl b := (rfl)
def kFor (g : SG) (b : SS) (env : Env) : Src → Store → Fl := fun s S1 => forL s.get s.fin (bodyF g b) s.len 0 env S1
@[simp] theorem sFor_ap (src : Env → Store → Out Src) (g : SG) (b : SS) (env : Env) (S : Store) : sFor src g b env S = (src env S).fl (kFor g b env) := (rfl)
@[simp] theorem kFor_ap (g : SG) (b : SS) (env : Env) (ds : List D) (S : Store) : kFor g b env (.items ds) S = runF (bodyF g b) ds env S := forL_items _ ds env S
/-- a comprehension whose elements do without the store -/
def kLC1 (mt : Bool) : Out (List D) → Out D
  | .ok ys S2 => mkL mt ys S2
  | _ => .bad
@[simp] theorem kLC1_ok (mt : Bool) (ys : List D) (S : Store) : kLC1 mt (.ok ys S) = mkL mt ys S := (rfl)
def kLC (own : List Nat) (mt : Bool) (g : SG) (t : ST) (e : SE) (env : Env) : Src → Store → Out D := fun s S1 => if Nat.ble s.len 16777216 then kLC1 mt (compL s.get s.fin (mElt own g t e env) s.len 0 S1) else .bad
@[simp] theorem mLC_ap (own : List Nat) (mt : Bool) (src : Env → Store → Out Src) (g : SG) (t : ST) (e : SE) (env : Env) (S : Store) : mLC own mt src g t e env S = (src env S).bind (kLC own mt g t e env) := by
  unfold mLC
  cases src env S with
  | ok s S1 =>
    show (if _ then _ else _) = kLC own mt g t e env s S1
    unfold kLC kLC1
    split
    · cases compL s.get s.fin (mElt own g t e env) s.len 0 S1 <;> rfl
    · rfl
  | _ => rfl
@[simp] theorem kLC_ap (own : List Nat) (mt : Bool) (g : SG) (t : ST) (e : SE) (env : Env) (ds : List D) (S : Store) (h : ds.length ≤ 16777216) : kLC own mt g t e env (.items ds) S = kLC1 mt (runC (mElt own g t e env) ds S) := by
  unfold kLC
  rw [if_pos (show Nat.ble (Src.items ds).len 16777216 = true from Nat.ble_eq_true_of_le h)]
  exact congrArg _ (compL_go _ [] ds S)
def kE3 : D → Store → Out (Option D) := fun y S3 => .ok (some y) S3
def kE2 (e : SE) (env1 : Env) : Bool → Store → Out (Option D) := fun c S2 => if c then (e env1 S2).bind kE3 else .ok none S2
def kE1 (t : ST) (e : SE) : Env → Store → Out (Option D) := fun env1 S1 => (t env1 S1).bind (kE2 e env1)
@[simp] theorem mElt_ap (own : List Nat) (g : SG) (t : ST) (e : SE) (env : Env) (d : D) (S : Store) : mElt own g t e env d S = (g d (wipeE env own) S).bind (kE1 t e) := (rfl)
@[simp] theorem kE1_ap (t : ST) (e : SE) (env : Env) (S : Store) : kE1 t e env S = (t env S).bind (kE2 e env) := (rfl)
@[simp] theorem kE2_t (e : SE) (env : Env) (S : Store) : kE2 e env true S = (e env S).bind kE3 := (rfl)
@[simp] theorem kE2_f (e : SE) (env : Env) (S : Store) : kE2 e env false S = .ok none S := (rfl)
@[simp] theorem kE3_ap (d : D) (S : Store) : kE3 d S = .ok (some d) S := (rfl)
@[simp] theorem tt_ap (env : Env) (S : Store) : (fun (_ : Env) (S : Store) => Out.ok true S) env S = .ok true S := (rfl)
@[simp] theorem wipeE_nil (env : Env) : wipeE env [] = env := (rfl)
@[simp] theorem wipeE_cons (env : Env) (v : Nat) (vs : List Nat) : wipeE env (v :: vs) = (wipeE env vs).set v none := (rfl)
/-- each item alike -/
theorem runC_pure {α β : Type} {f : D → Store → Out (Option D)} {enc : α → D} {ec : β → D} {S : Store} {h : α → β} : ∀ {xs : List α}, (∀ x ∈ xs, f (enc x) S = .ok (some (ec (h x))) S) → runC f (xs.map enc) S = .ok ((xs.map h).map ec) S
  | [], _ => rfl
  | x :: xs, q => by
    rw [List.map_cons]
    unfold runC
    rw [q x List.mem_cons_self]
    dsimp only
    rw [runC_pure (h := h) fun y hy => q y (List.mem_cons_of_mem _ hy)]
    rfl
theorem runC_filter {α β : Type} {f : D → Store → Out (Option D)} {enc : α → D} {ec : β → D} {S : Store} {h : α → Option β} : ∀ {xs : List α}, (∀ x ∈ xs, f (enc x) S = .ok ((h x).map ec) S) → runC f (xs.map enc) S = .ok ((xs.filterMap h).map ec) S
  | [], _ => rfl
  | x :: xs, q => by
    rw [List.map_cons]
    unfold runC
    rw [q x List.mem_cons_self]
    dsimp only
    rw [runC_filter (h := h) fun y hy => q y (List.mem_cons_of_mem _ hy)]
    dsimp only
    rw [List.filterMap_cons]
    cases h x <;> rfl
/-! ### the end of a def -/
theorem lts_int : ∀ (n : Nat) (ns : List Int), lts n (ns.map D.int) = true
  | _, [] => by simp [lts]
  | n, x :: ns => by
    rw [List.map_cons]
    unfold lts
    rw [lts_int n ns]
    simp [D.lt]
@[simp] theorem lts_ints (n : Nat) (ns : List Int) : lts n (ns.map D.int) = true := lts_int n ns
@[simp] theorem lts_intst (n : Nat) (ns : List Int) : lts n (ns.map D.int).tail = true := by rw [← List.map_tail]; exact lts_int n _
@[simp] theorem fin_int (keep : Bool) (S : Store) (i : Int) (T : Store) : Mir.finish keep S (.rt (.int i) (S ++ T)) = .ok (.int i) (if keep then S ++ T else S) := by
  unfold Mir.finish
  cases keep with
  | true => rfl
  | false => simp [backOk_app, outD, D.lt]
@[simp] theorem fin_bl (keep : Bool) (S : Store) (i : Bool) (T : Store) : Mir.finish keep S (.rt (.bl i) (S ++ T)) = .ok (.bl i) (if keep then S ++ T else S) := by
  unfold Mir.finish
  cases keep with
  | true => rfl
  | false => simp [backOk_app, outD, D.lt]
@[simp] theorem fin_non (keep : Bool) (S : Store) (T : Store) : Mir.finish keep S (.rt .non (S ++ T)) = .ok .non (if keep then S ++ T else S) := by
  unfold Mir.finish
  cases keep with
  | true => rfl
  | false => simp [backOk_app, outD, D.lt]
@[simp] theorem fin_nx (keep : Bool) (S : Store) (env : Env) (T : Store) : Mir.finish keep S (.nx env (S ++ T)) = .ok .non (if keep then S ++ T else S) := by
  unfold Mir.finish
  cases keep with
  | true => rfl
  | false => simp [backOk_app]
@[simp] theorem fin_tup (S : Store) (xs : List D) (T : Store) (h : lts S.length xs = true) : Mir.finish false S (.rt (.tup xs) (S ++ T)) = .ok (.tup xs) S := by
  unfold Mir.finish
  simp [backOk_app, outD, D.lt, h]
@[simp] theorem fin_lst (S : Store) (xs : List D) (T : Store) (h : lts S.length xs = true) : Mir.finish false S (.rt (.lst xs) (S ++ T)) = .ok (.lst xs) S := by
  unfold Mir.finish
  simp [backOk_app, outD, D.lt, h]
theorem app0 (S : Store) : S = S ++ [] := (List.append_nil S).symm
@[simp] theorem fin_int0 (keep : Bool) (S : Store) (i : Int) : Mir.finish keep S (.rt (.int i) S) = .ok (.int i) S := by
  have := fin_int keep S i []
  simpa using this
@[simp] theorem fin_bl0 (keep : Bool) (S : Store) (i : Bool) : Mir.finish keep S (.rt (.bl i) S) = .ok (.bl i) S := by
  have := fin_bl keep S i []
  simpa using this
@[simp] theorem fin_non0 (keep : Bool) (S : Store) : Mir.finish keep S (.rt .non S) = .ok .non S := by
  have := fin_non keep S []
  simpa using this
@[simp] theorem fin_nx0 (keep : Bool) (S : Store) (env : Env) : Mir.finish keep S (.nx env S) = .ok .non S := by
  have := fin_nx keep S env []
  simpa using this
@[simp] theorem fin_tup0 (S : Store) (xs : List D) (h : lts S.length xs = true) : Mir.finish false S (.rt (.tup xs) S) = .ok (.tup xs) S := by
  have := fin_tup S xs [] h
  simpa using this
@[simp] theorem fin_lst0 (S : Store) (xs : List D) (h : lts S.length xs = true) : Mir.finish false S (.rt (.lst xs) S) = .ok (.lst xs) S := by
  have := fin_lst S xs [] h
  simpa using this
/-- a list made here, told as a value -/
@[simp] theorem fin_ref (S : Store) (xs : List D) (T : Store) (k : Nat) (hk : T[k]? = some (.lst xs)) (h : lts S.length xs = true) : Mir.finish false S (.rt (.ref (S.length + k)) (S ++ T)) = .ok (.lst xs) S := by
  unfold Mir.finish
  have hb : Nat.blt (S.length + k) S.length = false := by
    rw [Bool.eq_false_iff, Ne, Nat.blt_eq]
    omega
  have e : (S ++ T)[S.length + k]? = some (.lst xs) := by
    rw [List.getElem?_append_right (by omega)]
    simpa using hk
  simp [backOk_app, outD, hb, e, h]
@[simp] theorem fF_ap (np nN : Nat) (keep : Bool) (b : SS) (args : List D) (S : Store) (h : args.length = np) : fF np nN keep b args S = Mir.finish keep S (b (args.map some ++ List.replicate (nN - args.length) none) S) := if_pos h
/-! ### new objects -/
@[simp] theorem app_at (S T : Store) (k : Nat) : (S ++ T)[S.length + k]? = T[k]? := by
  rw [List.getElem?_append_right (by omega)]
  simp
@[simp] theorem app_set (S T : Store) (k : Nat) (o : Ob) : (S ++ T).set (S.length + k) o = S ++ T.set k o := by
  rw [List.set_append_right _ _ (by omega)]
  simp
end
end Mir
end

section
set_option Elab.async false
set_option linter.all false
set_option maxRecDepth 100000
set_option maxHeartbeats 4000000
/-! the text of the law, as functions -/
namespace K74
open PySem PySem.Spec L2 Mir

def top (i : Nat) : Stmt := PySem.Challenge.pw_allnights_k74_tiles_and_nets.main.body.getD i (.Pass ⟨0, 0, 0, 0⟩)
def inPs (l : List (Nat × Nat)) (p : Pos) : Bool := l.any fun q => (q.1 == p.line) && (q.2 == p.col)
def nms : Names where
  nums := [(("MOST_TURN" : Str), (24 : Int)), (("MOST_IN_SET" : Str), (8 : Int)), (("MOST_NUMBER" : Str), (20 : Int)), (("MOST_PLACES" : Str), (8 : Int)), (("MOST_PAIRS" : Str), (60 : Int))]
  excs := ["NightError", "BadLooks", "OutOfRange"]
  fns := [("is_integer" : Str), ("is_below" : Str), ("is_between" : Str), ("check_tile" : Str), ("least_tiling" : Str), ("tiles" : Str), ("least_turn" : Str), ("check_net" : Str), ("behind" : Str), ("through" : Str), ("sorts" : Str), ("_law_cell" : Str), ("_law_stream" : Str), ("_law_draw" : Str), ("_law_read" : Str), ("_law_told" : Str), ("_law_common" : Str), ("_law_lowest" : Str), ("_law_plus" : Str), ("_law_power" : Str), ("_law_sets" : Str), ("_law_orders" : Str), ("_law_less" : Str), ("_law_times" : Str), ("_law_sets_of" : Str), ("_law_covers" : Str), ("_law_tiling" : Str), ("_law_told_tiles" : Str), ("_law_behind" : Str), ("law" : Str)]
/-! is_integer -/
def t_is_integer : DefT := { name := "is_integer", ps := ["thing"], N := ["thing"], keep := false, scope := defScope (top 5), params := defArgs (top 5), body := defBody (top 5), fuel := 60 }
def g_is_integer : Gx := { fns := [], nums := pick nms.nums [], exc := pick nms.exl [], mt := inPs [], dt := inPs [], wf := 400 }
def b_is_integer_1 : SS := sSeq (sRet (mAndV (mIs .int (mVar 0)) (mNotV (mIs .bl (mVar 0))))) sNil
def b_is_integer : SS := b_is_integer_1
def s_is_integer : FSem := fF 1 1 false b_is_integer
theorem e_is_integer : dB g_is_integer t_is_integer.N t_is_integer.scope 60 t_is_integer.body = b_is_integer := by kernel_rfl
/-! is_below -/
def t_is_below : DefT := { name := "is_below", ps := ["thing", "bound"], N := ["thing", "bound"], keep := false, scope := defScope (top 6), params := defArgs (top 6), body := defBody (top 6), fuel := 60 }
def g_is_below : Gx := { fns := [(("is_integer" : Str), s_is_integer)], nums := pick nms.nums [], exc := pick nms.exl [], mt := inPs [], dt := inPs [], wf := 400 }
def b_is_below_1 : SS := sSeq (sRet (mAndV (mCall s_is_integer (mCons (mVar 0) mNil)) (mChain vLe vLt (mC (.int 0)) (mVar 0) (mVar 1)))) sNil
def b_is_below : SS := b_is_below_1
def s_is_below : FSem := fF 2 2 false b_is_below
theorem e_is_below : dB g_is_below t_is_below.N t_is_below.scope 60 t_is_below.body = b_is_below := by kernel_rfl
/-! is_between -/
def t_is_between : DefT := { name := "is_between", ps := ["thing", "low", "high"], N := ["thing", "low", "high"], keep := false, scope := defScope (top 7), params := defArgs (top 7), body := defBody (top 7), fuel := 60 }
def g_is_between : Gx := { fns := [(("is_integer" : Str), s_is_integer)], nums := pick nms.nums [], exc := pick nms.exl [], mt := inPs [], dt := inPs [], wf := 400 }
def b_is_between_1 : SS := sSeq (sRet (mAndV (mCall s_is_integer (mCons (mVar 0) mNil)) (mChain vLe vLe (mVar 1) (mVar 0) (mVar 2)))) sNil
def b_is_between : SS := b_is_between_1
def s_is_between : FSem := fF 3 3 false b_is_between
theorem e_is_between : dB g_is_between t_is_between.N t_is_between.scope 60 t_is_between.body = b_is_between := by kernel_rfl
/-! check_tile -/
def t_check_tile : DefT := { name := "check_tile", ps := ["A"], N := ["A", "number", "at"], keep := false, scope := defScope (top 12), params := defArgs (top 12), body := defBody (top 12), fuel := 60 }
def g_check_tile : Gx := { fns := [(("is_between" : Str), s_is_between)], nums := pick nms.nums [1, 2], exc := pick nms.exl [1], mt := inPs [], dt := inPs [], wf := 400 }
def b_check_tile_1 : SS := sSeq (sRaise 1) sNil
def b_check_tile_2 : SS := sSeq (sRaise 1) sNil
def b_check_tile_3 : SS := sSeq (sRaise 1) sNil
def b_check_tile_4 : SS := sSeq (sIf (mNotT (mTru (mCall (vAnyAll true) (mCons (mLC [2] false (mRange2 (mCons (mC (.int 1)) (mCons (mCall vLen (mCons (mVar 0) mNil)) mNil))) (gSet 2) (fun _ S => .ok true S) (m2 vLt (m2 vIx (mVar 0) (m2 vSub (mVar 2) (mC (.int 1)))) (m2 vIx (mVar 0) (mVar 2)))) mNil)))) b_check_tile_3 sNil) sNil
def b_check_tile_5 : SS := sSeq (sIf (mOrT (mNotT (mTru (mCall (vAnyAll true) (mCons (mLC [1] false (mSrc (mVar 0)) (gSet 1) (fun _ S => .ok true S) (mCall s_is_between (mCons (mVar 1) (mCons (mC (.int 0)) (mCons (mC (.int (20))) mNil))))) mNil)))) (mTst (m2 vNeS (m2 vIx (mVar 0) (mC (.int 0))) (mC (.int 0))))) b_check_tile_2 sNil) b_check_tile_4
def b_check_tile_6 : SS := sSeq (sIf (mOrT (mNotT (mTru (mIs .tup (mVar 0)))) (mNotT (mTst (mChain vLe vLe (mC (.int 1)) (mCall vLen (mCons (mVar 0) mNil)) (mC (.int (8))))))) b_check_tile_1 sNil) b_check_tile_5
def b_check_tile : SS := b_check_tile_6
def s_check_tile : FSem := fF 1 3 false b_check_tile
theorem e_check_tile : dB g_check_tile t_check_tile.N t_check_tile.scope 60 t_check_tile.body = b_check_tile := by kernel_rfl
/-! least_tiling -/
def t_least_tiling : DefT := { name := "least_tiling", ps := ["p", "A", "found", "there"], N := ["p", "A", "found", "there", "place", "new", "number", "one", "more"], keep := false, scope := defScope (top 13), params := defArgs (top 13), body := defBody (top 13), fuel := 60 }
def g_least_tiling (self : FSem) : Gx := { fns := [(("least_tiling" : Str), self)], nums := pick nms.nums [], exc := pick nms.exl [], mt := inPs [], dt := inPs [], wf := 400 }
def b_least_tiling_1 (self : FSem) : SS := sSeq (sRet (mVar 2)) sNil
def b_least_tiling_2 (self : FSem) : SS := sSeq (sRet (mVar 8)) sNil
def b_least_tiling_3 (self : FSem) : SS := sSeq (sIf (mTst (m2 vIsNot (mVar 8) (mC .non))) (b_least_tiling_2 self) sNil) sNil
def b_least_tiling_4 (self : FSem) : SS := sSeq (sAsg (mCall self (mCons (mVar 0) (mCons (mVar 1) (mCons (m2 (vAdd false) (mVar 2) (mTup (mCons (mVar 4) mNil))) (mCons (m2 (vAdd false) (mVar 3) (mVar 5)) mNil))))) (gSet 8)) (b_least_tiling_3 self)
def b_least_tiling_5 (self : FSem) : SS := sSeq (sIf (mAndT (mTst (m2 vEqS (mCall vLen (mCons (mDC [7] false (mSrc (mVar 5)) (gSet 7) (fun _ S => .ok true S) (mVar 7) (mC (.bl true))) mNil)) (mCall vLen (mCons (mVar 1) mNil)))) (mNotT (mTru (mCall (vAnyAll false) (mCons (mLC [7] false (mSrc (mVar 5)) (gSet 7) (fun _ S => .ok true S) (m2 vIn (mVar 7) (mVar 3))) mNil))))) (b_least_tiling_4 self) sNil) sNil
def b_least_tiling_6 (self : FSem) : SS := sSeq (sAsg (mLC [6] false (mSrc (mVar 1)) (gSet 6) (fun _ S => .ok true S) (m2 vMod (m2 (vAdd false) (mVar 4) (mVar 6)) (mVar 0))) (gSet 5)) (b_least_tiling_5 self)
def b_least_tiling_7 (self : FSem) : SS := sSeq (sRet (mC .non)) sNil
def b_least_tiling_8 (self : FSem) : SS := sSeq (sFor (mRange2 (mCons (mIf (mTst (m2 vGt (mCall vLen (mCons (mVar 2) mNil)) (mC (.int 0)))) (m2 (vAdd false) (m2 vIx (mVar 2) (m1 vNeg (mC (.int 1)))) (mC (.int 1))) (mC (.int 0))) (mCons (mIf (mTst (m2 vGt (mCall vLen (mCons (mVar 2) mNil)) (mC (.int 0)))) (mVar 0) (mC (.int 1))) mNil))) (gSet 4) (b_least_tiling_6 self)) (b_least_tiling_7 self)
def b_least_tiling_9 (self : FSem) : SS := sSeq (sIf (mTst (m2 vEqS (mCall vLen (mCons (mVar 3) mNil)) (mVar 0))) (b_least_tiling_1 self) sNil) (b_least_tiling_8 self)
def b_least_tiling (self : FSem) : SS := (b_least_tiling_9 self)
def s_least_tiling : Nat → FSem
  | 0 => fun _ _ => .bad
  | n + 1 => fF 4 9 false (b_least_tiling (s_least_tiling n))
theorem e_least_tiling (self : FSem) : dB (g_least_tiling self) t_least_tiling.N t_least_tiling.scope 60 t_least_tiling.body = b_least_tiling self := by kernel_rfl
/-! tiles -/
def t_tiles : DefT := { name := "tiles", ps := ["p", "A"], N := ["p", "A"], keep := false, scope := defScope (top 14), params := defArgs (top 14), body := defBody (top 14), fuel := 60 }
def g_tiles : Gx := { fns := [(("check_tile" : Str), s_check_tile), (("is_between" : Str), s_is_between), (("least_tiling" : Str), (s_least_tiling 26))], nums := pick nms.nums [0], exc := pick nms.exl [2], mt := inPs [], dt := inPs [], wf := 400 }
def b_tiles_1 : SS := sSeq (sRaise 2) sNil
def b_tiles_2 : SS := sSeq (sRet (mIf (mTst (m2 vEqS (m2 vMod (mVar 0) (mCall vLen (mCons (mVar 1) mNil))) (mC (.int 0)))) (mCall (s_least_tiling 26) (mCons (mVar 0) (mCons (mVar 1) (mCons (mTup mNil) (mCons (mLst false mNil) mNil))))) (mC .non))) sNil
def b_tiles_3 : SS := sSeq (sExpr (mCall s_check_tile (mCons (mVar 1) mNil))) b_tiles_2
def b_tiles_4 : SS := sSeq (sIf (mNotT (mTru (mCall s_is_between (mCons (mVar 0) (mCons (mC (.int 1)) (mCons (mC (.int (24))) mNil)))))) b_tiles_1 sNil) b_tiles_3
def b_tiles : SS := b_tiles_4
def s_tiles : FSem := fF 2 2 false b_tiles
theorem e_tiles : dB g_tiles t_tiles.N t_tiles.scope 60 t_tiles.body = b_tiles := by kernel_rfl
/-! least_turn -/
def t_least_turn : DefT := { name := "least_turn", ps := ["A"], N := ["A", "p"], keep := false, scope := defScope (top 15), params := defArgs (top 15), body := defBody (top 15), fuel := 60 }
def g_least_turn : Gx := { fns := [(("check_tile" : Str), s_check_tile), (("tiles" : Str), s_tiles)], nums := pick nms.nums [0], exc := pick nms.exl [], mt := inPs [], dt := inPs [], wf := 400 }
def b_least_turn_1 : SS := sSeq (sRet (mVar 1)) sNil
def b_least_turn_2 : SS := sSeq (sIf (mTst (m2 vIsNot (mCall s_tiles (mCons (mVar 1) (mCons (mVar 0) mNil))) (mC .non))) b_least_turn_1 sNil) sNil
def b_least_turn_3 : SS := sSeq (sRet (mC .non)) sNil
def b_least_turn_4 : SS := sSeq (sFor (mRange2 (mCons (mC (.int 1)) (mCons (m2 (vAdd false) (mC (.int (24))) (mC (.int 1))) mNil))) (gSet 1) b_least_turn_2) b_least_turn_3
def b_least_turn_5 : SS := sSeq (sExpr (mCall s_check_tile (mCons (mVar 0) mNil))) b_least_turn_4
def b_least_turn : SS := b_least_turn_5
def s_least_turn : FSem := fF 1 2 false b_least_turn
theorem e_least_turn : dB g_least_turn t_least_turn.N t_least_turn.scope 60 t_least_turn.body = b_least_turn := by kernel_rfl
/-! check_net -/
def t_check_net : DefT := { name := "check_net", ps := ["n", "net"], N := ["n", "net", "pair", "place"], keep := false, scope := defScope (top 19), params := defArgs (top 19), body := defBody (top 19), fuel := 60 }
def g_check_net : Gx := { fns := [(("is_below" : Str), s_is_below)], nums := pick nms.nums [4], exc := pick nms.exl [1], mt := inPs [], dt := inPs [], wf := 400 }
def b_check_net_1 : SS := sSeq (sRaise 1) sNil
def b_check_net_2 : SS := sSeq (sRaise 1) sNil
def b_check_net_3 : SS := sSeq (sRaise 1) sNil
def b_check_net_4 : SS := sSeq (sIf (mTst (m2 vGe (m2 vIx (mVar 2) (mC (.int 0))) (m2 vIx (mVar 2) (mC (.int 1))))) b_check_net_3 sNil) sNil
def b_check_net_5 : SS := sSeq (sIf (mOrT (mNotT (mTru (mIs .tup (mVar 2)))) (mOrT (mTst (m2 vNeS (mCall vLen (mCons (mVar 2) mNil)) (mC (.int 2)))) (mNotT (mTru (mCall (vAnyAll true) (mCons (mLC [3] false (mSrc (mVar 2)) (gSet 3) (fun _ S => .ok true S) (mCall s_is_below (mCons (mVar 3) (mCons (mVar 0) mNil)))) mNil)))))) b_check_net_2 sNil) b_check_net_4
def b_check_net_6 : SS := sSeq (sFor (mSrc (mVar 1)) (gSet 2) b_check_net_5) sNil
def b_check_net_7 : SS := sSeq (sIf (mOrT (mNotT (mTru (mIs .tup (mVar 1)))) (mTst (m2 vGt (mCall vLen (mCons (mVar 1) mNil)) (mC (.int (60)))))) b_check_net_1 sNil) b_check_net_6
def b_check_net : SS := b_check_net_7
def s_check_net : FSem := fF 2 4 false b_check_net
theorem e_check_net : dB g_check_net t_check_net.N t_check_net.scope 60 t_check_net.body = b_check_net := by kernel_rfl
/-! behind -/
def t_behind : DefT := { name := "behind", ps := ["net", "row"], N := ["net", "row", "i", "j"], keep := false, scope := defScope (top 20), params := defArgs (top 20), body := defBody (top 20), fuel := 60 }
def g_behind : Gx := { fns := [], nums := pick nms.nums [], exc := pick nms.exl [], mt := inPs [(59, 10)], dt := inPs [], wf := 400 }
def b_behind_1 : SS := sSeq (sAsg (mTup (mCons (mCall vMin2 (mCons (m2 vIx (mVar 1) (mVar 2)) (mCons (m2 vIx (mVar 1) (mVar 3)) mNil))) (mCons (mCall vMax2 (mCons (m2 vIx (mVar 1) (mVar 2)) (mCons (m2 vIx (mVar 1) (mVar 3)) mNil))) mNil))) (gTupD 2 (gMore (gSubD (mVar 1) (mVar 2)) (gMore (gSubD (mVar 1) (mVar 3)) gNone)))) sNil
def b_behind_2 : SS := sSeq (sRet (mVar 1)) sNil
def b_behind_3 : SS := sSeq (sFor (mSrc (mVar 0)) (gTupD 2 (gMore (gSet 2) (gMore (gSet 3) gNone))) b_behind_1) b_behind_2
def b_behind_4 : SS := sSeq (sAsg (mCall (vList true) (mCons (mVar 1) mNil)) (gSet 1)) b_behind_3
def b_behind : SS := b_behind_4
def s_behind : FSem := fF 2 4 false b_behind
theorem e_behind : dB g_behind t_behind.N t_behind.scope 60 t_behind.body = b_behind := by kernel_rfl
/-! through -/
def t_through : DefT := { name := "through", ps := ["net", "row"], N := ["net", "row", "one"], keep := false, scope := defScope (top 21), params := defArgs (top 21), body := defBody (top 21), fuel := 60 }
def g_through : Gx := { fns := [(("behind" : Str), s_behind), (("check_net" : Str), s_check_net), (("is_integer" : Str), s_is_integer)], nums := pick nms.nums [3], exc := pick nms.exl [1], mt := inPs [], dt := inPs [], wf := 400 }
def b_through_1 : SS := sSeq (sRaise 1) sNil
def b_through_2 : SS := sSeq (sRet (mCall vTuple (mCons (mCall s_behind (mCons (mVar 0) (mCons (mVar 1) mNil))) mNil))) sNil
def b_through_3 : SS := sSeq (sExpr (mCall s_check_net (mCons (mCall vLen (mCons (mVar 1) mNil)) (mCons (mVar 0) mNil)))) b_through_2
def b_through_4 : SS := sSeq (sIf (mOrT (mNotT (mTru (mIs .tup (mVar 1)))) (mOrT (mNotT (mTst (mChain vLe vLe (mC (.int 1)) (mCall vLen (mCons (mVar 1) mNil)) (mC (.int (8)))))) (mNotT (mTru (mCall (vAnyAll true) (mCons (mLC [2] false (mSrc (mVar 1)) (gSet 2) (fun _ S => .ok true S) (mCall s_is_integer (mCons (mVar 2) mNil))) mNil)))))) b_through_1 sNil) b_through_3
def b_through : SS := b_through_4
def s_through : FSem := fF 2 3 false b_through
theorem e_through : dB g_through t_through.N t_through.scope 60 t_through.body = b_through := by kernel_rfl
/-! sorts -/
def t_sorts : DefT := { name := "sorts", ps := ["n", "net"], N := ["n", "net", "rows", "place", "mask", "row"], keep := false, scope := defScope (top 22), params := defArgs (top 22), body := defBody (top 22), fuel := 60 }
def g_sorts : Gx := { fns := [(("behind" : Str), s_behind), (("check_net" : Str), s_check_net), (("is_between" : Str), s_is_between)], nums := pick nms.nums [3], exc := pick nms.exl [2], mt := inPs [], dt := inPs [], wf := 400 }
def b_sorts_1 : SS := sSeq (sRaise 2) sNil
def b_sorts_2 : SS := sSeq (sRet (mCall (vAnyAll true) (mCons (mLC [5] false (mSrc (mVar 2)) (gSet 5) (fun _ S => .ok true S) (m2 vEqS (mCall s_behind (mCons (mVar 1) (mCons (mVar 5) mNil))) (mCall (vSorted false) (mCons (mVar 5) mNil)))) mNil))) sNil
def b_sorts_3 : SS := sSeq (sAsg (mLC [4] false (mRange1 (mCons (m2 vShl (mC (.int 1)) (mVar 0)) mNil)) (gSet 4) (fun _ S => .ok true S) (mLC [3] false (mRange1 (mCons (mVar 0) mNil)) (gSet 3) (fun _ S => .ok true S) (m2 vAnd (m2 vShr (mVar 4) (mVar 3)) (mC (.int 1))))) (gSet 2)) b_sorts_2
def b_sorts_4 : SS := sSeq (sExpr (mCall s_check_net (mCons (mVar 0) (mCons (mVar 1) mNil)))) b_sorts_3
def b_sorts_5 : SS := sSeq (sIf (mNotT (mTru (mCall s_is_between (mCons (mVar 0) (mCons (mC (.int 1)) (mCons (mC (.int (8))) mNil)))))) b_sorts_1 sNil) b_sorts_4
def b_sorts : SS := b_sorts_5
def s_sorts : FSem := fF 2 6 false b_sorts
theorem e_sorts : dB g_sorts t_sorts.N t_sorts.scope 60 t_sorts.body = b_sorts := by kernel_rfl
/-! _law_cell -/
def t__law_cell : DefT := { name := "_law_cell", ps := ["script", "k"], N := ["script", "k"], keep := false, scope := defScope (top 24), params := defArgs (top 24), body := defBody (top 24), fuel := 60 }
def g__law_cell : Gx := { fns := [], nums := pick nms.nums [], exc := pick nms.exl [], mt := inPs [], dt := inPs [], wf := 400 }
def b__law_cell_1 : SS := sSeq (sRet (mIf (mTst (m2 vLt (mVar 1) (mCall vLen (mCons (mVar 0) mNil)))) (mCall vAbs (mCons (mCall vIntC (mCons (m2 vIx (mVar 0) (mVar 1)) mNil)) mNil)) (mC (.int 0)))) sNil
def b__law_cell : SS := b__law_cell_1
def s__law_cell : FSem := fF 2 2 false b__law_cell
theorem e__law_cell : dB g__law_cell t__law_cell.N t__law_cell.scope 60 t__law_cell.body = b__law_cell := by kernel_rfl
/-! _law_stream -/
def t__law_stream : DefT := { name := "_law_stream", ps := ["script", "k"], N := ["script", "k"], keep := true, scope := defScope (top 25), params := defArgs (top 25), body := defBody (top 25), fuel := 60 }
def g__law_stream : Gx := { fns := [(("_law_cell" : Str), s__law_cell)], nums := pick nms.nums [], exc := pick nms.exl [], mt := inPs [(78, 11)], dt := inPs [], wf := 400 }
def b__law_stream_1 : SS := sSeq (sRet (mLst true (mCons (mCall s__law_cell (mCons (mVar 0) (mCons (mVar 1) mNil))) (mCons (m2 (vAdd false) (mC (.int 1)) (m2 vMod (m2 (vMul false) (mC (.int 48271)) (mCall s__law_cell (mCons (mVar 0) (mCons (mVar 1) mNil)))) (mC (.int 2147483647)))) mNil)))) sNil
def b__law_stream : SS := b__law_stream_1
def s__law_stream : FSem := fF 2 2 true b__law_stream
theorem e__law_stream : dB g__law_stream t__law_stream.N t__law_stream.scope 60 t__law_stream.body = b__law_stream := by kernel_rfl
/-! _law_draw -/
def t__law_draw : DefT := { name := "_law_draw", ps := ["box", "high"], N := ["box", "high", "cell"], keep := false, scope := defScope (top 26), params := defArgs (top 26), body := defBody (top 26), fuel := 60 }
def g__law_draw : Gx := { fns := [], nums := pick nms.nums [], exc := pick nms.exl [], mt := inPs [], dt := inPs [], wf := 400 }
def b__law_draw_1 : SS := sSeq (sRet (mCall vIntC (mCons (m2 vMod (mVar 2) (mVar 1)) mNil))) sNil
def b__law_draw_2 : SS := sSeq (sAsg (mCall vIntC (mCons (m2 vDiv (mVar 2) (mVar 1)) mNil)) (gSubD (mVar 0) (mC (.int 0)))) b__law_draw_1
def b__law_draw_3 : SS := sSeq (sAsg (m2 vIx (mVar 0) (mC (.int 0))) (gSet 2)) b__law_draw_2
def b__law_draw_4 : SS := sSeq (sRet (mCall vIntC (mCons (m2 vMod (m2 vDiv (m2 vIx (mVar 0) (mC (.int 1))) (mC (.int 7))) (mVar 1)) mNil))) sNil
def b__law_draw_5 : SS := sSeq (sAsg (m2 vMod (m2 (vMul false) (mC (.int 69621)) (m2 vIx (mVar 0) (mC (.int 1)))) (mC (.int 2147483647))) (gSubD (mVar 0) (mC (.int 1)))) b__law_draw_4
def b__law_draw_6 : SS := sSeq (sIf (mTst (m2 vGt (m2 vIx (mVar 0) (mC (.int 0))) (mC (.int 0)))) b__law_draw_3 sNil) b__law_draw_5
def b__law_draw : SS := b__law_draw_6
def s__law_draw : FSem := fF 2 3 false b__law_draw
theorem e__law_draw : dB g__law_draw t__law_draw.N t__law_draw.scope 60 t__law_draw.body = b__law_draw := by kernel_rfl
/-! _law_read -/
def t__law_read : DefT := { name := "_law_read", ps := ["told"], N := ["told", "part"], keep := false, scope := defScope (top 27), params := defArgs (top 27), body := defBody (top 27), fuel := 60 }
def g__law_read (self : FSem) : Gx := { fns := [(("_law_read" : Str), self)], nums := pick nms.nums [], exc := pick nms.exl [], mt := inPs [], dt := inPs [], wf := 400 }
def b__law_read_1 (self : FSem) : SS := sSeq (sRet (mVar 0)) sNil
def b__law_read_2 (self : FSem) : SS := sSeq (sRet (mCall vIntC (mCons (mVar 0) mNil))) sNil
def b__law_read_3 (self : FSem) : SS := sSeq (sRet (m2 (vAdd false) (mC (.str "")) (mVar 0))) sNil
def b__law_read_4 (self : FSem) : SS := sSeq (sRet (mCall vTuple (mCons (mLC [1] false (mSrc (mVar 0)) (gSet 1) (fun _ S => .ok true S) (mCall self (mCons (mVar 1) mNil))) mNil))) sNil
def b__law_read_5 (self : FSem) : SS := sSeq (sRet (mIf (mTru (mIs .lst (mVar 0))) (mLC [1] false (mSrc (mVar 0)) (gSet 1) (fun _ S => .ok true S) (mCall self (mCons (mVar 1) mNil))) (mC (.str "something else")))) sNil
def b__law_read_6 (self : FSem) : SS := sSeq (sIf (mTru (mIs .tup (mVar 0))) (b__law_read_4 self) sNil) (b__law_read_5 self)
def b__law_read_7 (self : FSem) : SS := sSeq (sIf (mTru (mIs .str (mVar 0))) (b__law_read_3 self) sNil) (b__law_read_6 self)
def b__law_read_8 (self : FSem) : SS := sSeq (sIf (mTru (mIs .int (mVar 0))) (b__law_read_2 self) sNil) (b__law_read_7 self)
def b__law_read_9 (self : FSem) : SS := sSeq (sIf (mOrT (mTst (m2 vIs (mVar 0) (mC .non))) (mOrT (mTst (m2 vIs (mVar 0) (mC (.bl true)))) (mTst (m2 vIs (mVar 0) (mC (.bl false)))))) (b__law_read_1 self) sNil) (b__law_read_8 self)
def b__law_read (self : FSem) : SS := (b__law_read_9 self)
def s__law_read : Nat → FSem
  | 0 => fun _ _ => .bad
  | n + 1 => fF 1 2 false (b__law_read (s__law_read n))
theorem e__law_read (self : FSem) : dB (g__law_read self) t__law_read.N t__law_read.scope 60 t__law_read.body = b__law_read self := by kernel_rfl
/-! _law_told -/
def t__law_told : DefT := { name := "_law_told", ps := ["call"], N := ["call", "e"], keep := false, scope := defScope (top 28), params := defArgs (top 28), body := defBody (top 28), fuel := 60 }
def k__law_told : ToldT := ⟨"_law_read", "call", "NightError", "e", "OutOfRange", "range", "other"⟩
def w__law_told := ([("other" : Str), ("other" : Str), ("range" : Str)] : List Str)
def lk__law_told : LK := .told (s__law_read 4) (fun c => w__law_told[c]?)
/-! _law_common -/
def t__law_common : DefT := { name := "_law_common", ps := ["n", "d"], N := ["n", "d"], keep := false, scope := defScope (top 29), params := defArgs (top 29), body := defBody (top 29), fuel := 60 }
def g__law_common : Gx := { fns := [], nums := pick nms.nums [], exc := pick nms.exl [], mt := inPs [], dt := inPs [], wf := 400 }
def b__law_common_1 : SS := sSeq (sPar [0, 1] (mCons (mVar 1) (mCons (m2 vMod (mVar 0) (mVar 1)) mNil))) sNil
def b__law_common_2 : SS := sSeq (sRet (mVar 0)) sNil
def b__law_common_3 : SS := sSeq (whileL (mTst (m2 vGt (mVar 1) (mC (.int 0)))) b__law_common_1 400) b__law_common_2
def b__law_common : SS := b__law_common_3
def s__law_common : FSem := fF 2 2 false b__law_common
theorem e__law_common : dB g__law_common t__law_common.N t__law_common.scope 60 t__law_common.body = b__law_common := by kernel_rfl
/-! _law_lowest -/
def t__law_lowest : DefT := { name := "_law_lowest", ps := ["n", "d"], N := ["n", "d", "both"], keep := false, scope := defScope (top 30), params := defArgs (top 30), body := defBody (top 30), fuel := 60 }
def g__law_lowest : Gx := { fns := [(("_law_common" : Str), s__law_common)], nums := pick nms.nums [], exc := pick nms.exl [], mt := inPs [], dt := inPs [], wf := 400 }
def b__law_lowest_1 : SS := sSeq (sRet (mTup (mCons (m2 vDiv (mVar 0) (mVar 2)) (mCons (m2 vDiv (mVar 1) (mVar 2)) mNil)))) sNil
def b__law_lowest_2 : SS := sSeq (sAsg (mCall s__law_common (mCons (mCall vAbs (mCons (mVar 0) mNil)) (mCons (mVar 1) mNil))) (gSet 2)) b__law_lowest_1
def b__law_lowest : SS := b__law_lowest_2
def s__law_lowest : FSem := fF 2 3 false b__law_lowest
theorem e__law_lowest : dB g__law_lowest t__law_lowest.N t__law_lowest.scope 60 t__law_lowest.body = b__law_lowest := by kernel_rfl
/-! _law_plus -/
def t__law_plus : DefT := { name := "_law_plus", ps := ["one", "two"], N := ["one", "two"], keep := false, scope := defScope (top 31), params := defArgs (top 31), body := defBody (top 31), fuel := 60 }
def g__law_plus : Gx := { fns := [(("_law_lowest" : Str), s__law_lowest)], nums := pick nms.nums [], exc := pick nms.exl [], mt := inPs [], dt := inPs [], wf := 400 }
def b__law_plus_1 : SS := sSeq (sRet (mCall s__law_lowest (mCons (m2 (vAdd false) (m2 (vMul false) (m2 vIx (mVar 0) (mC (.int 0))) (m2 vIx (mVar 1) (mC (.int 1)))) (m2 (vMul false) (m2 vIx (mVar 1) (mC (.int 0))) (m2 vIx (mVar 0) (mC (.int 1))))) (mCons (m2 (vMul false) (m2 vIx (mVar 0) (mC (.int 1))) (m2 vIx (mVar 1) (mC (.int 1)))) mNil)))) sNil
def b__law_plus : SS := b__law_plus_1
def s__law_plus : FSem := fF 2 2 false b__law_plus
theorem e__law_plus : dB g__law_plus t__law_plus.N t__law_plus.scope 60 t__law_plus.body = b__law_plus := by kernel_rfl
/-! _law_power -/
def t__law_power : DefT := { name := "_law_power", ps := ["n", "many"], N := ["n", "many", "total", "turn"], keep := false, scope := defScope (top 32), params := defArgs (top 32), body := defBody (top 32), fuel := 60 }
def g__law_power : Gx := { fns := [], nums := pick nms.nums [], exc := pick nms.exl [], mt := inPs [], dt := inPs [], wf := 400 }
def b__law_power_1 : SS := sSeq (sAsg (m2 (vMul false) (mVar 2) (mVar 0)) (gSet 2)) sNil
def b__law_power_2 : SS := sSeq (sRet (mVar 2)) sNil
def b__law_power_3 : SS := sSeq (sFor (mRange1 (mCons (mVar 1) mNil)) (gSet 3) b__law_power_1) b__law_power_2
def b__law_power_4 : SS := sSeq (sAsg (mC (.int 1)) (gSet 2)) b__law_power_3
def b__law_power : SS := b__law_power_4
def s__law_power : FSem := fF 2 4 false b__law_power
theorem e__law_power : dB g__law_power t__law_power.N t__law_power.scope 60 t__law_power.body = b__law_power := by kernel_rfl
/-! _law_sets -/
def t__law_sets : DefT := { name := "_law_sets", ps := ["n"], N := ["n", "i", "mask"], keep := false, scope := defScope (top 33), params := defArgs (top 33), body := defBody (top 33), fuel := 60 }
def g__law_sets : Gx := { fns := [], nums := pick nms.nums [], exc := pick nms.exl [], mt := inPs [], dt := inPs [], wf := 400 }
def b__law_sets_1 : SS := sSeq (sRet (mLC [2] false (mRange1 (mCons (m2 vShl (mC (.int 1)) (mVar 0)) mNil)) (gSet 2) (fun _ S => .ok true S) (mCall vTuple (mCons (mLC [1] false (mRange1 (mCons (mVar 0) mNil)) (gSet 1) (mTst (m2 vEqS (m2 vAnd (m2 vShr (mVar 2) (mVar 1)) (mC (.int 1))) (mC (.int 1)))) (mVar 1)) mNil)))) sNil
def b__law_sets : SS := b__law_sets_1
def s__law_sets : FSem := fF 1 3 false b__law_sets
theorem e__law_sets : dB g__law_sets t__law_sets.N t__law_sets.scope 60 t__law_sets.body = b__law_sets := by kernel_rfl
/-! _law_orders -/
def t__law_orders : DefT := { name := "_law_orders", ps := ["many"], N := ["many", "rows", "turn", "longer", "row", "x"], keep := false, scope := defScope (top 34), params := defArgs (top 34), body := defBody (top 34), fuel := 60 }
def g__law_orders : Gx := { fns := [], nums := pick nms.nums [], exc := pick nms.exl [], mt := inPs [], dt := inPs [], wf := 400 }
def b__law_orders_1 : SS := sSeq (sAsg (m2 (vAdd false) (mVar 3) (mLC [5] false (mRange1 (mCons (mVar 0) mNil)) (gSet 5) (mTst (m2 vNotIn (mVar 5) (mVar 4))) (m2 (vAdd false) (mVar 4) (mTup (mCons (mVar 5) mNil))))) (gSet 3)) sNil
def b__law_orders_2 : SS := sSeq (sAsg (mVar 3) (gSet 1)) sNil
def b__law_orders_3 : SS := sSeq (sFor (mSrc (mVar 1)) (gSet 4) b__law_orders_1) b__law_orders_2
def b__law_orders_4 : SS := sSeq (sAsg (mLst false mNil) (gSet 3)) b__law_orders_3
def b__law_orders_5 : SS := sSeq (sRet (mVar 1)) sNil
def b__law_orders_6 : SS := sSeq (sFor (mRange1 (mCons (mVar 0) mNil)) (gSet 2) b__law_orders_4) b__law_orders_5
def b__law_orders_7 : SS := sSeq (sAsg (mLst false (mCons (mTup mNil) mNil)) (gSet 1)) b__law_orders_6
def b__law_orders : SS := b__law_orders_7
def s__law_orders : FSem := fF 1 6 false b__law_orders
theorem e__law_orders : dB g__law_orders t__law_orders.N t__law_orders.scope 60 t__law_orders.body = b__law_orders := by kernel_rfl
/-! _law_less -/
def t__law_less : DefT := { name := "_law_less", ps := ["one", "two"], N := ["one", "two"], keep := false, scope := defScope (top 35), params := defArgs (top 35), body := defBody (top 35), fuel := 60 }
def g__law_less : Gx := { fns := [], nums := pick nms.nums [], exc := pick nms.exl [], mt := inPs [], dt := inPs [], wf := 400 }
def b__law_less_1 : SS := sSeq (sRet (m2 vLt (m2 (vMul false) (m2 vIx (mVar 0) (mC (.int 0))) (m2 vIx (mVar 1) (mC (.int 1)))) (m2 (vMul false) (m2 vIx (mVar 1) (mC (.int 0))) (m2 vIx (mVar 0) (mC (.int 1)))))) sNil
def b__law_less : SS := b__law_less_1
def s__law_less : FSem := fF 2 2 false b__law_less
theorem e__law_less : dB g__law_less t__law_less.N t__law_less.scope 60 t__law_less.body = b__law_less := by kernel_rfl
/-! _law_times -/
def t__law_times : DefT := { name := "_law_times", ps := ["one", "two"], N := ["one", "two"], keep := false, scope := defScope (top 36), params := defArgs (top 36), body := defBody (top 36), fuel := 60 }
def g__law_times : Gx := { fns := [(("_law_lowest" : Str), s__law_lowest)], nums := pick nms.nums [], exc := pick nms.exl [], mt := inPs [], dt := inPs [], wf := 400 }
def b__law_times_1 : SS := sSeq (sRet (mCall s__law_lowest (mCons (m2 (vMul false) (m2 vIx (mVar 0) (mC (.int 0))) (m2 vIx (mVar 1) (mC (.int 0)))) (mCons (m2 (vMul false) (m2 vIx (mVar 0) (mC (.int 1))) (m2 vIx (mVar 1) (mC (.int 1)))) mNil)))) sNil
def b__law_times : SS := b__law_times_1
def s__law_times : FSem := fF 2 2 false b__law_times
theorem e__law_times : dB g__law_times t__law_times.N t__law_times.scope 60 t__law_times.body = b__law_times := by kernel_rfl
/-! _law_sets_of -/
def t__law_sets_of : DefT := { name := "_law_sets_of", ps := ["p", "many"], N := ["p", "many", "rows", "turn", "longer", "row", "x"], keep := false, scope := defScope (top 37), params := defArgs (top 37), body := defBody (top 37), fuel := 60 }
def g__law_sets_of : Gx := { fns := [], nums := pick nms.nums [], exc := pick nms.exl [], mt := inPs [], dt := inPs [], wf := 400 }
def b__law_sets_of_1 : SS := sSeq (sAsg (m2 (vAdd false) (mVar 4) (mLC [6] false (mRange2 (mCons (m2 (vAdd false) (m2 vIx (mVar 5) (m1 vNeg (mC (.int 1)))) (mC (.int 1))) (mCons (mVar 0) mNil))) (gSet 6) (fun _ S => .ok true S) (m2 (vAdd false) (mVar 5) (mTup (mCons (mVar 6) mNil))))) (gSet 4)) sNil
def b__law_sets_of_2 : SS := sSeq (sAsg (mVar 4) (gSet 2)) sNil
def b__law_sets_of_3 : SS := sSeq (sFor (mSrc (mVar 2)) (gSet 5) b__law_sets_of_1) b__law_sets_of_2
def b__law_sets_of_4 : SS := sSeq (sAsg (mLst false mNil) (gSet 4)) b__law_sets_of_3
def b__law_sets_of_5 : SS := sSeq (sRet (mVar 2)) sNil
def b__law_sets_of_6 : SS := sSeq (sFor (mRange1 (mCons (m2 vSub (mVar 1) (mC (.int 1))) mNil)) (gSet 3) b__law_sets_of_4) b__law_sets_of_5
def b__law_sets_of_7 : SS := sSeq (sAsg (mLst false (mCons (mTup (mCons (mC (.int 0)) mNil)) mNil)) (gSet 2)) b__law_sets_of_6
def b__law_sets_of : SS := b__law_sets_of_7
def s__law_sets_of : FSem := fF 2 7 false b__law_sets_of
theorem e__law_sets_of : dB g__law_sets_of t__law_sets_of.N t__law_sets_of.scope 60 t__law_sets_of.body = b__law_sets_of := by kernel_rfl
/-! _law_covers -/
def t__law_covers : DefT := { name := "_law_covers", ps := ["p", "A", "B"], N := ["p", "A", "B", "found", "place", "number"], keep := false, scope := defScope (top 38), params := defArgs (top 38), body := defBody (top 38), fuel := 60 }
def g__law_covers : Gx := { fns := [], nums := pick nms.nums [], exc := pick nms.exl [], mt := inPs [], dt := inPs [], wf := 400 }
def b__law_covers_1 : SS := sSeq (sAsg (m2 (vAdd false) (mVar 3) (mLC [5] false (mSrc (mVar 1)) (gSet 5) (fun _ S => .ok true S) (m2 vMod (m2 (vAdd false) (mVar 4) (mVar 5)) (mVar 0)))) (gSet 3)) sNil
def b__law_covers_2 : SS := sSeq (sRet (m2 vEqS (mCall (vSorted false) (mCons (mVar 3) mNil)) (mRg1 false false (mVar 0)))) sNil
def b__law_covers_3 : SS := sSeq (sFor (mSrc (mVar 2)) (gSet 4) b__law_covers_1) b__law_covers_2
def b__law_covers_4 : SS := sSeq (sAsg (mLst false mNil) (gSet 3)) b__law_covers_3
def b__law_covers : SS := b__law_covers_4
def s__law_covers : FSem := fF 3 6 false b__law_covers
theorem e__law_covers : dB g__law_covers t__law_covers.N t__law_covers.scope 60 t__law_covers.body = b__law_covers := by kernel_rfl
/-! _law_tiling -/
def t__law_tiling : DefT := { name := "_law_tiling", ps := ["p", "A"], N := ["p", "A", "good", "B"], keep := false, scope := defScope (top 39), params := defArgs (top 39), body := defBody (top 39), fuel := 60 }
def g__law_tiling : Gx := { fns := [(("_law_covers" : Str), s__law_covers), (("_law_sets_of" : Str), s__law_sets_of)], nums := pick nms.nums [], exc := pick nms.exl [], mt := inPs [], dt := inPs [], wf := 400 }
def b__law_tiling_1 : SS := sSeq (sRet (mC .non)) sNil
def b__law_tiling_2 : SS := sSeq (sRet (mIf (mTst (m2 vNeS (mVar 2) (mLst false mNil))) (m2 vIx (mVar 2) (mC (.int 0))) (mC .non))) sNil
def b__law_tiling_3 : SS := sSeq (sAsg (mLC [3] false (mSrc (mCall s__law_sets_of (mCons (mVar 0) (mCons (m2 vDiv (mVar 0) (mCall vLen (mCons (mVar 1) mNil))) mNil)))) (gSet 3) (mTru (mCall s__law_covers (mCons (mVar 0) (mCons (mVar 1) (mCons (mVar 3) mNil))))) (mVar 3)) (gSet 2)) b__law_tiling_2
def b__law_tiling_4 : SS := sSeq (sIf (mTst (m2 vNeS (m2 vMod (mVar 0) (mCall vLen (mCons (mVar 1) mNil))) (mC (.int 0)))) b__law_tiling_1 sNil) b__law_tiling_3
def b__law_tiling : SS := b__law_tiling_4
def s__law_tiling : FSem := fF 2 4 false b__law_tiling
theorem e__law_tiling : dB g__law_tiling t__law_tiling.N t__law_tiling.scope 60 t__law_tiling.body = b__law_tiling := by kernel_rfl
/-! _law_told_tiles -/
def t__law_told_tiles : DefT := { name := "_law_told_tiles", ps := ["p", "A"], N := ["p", "A"], keep := false, scope := defScope (top 40), params := defArgs (top 40), body := defBody (top 40), fuel := 60 }
def g0__law_told_tiles : Gx := { fns := [(("tiles" : Str), s_tiles)], nums := pick nms.nums [], exc := pick nms.exl [], mt := inPs [], dt := inPs [], wf := 400 }
def g__law_told_tiles : Gx := g0__law_told_tiles.with t__law_told_tiles.N [("_law_told", 0, lk__law_told)]
def b__law_told_tiles_1 : SS := sSeq (sRet (mLam lk__law_told [] (mCall s_tiles (mCons (mVar 0) (mCons (mVar 1) mNil))))) sNil
def b__law_told_tiles : SS := b__law_told_tiles_1
def s__law_told_tiles : FSem := fF 2 2 false b__law_told_tiles
theorem e__law_told_tiles : dB g__law_told_tiles t__law_told_tiles.N t__law_told_tiles.scope 60 t__law_told_tiles.body = b__law_told_tiles := by kernel_rfl
/-! _law_behind -/
def t__law_behind : DefT := { name := "_law_behind", ps := ["net", "row"], N := ["net", "row", "now", "i", "j"], keep := false, scope := defScope (top 41), params := defArgs (top 41), body := defBody (top 41), fuel := 60 }
def g__law_behind : Gx := { fns := [], nums := pick nms.nums [], exc := pick nms.exl [], mt := inPs [(150, 10)], dt := inPs [], wf := 400 }
def b__law_behind_1 : SS := sSeq (sAsg (mTup (mCons (m2 vIx (mVar 2) (mVar 4)) (mCons (m2 vIx (mVar 2) (mVar 3)) mNil))) (gTupD 2 (gMore (gSubD (mVar 2) (mVar 3)) (gMore (gSubD (mVar 2) (mVar 4)) gNone)))) sNil
def b__law_behind_2 : SS := sSeq (sIf (mTst (m2 vGt (m2 vIx (mVar 2) (mVar 3)) (m2 vIx (mVar 2) (mVar 4)))) b__law_behind_1 sNil) sNil
def b__law_behind_3 : SS := sSeq (sRet (mCall vTuple (mCons (mVar 2) mNil))) sNil
def b__law_behind_4 : SS := sSeq (sFor (mSrc (mVar 0)) (gTupD 2 (gMore (gSet 3) (gMore (gSet 4) gNone))) b__law_behind_2) b__law_behind_3
def b__law_behind_5 : SS := sSeq (sAsg (mCall (vList true) (mCons (mVar 1) mNil)) (gSet 2)) b__law_behind_4
def b__law_behind : SS := b__law_behind_5
def s__law_behind : FSem := fF 2 5 false b__law_behind
theorem e__law_behind : dB g__law_behind t__law_behind.N t__law_behind.scope 60 t__law_behind.body = b__law_behind := by kernel_rfl
/-! law -/
def t_law : DefT := { name := "law", ps := ["script"], N := ["script", "box", "A", "turn", "p", "due", "by", "double", "place", "least", "less", "n", "near", "net", "i", "row", "good", "order"], keep := false, scope := defScope (top 42), params := defArgs (top 42), body := defBody (top 42), fuel := 60 }
def g0_law : Gx := { fns := [(("_law_behind" : Str), s__law_behind), (("_law_covers" : Str), s__law_covers), (("_law_draw" : Str), s__law_draw), (("_law_orders" : Str), s__law_orders), (("_law_stream" : Str), s__law_stream), (("_law_tiling" : Str), s__law_tiling), (("_law_told_tiles" : Str), s__law_told_tiles), (("least_turn" : Str), s_least_turn), (("sorts" : Str), s_sorts), (("through" : Str), s_through)], nums := pick nms.nums [], exc := pick nms.exl [], mt := inPs [(175, 10), (180, 14)], dt := inPs [], wf := 400 }
def g_law : Gx := g0_law.with t_law.N [("_law_told", 0, lk__law_told)]
def b_law_1 : SS := sSeq (sRet (mC (.bl false))) sNil
def b_law_2 : SS := sSeq (sRet (mC (.bl false))) sNil
def b_law_3 : SS := sSeq (sIf (mOrT (mNotT (mTru (mCall s__law_covers (mCons (mVar 4) (mCons (mVar 2) (mCons (mLC [8] false (mSrc (mVar 5)) (gSet 8) (fun _ S => .ok true S) (m2 vMod (m2 (vAdd false) (mVar 8) (mVar 6)) (mVar 4))) mNil)))))) (mOrT (mTst (m2 vNeS (m2 vIx (mVar 7) (mC (.int 0))) (mC (.int 0)))) (mOrT (mTst (m2 vIs (m2 vIx (mVar 7) (mC (.int 1))) (mC .non))) (mNotT (mTru (mCall s__law_covers (mCons (m2 (vMul false) (mC (.int 2)) (mVar 4)) (mCons (mVar 2) (mCons (m2 vIx (mVar 7) (mC (.int 1))) mNil))))))))) b_law_2 sNil) sNil
def b_law_4 : SS := sSeq (sAsg (mTup (mCons (mCall s__law_draw (mCons (mVar 1) (mCons (mVar 4) mNil))) (mCons (mCall s__law_told_tiles (mCons (m2 (vMul false) (mC (.int 2)) (mVar 4)) (mCons (mVar 2) mNil))) mNil))) (gTupD 2 (gMore (gSet 6) (gMore (gSet 7) gNone)))) b_law_3
def b_law_5 : SS := sSeq (sRet (mC (.bl false))) sNil
def b_law_6 : SS := sSeq (sRet (mC (.bl false))) sNil
def b_law_7 : SS := sSeq (sRet (mC (.bl false))) sNil
def b_law_8 : SS := sSeq (sExpr (mMtd vAppend (mVar 13) (mCons (mTup (mCons (mVar 14) (mCons (mIf (mTru (mVar 12)) (m2 (vAdd false) (mVar 14) (mC (.int 1))) (m2 (vAdd false) (m2 (vAdd false) (mVar 14) (mC (.int 1))) (mCall s__law_draw (mCons (mVar 1) (mCons (m2 vSub (m2 vSub (mVar 11) (mC (.int 1))) (mVar 14)) mNil))))) mNil))) mNil))) sNil
def b_law_9 : SS := sSeq (sAsg (mCall s__law_draw (mCons (mVar 1) (mCons (m2 vSub (mVar 11) (mC (.int 1))) mNil))) (gSet 14)) b_law_8
def b_law_10 : SS := sSeq (sAsg (m2 (vMul true) (mLC [8] true (mRange1 (mCons (m2 vSub (mVar 11) (mC (.int 1))) mNil)) (gSet 8) (fun _ S => .ok true S) (mTup (mCons (mVar 8) (mCons (m2 (vAdd false) (mVar 8) (mC (.int 1))) mNil)))) (mVar 11)) (gSet 13)) sNil
def b_law_11 : SS := sSeq (sRet (mC (.bl false))) sNil
def b_law_12 : SS := sSeq (sRet (mC (.bl false))) sNil
def b_law_13 : SS := sSeq (sRet (mC (.bl false))) sNil
def b_law_14 : SS := sSeq (sRet (mOrV (mNotV (mVar 16)) (m2 vEqS (mLC [8] false (mRange1 (mCons (m2 vSub (mVar 11) (mC (.int 1))) mNil)) (gSet 8) (mTst (m2 vNotIn (mTup (mCons (mVar 8) (mCons (m2 (vAdd false) (mVar 8) (mC (.int 1))) mNil))) (mVar 13))) (mC (.int 1))) (mLst false mNil)))) sNil
def b_law_15 : SS := sSeq (sIf (mAndT (mTru (mVar 12)) (mTst (m2 vNeS (mVar 16) (m2 vEqS (mCall s__law_behind (mCons (mVar 13) (mCons (mRev false (mRg1 true false (mVar 11))) mNil))) (mRg1 true false (mVar 11)))))) b_law_13 sNil) b_law_14
def b_law_16 : SS := sSeq (sIf (mTst (m2 vNeS (mLam lk__law_told [] (mCall s_sorts (mCons (mVar 11) (mCons (mVar 13) mNil)))) (mTup (mCons (mC (.int 0)) (mCons (mVar 16) mNil))))) b_law_12 sNil) b_law_15
def b_law_17 : SS := sSeq (sAsg (m2 vEqS (mLC [17] false (mSrc (mCall s__law_orders (mCons (mVar 11) mNil))) (gSet 17) (mTst (m2 vNeS (mCall s__law_behind (mCons (mVar 13) (mCons (mVar 17) mNil))) (mRg1 true false (mVar 11)))) (mC (.int 1))) (mLst false mNil)) (gSet 16)) b_law_16
def b_law_18 : SS := sSeq (sIf (mTst (m2 vNeS (mLam lk__law_told [] (mCall s_through (mCons (mVar 13) (mCons (mVar 15) mNil)))) (mTup (mCons (mC (.int 0)) (mCons (mCall s__law_behind (mCons (mVar 13) (mCons (mVar 15) mNil))) mNil))))) b_law_11 sNil) b_law_17
def b_law_19 : SS := sSeq (sAsg (mCall vTuple (mCons (mLC [8] false (mRange1 (mCons (mVar 11) mNil)) (gSet 8) (fun _ S => .ok true S) (m2 vSub (mCall s__law_draw (mCons (mVar 1) (mCons (mC (.int 9)) mNil))) (mC (.int 4)))) mNil)) (gSet 15)) b_law_18
def b_law_20 : SS := sSeq (sAsg (mCall vTuple (mCons (mVar 13) mNil)) (gSet 13)) b_law_19
def b_law_21 : SS := sSeq (sIf (mTst (m2 vEqS (mCall s__law_draw (mCons (mVar 1) (mCons (mC (.int 3)) mNil))) (mC (.int 0)))) b_law_10 sNil) b_law_20
def b_law_22 : SS := sSeq (sFor (mRange1 (mCons (mCall s__law_draw (mCons (mVar 1) (mCons (mC (.int 9)) mNil))) mNil)) (gSet 3) b_law_9) b_law_21
def b_law_23 : SS := sSeq (sAsg (mLst true mNil) (gSet 13)) b_law_22
def b_law_24 : SS := sSeq (sAsg (m2 vEqS (mCall s__law_draw (mCons (mVar 1) (mCons (mC (.int 2)) mNil))) (mC (.int 0))) (gSet 12)) b_law_23
def b_law_25 : SS := sSeq (sAsg (m2 (vAdd false) (mC (.int 2)) (mCall s__law_draw (mCons (mVar 1) (mCons (mC (.int 4)) mNil)))) (gSet 11)) b_law_24
def b_law_26 : SS := sSeq (sIf (mTst (m2 vNeS (mLC [10] false (mRange2 (mCons (mC (.int 1)) (mCons (mIf (mTst (m2 vIsNot (m2 vIx (mVar 9) (mC (.int 1))) (mC .non))) (m2 vIx (mVar 9) (mC (.int 1))) (mC (.int 25))) mNil))) (gSet 10) (mTst (m2 vNeS (mCall s__law_told_tiles (mCons (mVar 10) (mCons (mVar 2) mNil))) (mTup (mCons (mC (.int 0)) (mCons (mC .non) mNil))))) (mC (.int 1))) (mLst false mNil))) b_law_7 sNil) b_law_25
def b_law_27 : SS := sSeq (sIf (mAndT (mTst (m2 vIsNot (m2 vIx (mVar 9) (mC (.int 1))) (mC .non))) (mAndT (mTst (m2 vLe (m2 vIx (mVar 9) (mC (.int 1))) (mC (.int 12)))) (mTst (m2 vIs (mCall s__law_tiling (mCons (m2 vIx (mVar 9) (mC (.int 1))) (mCons (mVar 2) mNil))) (mC .non))))) b_law_6 sNil) b_law_26
def b_law_28 : SS := sSeq (sIf (mOrT (mTst (m2 vNeS (m2 vIx (mVar 9) (mC (.int 0))) (mC (.int 0)))) (mAndT (mTst (m2 vIsNot (mVar 5) (mC .non))) (mOrT (mTst (m2 vIs (m2 vIx (mVar 9) (mC (.int 1))) (mC .non))) (mTst (m2 vGt (m2 vIx (mVar 9) (mC (.int 1))) (mVar 4)))))) b_law_5 sNil) b_law_27
def b_law_29 : SS := sSeq (sAsg (mLam lk__law_told [] (mCall s_least_turn (mCons (mVar 2) mNil))) (gSet 9)) b_law_28
def b_law_30 : SS := sSeq (sIf (mTst (m2 vIsNot (mVar 5) (mC .non))) b_law_4 sNil) b_law_29
def b_law_31 : SS := sSeq (sIf (mTst (m2 vNeS (mCall s__law_told_tiles (mCons (mVar 4) (mCons (mVar 2) mNil))) (mTup (mCons (mC (.int 0)) (mCons (mVar 5) mNil))))) b_law_1 sNil) b_law_30
def b_law_32 : SS := sSeq (sAsg (mCall s__law_tiling (mCons (mVar 4) (mCons (mVar 2) mNil))) (gSet 5)) b_law_31
def b_law_33 : SS := sSeq (sAsg (m2 (vAdd false) (mC (.int 1)) (mCall s__law_draw (mCons (mVar 1) (mCons (mIf (mTst (m2 vEqS (mCall vLen (mCons (mVar 2) mNil)) (mC (.int 1)))) (mC (.int 10)) (mC (.int 12))) mNil)))) (gSet 4)) b_law_32
def b_law_34 : SS := sSeq (sAsg (mCall vTuple (mCons (mSortSet false (m2 (vAdd false) (mLst false (mCons (mC (.int 0)) mNil)) (mLC [3] false (mRange1 (mCons (mCall s__law_draw (mCons (mVar 1) (mCons (mC (.int 4)) mNil))) mNil)) (gSet 3) (fun _ S => .ok true S) (m2 (vAdd false) (mC (.int 1)) (mCall s__law_draw (mCons (mVar 1) (mCons (mC (.int 8)) mNil))))))) mNil)) (gSet 2)) b_law_33
def b_law_35 : SS := sSeq (sAsg (mCall s__law_stream (mCons (mVar 0) (mCons (mC (.int 0)) mNil))) (gSet 1)) b_law_34
def b_law : SS := b_law_35
def s_law : FSem := fF 1 18 false b_law
theorem e_law : dB g_law t_law.N t_law.scope 60 t_law.body = b_law := by kernel_rfl
/-! ### the head -/
def fnl : List He.DefD := [t_is_integer.datum "is_integer", t_is_below.datum "is_below", t_is_between.datum "is_between", t_check_tile.datum "check_tile", t_least_tiling.datum "least_tiling", t_tiles.datum "tiles", t_least_turn.datum "least_turn", t_check_net.datum "check_net", t_behind.datum "behind", t_through.datum "through", t_sorts.datum "sorts", t__law_cell.datum "_law_cell", t__law_stream.datum "_law_stream", t__law_draw.datum "_law_draw", t__law_read.datum "_law_read", t__law_told.datum "_law_told", t__law_common.datum "_law_common", t__law_lowest.datum "_law_lowest", t__law_plus.datum "_law_plus", t__law_power.datum "_law_power", t__law_sets.datum "_law_sets", t__law_orders.datum "_law_orders", t__law_less.datum "_law_less", t__law_times.datum "_law_times", t__law_sets_of.datum "_law_sets_of", t__law_covers.datum "_law_covers", t__law_tiling.datum "_law_tiling", t__law_told_tiles.datum "_law_told_tiles", t__law_behind.datum "_law_behind", t_law.datum "law"]
def tfl : List He.Defn := [(("is_integer" : Str), (none : Option Str)), (("is_below" : Str), (none : Option Str)), (("is_between" : Str), (none : Option Str)), (("check_tile" : Str), (none : Option Str)), (("least_tiling" : Str), (none : Option Str)), (("tiles" : Str), (none : Option Str)), (("least_turn" : Str), (none : Option Str)), (("check_net" : Str), (none : Option Str)), (("behind" : Str), (none : Option Str)), (("through" : Str), (none : Option Str)), (("sorts" : Str), (none : Option Str)), (("_law_cell" : Str), (none : Option Str)), (("_law_stream" : Str), (none : Option Str)), (("_law_draw" : Str), (none : Option Str)), (("_law_read" : Str), (none : Option Str)), (("_law_told" : Str), (none : Option Str)), (("_law_common" : Str), (none : Option Str)), (("_law_lowest" : Str), (none : Option Str)), (("_law_plus" : Str), (none : Option Str)), (("_law_power" : Str), (none : Option Str)), (("_law_sets" : Str), (none : Option Str)), (("_law_orders" : Str), (none : Option Str)), (("_law_less" : Str), (none : Option Str)), (("_law_times" : Str), (none : Option Str)), (("_law_sets_of" : Str), (none : Option Str)), (("_law_covers" : Str), (none : Option Str)), (("_law_tiling" : Str), (none : Option Str)), (("_law_told_tiles" : Str), (none : Option Str)), (("_law_behind" : Str), (none : Option Str)), (("law" : Str), (none : Option Str))]
def lds : List (Str × Str) := [("_law_told_tiles", "_law_told_tiles"), ("law", "law")]
def exq (K : PySem.W.Frag) : Bool := lamTabs K tfl lds && toldX K nms.excs k__law_told w__law_told
section
variable {P : Program} {w : World} {K : PySem.W.Frag} {mg : Str → Option Value} {base h : Heap} (KX : K.In h) (G : h.Ns mainGlobals mg) (c : He.SaysD nms.fa fnl K) (cx : exq K = true) (tb : ∀ p ∈ tfl.map (He.cT K), LamX.TabB base mg p.1 p.2)
include KX G c cx tb
omit cx tb in
theorem d_is_integer : Said K mg "is_integer" t_is_integer := said_ok KX G c 0 0 rfl rfl fun _ _ _ _ _ _ us hl => match us, hl with | [_], _ => rfl
omit KX G c cx tb in
theorem sc_is_integer : FnScope t_is_integer.N t_is_integer.ps t_is_integer.scope := ⟨rfl, rfl, rfl, by decide +kernel, rfl, by decide +kernel, by decide +kernel⟩
theorem c_is_integer : Cal P w K mg base (nms.cl K) 1 "is_integer" s_is_integer := (d_is_integer KX G c).cal (Γ := g_is_integer) (k := 0) (top_ok KX G c) CalL.nil sc_is_integer (dF_is e_is_integer)
omit cx tb in
theorem d_is_below : Said K mg "is_below" t_is_below := said_ok KX G c 1 1 rfl rfl fun _ _ _ _ _ _ us hl => match us, hl with | [_, _], _ => rfl
omit KX G c cx tb in
theorem sc_is_below : FnScope t_is_below.N t_is_below.ps t_is_below.scope := ⟨rfl, rfl, rfl, by decide +kernel, rfl, by decide +kernel, by decide +kernel⟩
theorem c_is_below : Cal P w K mg base (nms.cl K) 2 "is_below" s_is_below := (d_is_below KX G c).cal (Γ := g_is_below) (k := 1) (top_ok KX G c) (CalL.cons ((c_is_integer KX G c cx tb).mono (by decide)) CalL.nil) sc_is_below (dF_is e_is_below)
omit cx tb in
theorem d_is_between : Said K mg "is_between" t_is_between := said_ok KX G c 2 2 rfl rfl fun _ _ _ _ _ _ us hl => match us, hl with | [_, _, _], _ => rfl
omit KX G c cx tb in
theorem sc_is_between : FnScope t_is_between.N t_is_between.ps t_is_between.scope := ⟨rfl, rfl, rfl, by decide +kernel, rfl, by decide +kernel, by decide +kernel⟩
theorem c_is_between : Cal P w K mg base (nms.cl K) 2 "is_between" s_is_between := (d_is_between KX G c).cal (Γ := g_is_between) (k := 1) (top_ok KX G c) (CalL.cons ((c_is_integer KX G c cx tb).mono (by decide)) CalL.nil) sc_is_between (dF_is e_is_between)
omit cx tb in
theorem d_check_tile : Said K mg "check_tile" t_check_tile := said_ok KX G c 3 3 rfl rfl fun _ _ _ _ _ _ us hl => match us, hl with | [_], _ => rfl
omit KX G c cx tb in
theorem sc_check_tile : FnScope t_check_tile.N t_check_tile.ps t_check_tile.scope := ⟨rfl, rfl, rfl, by decide +kernel, rfl, by decide +kernel, by decide +kernel⟩
theorem c_check_tile : Cal P w K mg base (nms.cl K) 3 "check_tile" s_check_tile := (d_check_tile KX G c).cal (Γ := g_check_tile) (k := 2) (top_ok KX G c) (CalL.cons ((c_is_between KX G c cx tb).mono (by decide)) CalL.nil) sc_check_tile (dF_is e_check_tile)
omit cx tb in
theorem d_least_tiling : Said K mg "least_tiling" t_least_tiling := said_ok KX G c 4 4 rfl rfl fun _ _ _ _ _ _ us hl => match us, hl with | [_, _, _, _], _ => rfl
omit KX G c cx tb in
theorem sc_least_tiling : FnScope t_least_tiling.N t_least_tiling.ps t_least_tiling.scope := ⟨rfl, rfl, rfl, by decide +kernel, rfl, by decide +kernel, by decide +kernel⟩
theorem c_least_tiling : ∀ n, Cal P w K mg base (nms.cl K) (0 + n) "least_tiling" (s_least_tiling n)
  | 0 => (d_least_tiling KX G c).none
  | n + 1 => (d_least_tiling KX G c).cal (Γ := g_least_tiling (s_least_tiling n)) (top_ok KX G c) (CalL.cons (c_least_tiling n) CalL.nil) sc_least_tiling (dF_is (e_least_tiling (s_least_tiling n)))
omit cx tb in
theorem d_tiles : Said K mg "tiles" t_tiles := said_ok KX G c 5 5 rfl rfl fun _ _ _ _ _ _ us hl => match us, hl with | [_, _], _ => rfl
omit KX G c cx tb in
theorem sc_tiles : FnScope t_tiles.N t_tiles.ps t_tiles.scope := ⟨rfl, rfl, rfl, by decide +kernel, rfl, by decide +kernel, by decide +kernel⟩
theorem c_tiles : Cal P w K mg base (nms.cl K) 27 "tiles" s_tiles := (d_tiles KX G c).cal (Γ := g_tiles) (k := 26) (top_ok KX G c) (CalL.cons ((c_check_tile KX G c cx tb).mono (by decide)) (CalL.cons ((c_is_between KX G c cx tb).mono (by decide)) (CalL.cons ((c_least_tiling KX G c cx tb 26).mono (by decide)) CalL.nil))) sc_tiles (dF_is e_tiles)
omit cx tb in
theorem d_least_turn : Said K mg "least_turn" t_least_turn := said_ok KX G c 6 6 rfl rfl fun _ _ _ _ _ _ us hl => match us, hl with | [_], _ => rfl
omit KX G c cx tb in
theorem sc_least_turn : FnScope t_least_turn.N t_least_turn.ps t_least_turn.scope := ⟨rfl, rfl, rfl, by decide +kernel, rfl, by decide +kernel, by decide +kernel⟩
theorem c_least_turn : Cal P w K mg base (nms.cl K) 28 "least_turn" s_least_turn := (d_least_turn KX G c).cal (Γ := g_least_turn) (k := 27) (top_ok KX G c) (CalL.cons ((c_check_tile KX G c cx tb).mono (by decide)) (CalL.cons ((c_tiles KX G c cx tb).mono (by decide)) CalL.nil)) sc_least_turn (dF_is e_least_turn)
omit cx tb in
theorem d_check_net : Said K mg "check_net" t_check_net := said_ok KX G c 7 7 rfl rfl fun _ _ _ _ _ _ us hl => match us, hl with | [_, _], _ => rfl
omit KX G c cx tb in
theorem sc_check_net : FnScope t_check_net.N t_check_net.ps t_check_net.scope := ⟨rfl, rfl, rfl, by decide +kernel, rfl, by decide +kernel, by decide +kernel⟩
theorem c_check_net : Cal P w K mg base (nms.cl K) 3 "check_net" s_check_net := (d_check_net KX G c).cal (Γ := g_check_net) (k := 2) (top_ok KX G c) (CalL.cons ((c_is_below KX G c cx tb).mono (by decide)) CalL.nil) sc_check_net (dF_is e_check_net)
omit cx tb in
theorem d_behind : Said K mg "behind" t_behind := said_ok KX G c 8 8 rfl rfl fun _ _ _ _ _ _ us hl => match us, hl with | [_, _], _ => rfl
omit KX G c cx tb in
theorem sc_behind : FnScope t_behind.N t_behind.ps t_behind.scope := ⟨rfl, rfl, rfl, by decide +kernel, rfl, by decide +kernel, by decide +kernel⟩
theorem c_behind : Cal P w K mg base (nms.cl K) 1 "behind" s_behind := (d_behind KX G c).cal (Γ := g_behind) (k := 0) (top_ok KX G c) CalL.nil sc_behind (dF_is e_behind)
omit cx tb in
theorem d_through : Said K mg "through" t_through := said_ok KX G c 9 9 rfl rfl fun _ _ _ _ _ _ us hl => match us, hl with | [_, _], _ => rfl
omit KX G c cx tb in
theorem sc_through : FnScope t_through.N t_through.ps t_through.scope := ⟨rfl, rfl, rfl, by decide +kernel, rfl, by decide +kernel, by decide +kernel⟩
theorem c_through : Cal P w K mg base (nms.cl K) 4 "through" s_through := (d_through KX G c).cal (Γ := g_through) (k := 3) (top_ok KX G c) (CalL.cons ((c_behind KX G c cx tb).mono (by decide)) (CalL.cons ((c_check_net KX G c cx tb).mono (by decide)) (CalL.cons ((c_is_integer KX G c cx tb).mono (by decide)) CalL.nil))) sc_through (dF_is e_through)
omit cx tb in
theorem d_sorts : Said K mg "sorts" t_sorts := said_ok KX G c 10 10 rfl rfl fun _ _ _ _ _ _ us hl => match us, hl with | [_, _], _ => rfl
omit KX G c cx tb in
theorem sc_sorts : FnScope t_sorts.N t_sorts.ps t_sorts.scope := ⟨rfl, rfl, rfl, by decide +kernel, rfl, by decide +kernel, by decide +kernel⟩
theorem c_sorts : Cal P w K mg base (nms.cl K) 4 "sorts" s_sorts := (d_sorts KX G c).cal (Γ := g_sorts) (k := 3) (top_ok KX G c) (CalL.cons ((c_behind KX G c cx tb).mono (by decide)) (CalL.cons ((c_check_net KX G c cx tb).mono (by decide)) (CalL.cons ((c_is_between KX G c cx tb).mono (by decide)) CalL.nil))) sc_sorts (dF_is e_sorts)
omit cx tb in
theorem d__law_cell : Said K mg "_law_cell" t__law_cell := said_ok KX G c 11 11 rfl rfl fun _ _ _ _ _ _ us hl => match us, hl with | [_, _], _ => rfl
omit KX G c cx tb in
theorem sc__law_cell : FnScope t__law_cell.N t__law_cell.ps t__law_cell.scope := ⟨rfl, rfl, rfl, by decide +kernel, rfl, by decide +kernel, by decide +kernel⟩
theorem c__law_cell : Cal P w K mg base (nms.cl K) 1 "_law_cell" s__law_cell := (d__law_cell KX G c).cal (Γ := g__law_cell) (k := 0) (top_ok KX G c) CalL.nil sc__law_cell (dF_is e__law_cell)
omit cx tb in
theorem d__law_stream : Said K mg "_law_stream" t__law_stream := said_ok KX G c 12 12 rfl rfl fun _ _ _ _ _ _ us hl => match us, hl with | [_, _], _ => rfl
omit KX G c cx tb in
theorem sc__law_stream : FnScope t__law_stream.N t__law_stream.ps t__law_stream.scope := ⟨rfl, rfl, rfl, by decide +kernel, rfl, by decide +kernel, by decide +kernel⟩
theorem c__law_stream : Cal P w K mg base (nms.cl K) 2 "_law_stream" s__law_stream := (d__law_stream KX G c).cal (Γ := g__law_stream) (k := 1) (top_ok KX G c) (CalL.cons ((c__law_cell KX G c cx tb).mono (by decide)) CalL.nil) sc__law_stream (dF_is e__law_stream)
omit cx tb in
theorem d__law_draw : Said K mg "_law_draw" t__law_draw := said_ok KX G c 13 13 rfl rfl fun _ _ _ _ _ _ us hl => match us, hl with | [_, _], _ => rfl
omit KX G c cx tb in
theorem sc__law_draw : FnScope t__law_draw.N t__law_draw.ps t__law_draw.scope := ⟨rfl, rfl, rfl, by decide +kernel, rfl, by decide +kernel, by decide +kernel⟩
theorem c__law_draw : Cal P w K mg base (nms.cl K) 1 "_law_draw" s__law_draw := (d__law_draw KX G c).cal (Γ := g__law_draw) (k := 0) (top_ok KX G c) CalL.nil sc__law_draw (dF_is e__law_draw)
omit cx tb in
theorem d__law_read : Said K mg "_law_read" t__law_read := said_ok KX G c 14 14 rfl rfl fun _ _ _ _ _ _ us hl => match us, hl with | [_], _ => rfl
omit KX G c cx tb in
theorem sc__law_read : FnScope t__law_read.N t__law_read.ps t__law_read.scope := ⟨rfl, rfl, rfl, by decide +kernel, rfl, by decide +kernel, by decide +kernel⟩
theorem c__law_read : ∀ n, Cal P w K mg base (nms.cl K) (0 + n) "_law_read" (s__law_read n)
  | 0 => (d__law_read KX G c).none
  | n + 1 => (d__law_read KX G c).cal (Γ := g__law_read (s__law_read n)) (top_ok KX G c) (CalL.cons (c__law_read n) CalL.nil) sc__law_read (dF_is (e__law_read (s__law_read n)))
omit cx tb in
theorem d__law_told : Said K mg "_law_told" t__law_told := said_ok KX G c 15 15 rfl rfl fun _ _ _ _ _ _ us hl => match us, hl with | [_], _ => rfl
omit KX G c cx tb in
theorem sc__law_told : FnScope t__law_told.N t__law_told.ps t__law_told.scope := ⟨rfl, rfl, rfl, by decide +kernel, rfl, by decide +kernel, by decide +kernel⟩
theorem l__law_told (j : Nat) (hj : 4 ≤ j + 1) : LamCal P w K mg base (nms.cl K) j (j + 2) "_law_told" 0 lk__law_told := (d__law_told KX G c).told (t := k__law_told) (i := 1) rfl sc__law_told rfl (by kernel_rfl) (by decide +kernel) ((c__law_read KX G c cx tb 4).mono hj) (toldX_ok (And.right (Bool.and_eq_true_iff.mp cx)) (glo_at KX G c (by decide)) (glo_at KX G c (by decide)) (free_at KX G c (by decide))) (Nat.le_refl _)
omit cx tb in
theorem d__law_common : Said K mg "_law_common" t__law_common := said_ok KX G c 16 16 rfl rfl fun _ _ _ _ _ _ us hl => match us, hl with | [_, _], _ => rfl
omit KX G c cx tb in
theorem sc__law_common : FnScope t__law_common.N t__law_common.ps t__law_common.scope := ⟨rfl, rfl, rfl, by decide +kernel, rfl, by decide +kernel, by decide +kernel⟩
theorem c__law_common : Cal P w K mg base (nms.cl K) 1 "_law_common" s__law_common := (d__law_common KX G c).cal (Γ := g__law_common) (k := 0) (top_ok KX G c) CalL.nil sc__law_common (dF_is e__law_common)
omit cx tb in
theorem d__law_lowest : Said K mg "_law_lowest" t__law_lowest := said_ok KX G c 17 17 rfl rfl fun _ _ _ _ _ _ us hl => match us, hl with | [_, _], _ => rfl
omit KX G c cx tb in
theorem sc__law_lowest : FnScope t__law_lowest.N t__law_lowest.ps t__law_lowest.scope := ⟨rfl, rfl, rfl, by decide +kernel, rfl, by decide +kernel, by decide +kernel⟩
theorem c__law_lowest : Cal P w K mg base (nms.cl K) 2 "_law_lowest" s__law_lowest := (d__law_lowest KX G c).cal (Γ := g__law_lowest) (k := 1) (top_ok KX G c) (CalL.cons ((c__law_common KX G c cx tb).mono (by decide)) CalL.nil) sc__law_lowest (dF_is e__law_lowest)
omit cx tb in
theorem d__law_plus : Said K mg "_law_plus" t__law_plus := said_ok KX G c 18 18 rfl rfl fun _ _ _ _ _ _ us hl => match us, hl with | [_, _], _ => rfl
omit KX G c cx tb in
theorem sc__law_plus : FnScope t__law_plus.N t__law_plus.ps t__law_plus.scope := ⟨rfl, rfl, rfl, by decide +kernel, rfl, by decide +kernel, by decide +kernel⟩
theorem c__law_plus : Cal P w K mg base (nms.cl K) 3 "_law_plus" s__law_plus := (d__law_plus KX G c).cal (Γ := g__law_plus) (k := 2) (top_ok KX G c) (CalL.cons ((c__law_lowest KX G c cx tb).mono (by decide)) CalL.nil) sc__law_plus (dF_is e__law_plus)
omit cx tb in
theorem d__law_power : Said K mg "_law_power" t__law_power := said_ok KX G c 19 19 rfl rfl fun _ _ _ _ _ _ us hl => match us, hl with | [_, _], _ => rfl
omit KX G c cx tb in
theorem sc__law_power : FnScope t__law_power.N t__law_power.ps t__law_power.scope := ⟨rfl, rfl, rfl, by decide +kernel, rfl, by decide +kernel, by decide +kernel⟩
theorem c__law_power : Cal P w K mg base (nms.cl K) 1 "_law_power" s__law_power := (d__law_power KX G c).cal (Γ := g__law_power) (k := 0) (top_ok KX G c) CalL.nil sc__law_power (dF_is e__law_power)
omit cx tb in
theorem d__law_sets : Said K mg "_law_sets" t__law_sets := said_ok KX G c 20 20 rfl rfl fun _ _ _ _ _ _ us hl => match us, hl with | [_], _ => rfl
omit KX G c cx tb in
theorem sc__law_sets : FnScope t__law_sets.N t__law_sets.ps t__law_sets.scope := ⟨rfl, rfl, rfl, by decide +kernel, rfl, by decide +kernel, by decide +kernel⟩
theorem c__law_sets : Cal P w K mg base (nms.cl K) 1 "_law_sets" s__law_sets := (d__law_sets KX G c).cal (Γ := g__law_sets) (k := 0) (top_ok KX G c) CalL.nil sc__law_sets (dF_is e__law_sets)
omit cx tb in
theorem d__law_orders : Said K mg "_law_orders" t__law_orders := said_ok KX G c 21 21 rfl rfl fun _ _ _ _ _ _ us hl => match us, hl with | [_], _ => rfl
omit KX G c cx tb in
theorem sc__law_orders : FnScope t__law_orders.N t__law_orders.ps t__law_orders.scope := ⟨rfl, rfl, rfl, by decide +kernel, rfl, by decide +kernel, by decide +kernel⟩
theorem c__law_orders : Cal P w K mg base (nms.cl K) 1 "_law_orders" s__law_orders := (d__law_orders KX G c).cal (Γ := g__law_orders) (k := 0) (top_ok KX G c) CalL.nil sc__law_orders (dF_is e__law_orders)
omit cx tb in
theorem d__law_less : Said K mg "_law_less" t__law_less := said_ok KX G c 22 22 rfl rfl fun _ _ _ _ _ _ us hl => match us, hl with | [_, _], _ => rfl
omit KX G c cx tb in
theorem sc__law_less : FnScope t__law_less.N t__law_less.ps t__law_less.scope := ⟨rfl, rfl, rfl, by decide +kernel, rfl, by decide +kernel, by decide +kernel⟩
theorem c__law_less : Cal P w K mg base (nms.cl K) 1 "_law_less" s__law_less := (d__law_less KX G c).cal (Γ := g__law_less) (k := 0) (top_ok KX G c) CalL.nil sc__law_less (dF_is e__law_less)
omit cx tb in
theorem d__law_times : Said K mg "_law_times" t__law_times := said_ok KX G c 23 23 rfl rfl fun _ _ _ _ _ _ us hl => match us, hl with | [_, _], _ => rfl
omit KX G c cx tb in
theorem sc__law_times : FnScope t__law_times.N t__law_times.ps t__law_times.scope := ⟨rfl, rfl, rfl, by decide +kernel, rfl, by decide +kernel, by decide +kernel⟩
theorem c__law_times : Cal P w K mg base (nms.cl K) 3 "_law_times" s__law_times := (d__law_times KX G c).cal (Γ := g__law_times) (k := 2) (top_ok KX G c) (CalL.cons ((c__law_lowest KX G c cx tb).mono (by decide)) CalL.nil) sc__law_times (dF_is e__law_times)
omit cx tb in
theorem d__law_sets_of : Said K mg "_law_sets_of" t__law_sets_of := said_ok KX G c 24 24 rfl rfl fun _ _ _ _ _ _ us hl => match us, hl with | [_, _], _ => rfl
omit KX G c cx tb in
theorem sc__law_sets_of : FnScope t__law_sets_of.N t__law_sets_of.ps t__law_sets_of.scope := ⟨rfl, rfl, rfl, by decide +kernel, rfl, by decide +kernel, by decide +kernel⟩
theorem c__law_sets_of : Cal P w K mg base (nms.cl K) 1 "_law_sets_of" s__law_sets_of := (d__law_sets_of KX G c).cal (Γ := g__law_sets_of) (k := 0) (top_ok KX G c) CalL.nil sc__law_sets_of (dF_is e__law_sets_of)
omit cx tb in
theorem d__law_covers : Said K mg "_law_covers" t__law_covers := said_ok KX G c 25 25 rfl rfl fun _ _ _ _ _ _ us hl => match us, hl with | [_, _, _], _ => rfl
omit KX G c cx tb in
theorem sc__law_covers : FnScope t__law_covers.N t__law_covers.ps t__law_covers.scope := ⟨rfl, rfl, rfl, by decide +kernel, rfl, by decide +kernel, by decide +kernel⟩
theorem c__law_covers : Cal P w K mg base (nms.cl K) 1 "_law_covers" s__law_covers := (d__law_covers KX G c).cal (Γ := g__law_covers) (k := 0) (top_ok KX G c) CalL.nil sc__law_covers (dF_is e__law_covers)
omit cx tb in
theorem d__law_tiling : Said K mg "_law_tiling" t__law_tiling := said_ok KX G c 26 26 rfl rfl fun _ _ _ _ _ _ us hl => match us, hl with | [_, _], _ => rfl
omit KX G c cx tb in
theorem sc__law_tiling : FnScope t__law_tiling.N t__law_tiling.ps t__law_tiling.scope := ⟨rfl, rfl, rfl, by decide +kernel, rfl, by decide +kernel, by decide +kernel⟩
theorem c__law_tiling : Cal P w K mg base (nms.cl K) 2 "_law_tiling" s__law_tiling := (d__law_tiling KX G c).cal (Γ := g__law_tiling) (k := 1) (top_ok KX G c) (CalL.cons ((c__law_covers KX G c cx tb).mono (by decide)) (CalL.cons ((c__law_sets_of KX G c cx tb).mono (by decide)) CalL.nil)) sc__law_tiling (dF_is e__law_tiling)
omit cx tb in
theorem d__law_told_tiles : Said K mg "_law_told_tiles" t__law_told_tiles := said_ok KX G c 27 27 rfl rfl fun _ _ _ _ _ _ us hl => match us, hl with | [_, _], _ => rfl
omit KX G c cx tb in
theorem sc__law_told_tiles : FnScope t__law_told_tiles.N t__law_told_tiles.ps t__law_told_tiles.scope := ⟨rfl, rfl, rfl, by decide +kernel, rfl, by decide +kernel, by decide +kernel⟩
theorem c__law_told_tiles : Cal P w K mg base (nms.cl K) 30 "_law_told_tiles" s__law_told_tiles := (d__law_told_tiles KX G c).calL (Γ0 := g0__law_told_tiles) (k := 27) (tf := tfl) (lds := lds) (top_ok KX G c) rfl (CalL.cons ((c_tiles KX G c cx tb).mono (by decide)) CalL.nil) sc__law_told_tiles (And.left (Bool.and_eq_true_iff.mp cx)) (by decide +kernel) (by decide +kernel) tb (lam_cons (l__law_told KX G c cx tb 27 (by decide)) lam_nil) (dF_is e__law_told_tiles)
omit cx tb in
theorem d__law_behind : Said K mg "_law_behind" t__law_behind := said_ok KX G c 28 28 rfl rfl fun _ _ _ _ _ _ us hl => match us, hl with | [_, _], _ => rfl
omit KX G c cx tb in
theorem sc__law_behind : FnScope t__law_behind.N t__law_behind.ps t__law_behind.scope := ⟨rfl, rfl, rfl, by decide +kernel, rfl, by decide +kernel, by decide +kernel⟩
theorem c__law_behind : Cal P w K mg base (nms.cl K) 1 "_law_behind" s__law_behind := (d__law_behind KX G c).cal (Γ := g__law_behind) (k := 0) (top_ok KX G c) CalL.nil sc__law_behind (dF_is e__law_behind)
omit cx tb in
theorem d_law : Said K mg "law" t_law := said_ok KX G c 29 29 rfl rfl fun _ _ _ _ _ _ us hl => match us, hl with | [_], _ => rfl
omit KX G c cx tb in
theorem sc_law : FnScope t_law.N t_law.ps t_law.scope := ⟨rfl, rfl, rfl, by decide +kernel, rfl, by decide +kernel, by decide +kernel⟩
theorem f_law {fd : FuncData} (F : FunD K t_law.name t_law.name t_law.params t_law.body t_law.scope [] [] (He.ga K "law") fd) : FnG P w K mg base 33 (He.ga K "law") fd t_law.ps (spM K (nms.cl K) s_law) :=
  (show dF g_law t_law = s_law from dF_is e_law) ▸ fn_okL (Γ0 := g0_law) (k := 30) (top_ok KX G c) rfl (CalL.cons ((c__law_behind KX G c cx tb).mono (by decide)) (CalL.cons ((c__law_covers KX G c cx tb).mono (by decide)) (CalL.cons ((c__law_draw KX G c cx tb).mono (by decide)) (CalL.cons ((c__law_orders KX G c cx tb).mono (by decide)) (CalL.cons ((c__law_stream KX G c cx tb).mono (by decide)) (CalL.cons ((c__law_tiling KX G c cx tb).mono (by decide)) (CalL.cons ((c__law_told_tiles KX G c cx tb).mono (by decide)) (CalL.cons ((c_least_turn KX G c cx tb).mono (by decide)) (CalL.cons ((c_sorts KX G c cx tb).mono (by decide)) (CalL.cons ((c_through KX G c cx tb).mono (by decide)) CalL.nil)))))))))) F sc_law (lam_here (tf := tfl) (lds := lds) (And.left (Bool.and_eq_true_iff.mp cx)) (by decide +kernel) (by decide +kernel) F tb) (lam_cons (l__law_told KX G c cx tb 30 (by decide)) lam_nil)
end
def loose0 : List Str := [("NightError" : Str), ("BadLooks" : Str), ("OutOfRange" : Str), ("is_integer" : Str), ("is_below" : Str), ("is_between" : Str), ("MOST_TURN" : Str), ("MOST_IN_SET" : Str), ("MOST_NUMBER" : Str), ("check_tile" : Str), ("least_tiling" : Str), ("tiles" : Str), ("least_turn" : Str), ("MOST_PLACES" : Str), ("MOST_PAIRS" : Str), ("check_net" : Str), ("behind" : Str), ("through" : Str), ("sorts" : Str), ("_law_cell" : Str), ("_law_stream" : Str), ("_law_draw" : Str), ("_law_read" : Str), ("_law_told" : Str), ("_law_common" : Str), ("_law_lowest" : Str), ("_law_plus" : Str), ("_law_power" : Str), ("_law_sets" : Str), ("_law_orders" : Str), ("_law_less" : Str), ("_law_times" : Str), ("_law_sets_of" : Str), ("_law_covers" : Str), ("_law_tiling" : Str), ("_law_told_tiles" : Str), ("_law_behind" : Str)]
def loose : List Str := loose0
abbrev R : PySem.W.OpenRow := PySem.W.OpenLaw.row PySem.Challenge.rw_allnights_k74_tiles_and_nets
abbrev hk : PySem.W.Hook := He.hookX 4 nms.fa fnl [] tfl exq
def ob (s : PySem.W.SharedT) : He.AlX := He.obsX 4 nms.fa fnl [] tfl exq (HandSHeadRun.getT s)
theorem ob_eq (s : PySem.W.SharedT) : ob s = hk.obs s.abs := He.obsX_eq (HandSHeadRun.getT_eq s)
theorem run (w : World) : HandSHeadRun.RunEq R (PySem.W.view R.prog [42]) hk ob 4000 loose w := by
  intro os
  kernel_rfl
theorem text {P : Program} {w : World} {mg : Str → Option Value} {fa : Addr} {h : Heap} (Y : ∃ K : PySem.W.Frag, K.In h ∧ He.SaysX nms.fa fnl [] tfl exq w h K) (G : h.Ns mainGlobals mg) (hm : mg "law" = some (.ref fa)) (sem : ∀ ns : List Int, ns.length ≤ 63 → (∀ z ∈ ns, Builtin.Int.intBits z ≤ 1048576) → ∃ S, s_law [.scr ns] [] = .ok (.bl true) S) : LawText P w mg fa h 33 63 "script" :=
  text_of (lds := lds) Y hm (fun K cx => (And.left (Bool.and_eq_true_iff.mp cx))) (fun K KX c => ⟨t_law, d_law KX G c, rfl, fun fd F cx base kb gb tb => f_law KX G c cx tb F⟩) sem
end K74
open PySem PySem.W PySem.Calls PyProof.Rows
theorem K74.holds_of (sem : ∀ ns : List Int, ns.length ≤ 63 → (∀ z ∈ ns, Builtin.Int.intBits z ≤ 1048576) → ∃ S, K74.s_law [.scr ns] [] = .ok (.bl true) S) : PySem.Challenge.rw_allnights_k74_tiles_and_nets.Holds := by
  w_on; o_law
  refine HandSHeadRun.head_any (r := K74.R) (q := view K74.R.prog [42]) (H := K74.hk) (ob := K74.ob) (M := 4000) (loose := K74.loose) (d := HandSHeadRun.topDef K74.R.prog 42) (kwd := []) K74.ob_eq (by kernel_rfl) (fun s => by kernel_rfl) K74.run
    (by kernel_rfl) (by kernel_rfl) (by kernel_rfl) (by rfl) (by first | assumption | decide +kernel) (by decide +kernel) ⟨rfl, rfl, rfl, rfl, rfl, by decide +kernel⟩ ?hw ?hc
  case hw => w_witness2
  case hc =>
    refine Mir.walk_law (l := PySem.Challenge.rw_allnights_k74_tiles_and_nets) (n := 63) (k := 33) (x := "script") rfl (by decide) (by kernel_rfl) ⟨rfl, by decide, by decide⟩ fun w mg fa h Y G hm => ?_
    have e : (HandSHeadRun.topDef K74.R.prog 42).name = ("law" : PySem.Str) := by kernel_rfl
    exact K74.text Y G (e ▸ hm) sem
end

section
set_option Elab.async false
set_option linter.all false
set_option maxRecDepth 100000
/-! MirD: draws, of both kinds. -/
namespace Mir
open PySem PySem.Spec
/-- a box of draws: its number, its mixer -/
structure Bx where
  a : Int
  b : Int
  ha : 0 ≤ a
  hb : 0 ≤ b
  hc : b < 2147483648
def bx (x : Bx) : Ob := .lst [.int x.a, .int x.b]
@[simp] theorem bx_lt (n : Nat) (x : Bx) : Ob.lt n (bx x) = true := by simp [bx, Ob.lt, lts, D.lt]
/-! ### the first kind -/
def dA : SS := (sSeq (sIf (mTst (m2 vGt (m2 vIx (mVar 0) (mC (.int 0))) (mC (.int 0)))) (sSeq (sAsg (m2 vMod (m2 vIx (mVar 0) (mC (.int 0))) (mVar 1)) (gSet 2)) (sSeq (sAsg (m2 vDiv (m2 vIx (mVar 0) (mC (.int 0))) (mVar 1)) (gSubD (mVar 0) (mC (.int 0)))) (sSeq (sRet (mCall vIntC (mCons (mVar 2) mNil))) sNil))) sNil)
  (sSeq (sAsg (m2 vMod (mCall vIntC (mCons (m2 (vAdd false) (m2 (vMul false) (m2 vIx (mVar 0) (mC (.int 1))) (mC (.int 48271))) (mC (.int 12345))) mNil)) (mC (.int 2147483647))) (gSubD (mVar 0) (mC (.int 1)))) (sSeq (sRet (m2 vMod (mCall vIntC (mCons (m2 vDiv (m2 vIx (mVar 0) (mC (.int 1))) (mC (.int 64))) mNil)) (mVar 1))) sNil)))
def sDrawA : FSem := fF 2 3 false dA
/-- the number drawn, the box behind it -/
def dvA (x : Bx) (m : Int) : Int := if 0 < x.a then x.a % m else (x.b * 48271 + 12345) % 2147483647 / 64 % m
def dnA (x : Bx) (m : Int) : Bx := if h : 0 < x.a ∧ 0 < m then ⟨x.a / m, x.b, Int.ediv_nonneg x.ha (by omega), x.hb, x.hc⟩ else
  ⟨x.a, (x.b * 48271 + 12345) % 2147483647, x.ha, Int.emod_nonneg _ (by decide), by have := Int.emod_lt_of_pos (x.b * 48271 + 12345) (show (0 : Int) < 2147483647 by decide); omega⟩
theorem dvA_lo (x : Bx) {m : Int} (h : 0 < m) : 0 ≤ dvA x m := by
  unfold dvA
  split <;> exact Int.emod_nonneg _ (by omega)
theorem dvA_hi (x : Bx) {m : Int} (h : 0 < m) : dvA x m < m := by
  unfold dvA
  split <;> exact Int.emod_lt_of_pos _ h
theorem fin_box (x y : Bx) (R : Store) (i : Int) : Mir.finish false (bx x :: R) (.rt (.int i) (bx y :: R)) = .ok (.int i) (bx y :: R) := by
  have hb : backOk (R.length + 1) R R = true := by simpa using backOk_app (n := R.length + 1) R []
  unfold Mir.finish
  simp [backOk, hb, outD, D.lt]
theorem drawA (x : Bx) (m : Int) (R : Store) (h : 0 < m) (h2 : m < 18446744073709551616) : sDrawA [.ref 0, .int m] (bx x :: R) = .ok (.int (dvA x m)) (bx (dnA x m) :: R) := by
  obtain ⟨a, b, ha, hb, hc⟩ := x
  by_cases h0 : 0 < a
  · have e1 : dvA ⟨a, b, ha, hb, hc⟩ m = a % m := if_pos h0
    have e2 : bx (dnA ⟨a, b, ha, hb, hc⟩ m) = .lst [.int (a / m), .int b] := by unfold dnA; rw [dif_pos (show 0 < a ∧ 0 < m from ⟨h0, h⟩)]; rfl
    have := fin_box ⟨a, b, ha, hb, hc⟩ (dnA ⟨a, b, ha, hb, hc⟩ m) R (a % m)
    rw [e2] at this
    rw [e1, e2, ← this]
    simp [sDrawA, dA, bx, h0, h, h2]
  · have e1 : dvA ⟨a, b, ha, hb, hc⟩ m = (b * 48271 + 12345) % 2147483647 / 64 % m := if_neg h0
    have e2 : bx (dnA ⟨a, b, ha, hb, hc⟩ m) = .lst [.int a, .int ((b * 48271 + 12345) % 2147483647)] := by unfold dnA; rw [dif_neg (show ¬ (0 < a ∧ 0 < m) from fun z => h0 z.1)]; rfl
    have := fin_box ⟨a, b, ha, hb, hc⟩ (dnA ⟨a, b, ha, hb, hc⟩ m) R ((b * 48271 + 12345) % 2147483647 / 64 % m)
    rw [e2] at this
    rw [e1, e2, ← this]
    have hn : b.natAbs < 18446744073709551616 := by omega
    simp [sDrawA, dA, bx, h0, h, hn]
theorem fin_bxb (x y : Bx) (R T : Store) (b : Bool) : Mir.finish false (bx x :: R) (.rt (.bl b) (bx y :: (R ++ T))) = .ok (.bl b) (bx y :: R) := by
  have hb : backOk (R.length + 1) R (R ++ T) = true := backOk_app (n := R.length + 1) R T
  unfold Mir.finish
  simp [backOk, hb, outD, D.lt]
@[simp] theorem fin_bxb1 (x y : Bx) (b : Bool) : Mir.finish false [bx x] (.rt (.bl b) [bx y]) = .ok (.bl b) [bx y] := fin_bxb x y [] [] b
@[simp] theorem fin_bxbT (x y : Bx) (b : Bool) (T : Store) : Mir.finish false [bx x] (.rt (.bl b) (bx y :: T)) = .ok (.bl b) [bx y] := fin_bxb x y [] T b
/-! ### the second kind -/
def dB2 : SS := sSeq (sIf (mTst (m2 vGt (m2 vIx (mVar 0) (mC (.int 0))) (mC (.int 0))))
  (sSeq (sAsg (m2 vIx (mVar 0) (mC (.int 0))) (gSet 2)) (sSeq (sAsg (mCall vIntC (mCons (m2 vDiv (mVar 2) (mVar 1)) mNil)) (gSubD (mVar 0) (mC (.int 0)))) (sSeq (sRet (mCall vIntC (mCons (m2 vMod (mVar 2) (mVar 1)) mNil))) sNil))) sNil)
  (sSeq (sAsg (m2 vMod (m2 (vMul false) (mC (.int 69621)) (m2 vIx (mVar 0) (mC (.int 1)))) (mC (.int 2147483647))) (gSubD (mVar 0) (mC (.int 1)))) (sSeq (sRet (mCall vIntC (mCons (m2 vMod (m2 vDiv (m2 vIx (mVar 0) (mC (.int 1))) (mC (.int 7))) (mVar 1)) mNil))) sNil))
def sDrawB : FSem := fF 2 3 false dB2
def dvB (x : Bx) (m : Int) : Int := if 0 < x.a then x.a % m else 69621 * x.b % 2147483647 / 7 % m
def dnB (x : Bx) (m : Int) : Bx := if h : 0 < x.a ∧ 0 < m then ⟨x.a / m, x.b, Int.ediv_nonneg x.ha (by omega), x.hb, x.hc⟩ else
  ⟨x.a, 69621 * x.b % 2147483647, x.ha, Int.emod_nonneg _ (by decide), by have := Int.emod_lt_of_pos (69621 * x.b) (show (0 : Int) < 2147483647 by decide); omega⟩
theorem dvB_lo (x : Bx) {m : Int} (h : 0 < m) : 0 ≤ dvB x m := by
  unfold dvB
  split <;> exact Int.emod_nonneg _ (by omega)
theorem dvB_hi (x : Bx) {m : Int} (h : 0 < m) : dvB x m < m := by
  unfold dvB
  split <;> exact Int.emod_lt_of_pos _ h
theorem drawB (x : Bx) (m : Int) (R : Store) (h : 0 < m) (h2 : m < 18446744073709551616) : sDrawB [.ref 0, .int m] (bx x :: R) = .ok (.int (dvB x m)) (bx (dnB x m) :: R) := by
  obtain ⟨a, b, ha, hb, hc⟩ := x
  by_cases h0 : 0 < a
  · have e1 : dvB ⟨a, b, ha, hb, hc⟩ m = a % m := if_pos h0
    have e2 : bx (dnB ⟨a, b, ha, hb, hc⟩ m) = .lst [.int (a / m), .int b] := by unfold dnB; rw [dif_pos (show 0 < a ∧ 0 < m from ⟨h0, h⟩)]; rfl
    have := fin_box ⟨a, b, ha, hb, hc⟩ (dnB ⟨a, b, ha, hb, hc⟩ m) R (a % m)
    rw [e2] at this
    rw [e1, e2, ← this]
    simp [sDrawB, dB2, bx, h0, h, h2]
  · have e1 : dvB ⟨a, b, ha, hb, hc⟩ m = 69621 * b % 2147483647 / 7 % m := if_neg h0
    have e2 : bx (dnB ⟨a, b, ha, hb, hc⟩ m) = .lst [.int a, .int (69621 * b % 2147483647)] := by unfold dnB; rw [dif_neg (show ¬ (0 < a ∧ 0 < m) from fun z => h0 z.1)]; rfl
    have := fin_box ⟨a, b, ha, hb, hc⟩ (dnB ⟨a, b, ha, hb, hc⟩ m) R (69621 * b % 2147483647 / 7 % m)
    rw [e2] at this
    rw [e1, e2, ← this]
    have hn : b.natAbs < 18446744073709551616 := by omega
    simp [sDrawB, dB2, bx, h0, h, hn]
end Mir
end

section
set_option Elab.async false
set_option linter.all false
set_option maxRecDepth 100000
/-! MirT: dicts of numbers, searches. -/
namespace Mir
open PySem PySem.Spec
/-- a dict whose keys are numbers, all bound to True -/
def ikv (ks : List Int) : List (D × D) := ks.map fun k => (.int k, .bl true)
def dins (ks : List Int) (x : Int) : List Int := if x ∈ ks then ks else ks ++ [x]
@[simp] theorem ikv_nil : ikv [] = [] := (rfl)
@[simp] theorem ikv_len (ks : List Int) : (ikv ks).length = ks.length := by simp [ikv]
theorem key_int (i j : Int) : keyK false (.int i) (.int j) = decide (i = j) := by
  unfold keyK kEq keyD
  dsimp only
  by_cases h : i = j
  · subst h; simp
  · rw [decide_eq_false h]; exact decide_eq_false fun e => h (Sum.inl.inj e)
theorem ikv_find (ks : List Int) (x : Int) : ((ikv ks).find? fun p => keyK false p.1 (.int x)).isSome = decide (x ∈ ks) := by
  induction ks with
  | nil => rfl
  | cons k ks ih =>
    show (((.int k, .bl true) :: ikv ks).find? fun p => keyK false p.1 (.int x)).isSome = _
    rw [List.find?_cons]
    dsimp only
    rw [key_int]
    by_cases h : k = x
    · subst h; simp
    · rw [decide_eq_false h]
      dsimp only
      rw [ih]
      simp [Ne.symm h]
theorem ikv_same (ks : List Int) (x : Int) : ((ikv ks).map fun p => if keyK false p.1 (.int x) then (p.1, D.bl true) else p) = ikv ks := by
  unfold ikv
  rw [List.map_map]
  refine List.map_congr_left fun k _ => ?_
  show (if keyK false (.int k) (.int x) then ((.int k, .bl true) : D × D) else (.int k, .bl true)) = _
  split <;> rfl
theorem dPut_ikv (ks : List Int) (x : Int) : dPut false (ikv ks) (.int x) (.bl true) = ikv (dins ks x) := by
  unfold dPut dins
  rw [ikv_find, ikv_same]
  by_cases h : x ∈ ks
  · rw [if_pos (decide_eq_true h), if_pos h]
  · rw [if_neg (by simp [h]), if_neg h]
    unfold ikv
    rw [List.map_append]
    rfl
@[simp] theorem kSet_dic (ks : List Int) (n : Nat) (i : Int) (S : Store) (h : ks.length ≤ 16000000) : kSet (some (.dic false (ikv ks))) n (.int i) (.bl true) S = .ok () (S.set n (.dic false (ikv (dins ks i)))) := by
  have hb : Nat.ble (ikv ks).length 16000000 = true := Nat.ble_eq_true_of_le (by rw [ikv_len]; exact h)
  show (if isKey false (.int i) && Nat.ble (ikv ks).length 16000000 then _ else _) = _
  rw [hb, dPut_ikv]
  rfl
theorem dins_len (ks : List Int) (x : Int) : (dins ks x).length ≤ ks.length + 1 := by unfold dins; split <;> simp
theorem dins_fold_len : ∀ (xs ks : List Int), (xs.foldl dins ks).length ≤ ks.length + xs.length
  | [], ks => by simp
  | x :: xs, ks => by
    have := dins_fold_len xs (dins ks x)
    have := dins_len ks x
    rw [List.foldl_cons, List.length_cons]
    omega
theorem dins_nodup : ∀ (xs ks : List Int), ks.Nodup → ((xs.foldl dins ks).length = ks.length + xs.length ↔ (ks ++ xs).Nodup)
  | [], ks, h => by simp [h]
  | x :: xs, ks, h => by
    rw [List.foldl_cons, List.length_cons]
    by_cases m : x ∈ ks
    · have e : dins ks x = ks := if_pos m
      rw [e]
      have := dins_fold_len xs ks
      refine ⟨fun q => by omega, fun q => ?_⟩
      exact absurd rfl ((List.nodup_append.mp q).2.2 x m x List.mem_cons_self)
    · have e : dins ks x = ks ++ [x] := if_neg m
      rw [e]
      have h' : (ks ++ [x]).Nodup := List.nodup_append.mpr ⟨h, by simp, fun a ha b hb e => m (by rw [← List.mem_singleton.mp hb, ← e]; exact ha)⟩
      have := dins_nodup xs (ks ++ [x]) h'
      rw [List.length_append, List.append_assoc] at this
      rw [show ks.length + (xs.length + 1) = ks.length + [x].length + xs.length by simp; omega]
      exact this
theorem dins_nodup0 (xs : List Int) : (xs.foldl dins []).length = xs.length ↔ xs.Nodup := by simpa using dins_nodup xs [] List.nodup_nil
def pairI (f : D → Store → Out (Option (D × D))) (S : Store) (xs : List Int) : Prop := ∀ x ∈ xs, f (.int x) S = .ok (some (.int x, .bl true)) S
theorem dcL_go (f : D → Store → Out (Option (D × D))) (S : Store) (all : List D) : ∀ (xs : List Int) (o : Nat) (ks : List Int), pairI f S xs → all.drop o = xs.map .int → ks.length + xs.length ≤ 16000000 →
    dcL false (Src.items all).get (Src.items all).fin f xs.length o (ikv ks) S = .ok (ikv (xs.foldl dins ks)) S
  | [], o, ks, _, _, _ => rfl
  | x :: xs, o, ks, q, hd, hl => by
    have g : (Src.items all).get o S = some (.int x) := by
      show all[o]? = _
      have := congrArg List.head? hd
      rw [List.head?_drop] at this
      exact this
    have dl := dins_len ks x
    simp only [List.length_cons] at hl
    have hb : Nat.ble (ikv ks).length 16000000 = true := Nat.ble_eq_true_of_le (by rw [ikv_len]; omega)
    rw [List.length_cons]
    unfold dcL
    rw [g]
    dsimp only
    rw [q x List.mem_cons_self]
    dsimp only
    rw [hb, dPut_ikv]
    rw [if_pos (by rfl)]
    refine dcL_go f S all xs (o + 1) (dins ks x) (fun y hy => q y (List.mem_cons_of_mem _ hy)) ?_ (by omega)
    have := congrArg List.tail hd
    rw [List.tail_drop] at this
    exact this
def kDC (own : List Nat) (t : Bool) (g : SG) (c : ST) (k v : SE) (env : Env) : Src → Store → Out D := fun s S1 => newDic t (dcL t s.get s.fin (mPair own g c k v env) s.len 0 [] S1)
@[simp] theorem mDC_ap (own : List Nat) (t : Bool) (src : Env → Store → Out Src) (g : SG) (c : ST) (k v : SE) (env : Env) (S : Store) : mDC own t src g c k v env S = (src env S).bind (kDC own t g c k v env) := (rfl)
/-- `{x: True for x in xs}` -/
theorem kDC_ints (i : Nat) (env : Env) (xs : List Int) (S : Store) (hi : i < env.length) (h : xs.length ≤ 16000000) : kDC [i] false (gSet i) (fun _ S => .ok true S) (mVar i) (mC (.bl true)) env (.items (xs.map .int)) S = .ok (.ref S.length) (S ++ [.dic false (ikv (xs.foldl dins []))]) := by
  have q : pairI (mPair [i] (gSet i) (fun _ S => .ok true S) (mVar i) (mC (.bl true)) env) S xs := fun x _ => by
    simp [mPair, hi]
  have e := dcL_go _ S (xs.map .int) xs 0 [] q rfl (by simpa using h)
  have l : (Src.items (xs.map D.int)).len = xs.length := List.length_map ..
  unfold kDC
  rw [l]
  rw [ikv_nil] at e
  rw [e]
  rfl
theorem vIn_ints (xs : List Int) (x : Int) (S : Store) : vIn (.int x) (.lst (xs.map .int)) S = .ok (.bl (decide (x ∈ xs))) S := by
  have o2 : okD 60 (.lst (xs.map .int)) = true := okD_ints 58 xs
  have an : ((xs.map D.int).any fun z => eqF 60 z (.int x)) = decide (x ∈ xs) := by
    rw [List.any_map, Bool.eq_iff_iff, List.any_eq_true, decide_eq_true_eq]
    constructor
    · rintro ⟨c, hc, e⟩
      have e : (c == x) = true := e
      rw [← eq_of_beq e]; exact hc
    · intro h
      exact ⟨x, h, beq_self_eq_true x⟩
  show vCmp (fun a b S => inB S a b) _ _ S = _
  unfold vCmp
  dsimp only [inB]
  rw [o2, an]
  rfl
/-- a loop that looks for the first -/
theorem runF_find {α : Type} {body : D → SS} {enc : α → D} {g : α → Option D} {R : Env → Store → Prop} {Q : Store → Prop} : ∀ {xs : List α} {env : Env} {S : Store},
    (∀ x env S, x ∈ xs → R env S → match g x with
      | none => ∃ env' S', body (enc x) env S = .nx env' S' ∧ R env' S'
      | some d => ∃ S', body (enc x) env S = .rt d S' ∧ Q S') → R env S →
    match xs.findSome? g with
      | none => ∃ env' S', runF body (xs.map enc) env S = .nx env' S' ∧ R env' S'
      | some d => ∃ S', runF body (xs.map enc) env S = .rt d S' ∧ Q S'
  | [], env, S, _, r => ⟨env, S, rfl, r⟩
  | x :: xs, env, S, h, r => by
    have h1 := h x env S List.mem_cons_self r
    rw [List.findSome?_cons]
    cases hg : g x with
    | some d =>
      rw [hg] at h1
      obtain ⟨S', e, q⟩ := h1
      exact ⟨S', by rw [List.map_cons]; unfold runF; rw [e], q⟩
    | none =>
      rw [hg] at h1
      obtain ⟨env1, S1, e, r1⟩ := h1
      have e2 : runF body ((x :: xs).map enc) env S = runF body (xs.map enc) env1 S1 := by
        rw [List.map_cons]
        show (match body (enc x) env S with
          | .nx e S1 => runF body (xs.map enc) e S1
          | .ct e S1 => runF body (xs.map enc) e S1
          | .bk e S1 => .nx e S1
          | r => r) = _
        rw [e]
      rw [e2]
      exact runF_find (fun y env S hy => h y env S (List.mem_cons_of_mem _ hy)) r1
end Mir
end

section
set_option Elab.async false
set_option linter.all false
set_option maxRecDepth 100000
/-! PTile: tilings, in plain words. -/
namespace Tile
open Mir
/-- sums of a place with all of A -/
def sums (p : Int) (A : List Int) (b : Int) : List Int := A.map fun a => (b + a) % p
def allS (p : Int) (A row : List Int) : List Int := row.flatMap (sums p A)
def allT (p : Int) (A row : List Int) : List Int := A.flatMap fun a => row.map fun b => (a + b) % p
abbrev Asc (l : List Int) : Prop := l.Pairwise (· < ·)
def Inj (p : Int) (A row : List Int) : Prop := ∀ a ∈ A, ∀ b ∈ row, ∀ a' ∈ A, ∀ b' ∈ row, (b + a) % p = (b' + a') % p → a = a' ∧ b = b'
theorem asc_ne {l : List Int} (h : Asc l) : l.Pairwise (· ≠ ·) := h.imp fun h => by omega
theorem nodup_map {α : Type} {f : α → Int} : ∀ {l : List α}, l.Pairwise (· ≠ ·) → ((l.map f).Nodup ↔ ∀ a ∈ l, ∀ b ∈ l, f a = f b → a = b)
  | [], _ => by simp
  | x :: l, h => by
    have hx := (List.pairwise_cons.mp h).1
    rw [List.map_cons, List.nodup_cons, nodup_map (List.Pairwise.of_cons h)]
    constructor
    · rintro ⟨h1, h2⟩ a ha b hb e
      rcases List.mem_cons.mp ha with ea | ha <;> rcases List.mem_cons.mp hb with eb | hb
      · rw [ea, eb]
      · exact absurd (List.mem_map.mpr ⟨b, hb, by rw [← e, ea]⟩) h1
      · exact absurd (List.mem_map.mpr ⟨a, ha, by rw [e, eb]⟩) h1
      · exact h2 a ha b hb e
    · intro h'
      refine ⟨fun hm => ?_, fun a ha b hb e => h' a (List.mem_cons_of_mem _ ha) b (List.mem_cons_of_mem _ hb) e⟩
      obtain ⟨y, hy, e⟩ := List.mem_map.mp hm
      exact hx y hy (h' x List.mem_cons_self y (List.mem_cons_of_mem _ hy) e.symm)
theorem nodup_flat {α β : Type} {f : α → β → Int} {l : List α} {r : List β} (hl : l.Pairwise (· ≠ ·)) (hr : r.Pairwise (· ≠ ·)) : (l.flatMap fun a => r.map (f a)).Nodup ↔ ∀ a ∈ l, ∀ b ∈ r, ∀ a' ∈ l, ∀ b' ∈ r, f a b = f a' b' → a = a' ∧ b = b' := by
  induction l with
  | nil => simp
  | cons x l ih =>
    have hx := (List.pairwise_cons.mp hl).1
    have ih := ih (List.Pairwise.of_cons hl)
    rw [List.flatMap_cons, List.nodup_append, nodup_map hr, ih]
    constructor
    · rintro ⟨h1, h2, h3⟩ a ha b hb a' ha' b' hb' e
      rcases List.mem_cons.mp ha with ea | ha <;> rcases List.mem_cons.mp ha' with ea' | ha'
      · exact ⟨by rw [ea, ea'], h1 b hb b' hb' (by rw [ea, ea'] at e; exact e)⟩
      · rw [ea] at e; exact absurd e (h3 _ (List.mem_map.mpr ⟨b, hb, rfl⟩) _ (List.mem_flatMap.mpr ⟨a', ha', List.mem_map.mpr ⟨b', hb', rfl⟩⟩))
      · rw [ea'] at e; exact absurd e.symm (h3 _ (List.mem_map.mpr ⟨b', hb', rfl⟩) _ (List.mem_flatMap.mpr ⟨a, ha, List.mem_map.mpr ⟨b, hb, rfl⟩⟩))
      · exact h2 a ha b hb a' ha' b' hb' e
    · intro h
      refine ⟨fun b hb b' hb' e => (h x List.mem_cons_self b hb x List.mem_cons_self b' hb' e).2, fun a ha b hb a' ha' b' hb' e => h a (List.mem_cons_of_mem _ ha) b hb a' (List.mem_cons_of_mem _ ha') b' hb' e, ?_⟩
      intro u hu v hv e
      obtain ⟨b, hb, rfl⟩ := List.mem_map.mp hu
      obtain ⟨a', ha', hv⟩ := List.mem_flatMap.mp hv
      obtain ⟨b', hb', rfl⟩ := List.mem_map.mp hv
      exact hx a' ha' (h x List.mem_cons_self b hb a' (List.mem_cons_of_mem _ ha') b' hb' e).1
theorem allS_inj {p : Int} {A row : List Int} (hA : Asc A) (hr : Asc row) : (allS p A row).Nodup ↔ Inj p A row := by
  unfold allS sums
  rw [nodup_flat (f := fun b a => (b + a) % p) (asc_ne hr) (asc_ne hA)]
  constructor
  · intro h a ha b hb a' ha' b' hb' e
    exact (h b hb a ha b' hb' a' ha' e).symm
  · intro h b hb a ha b' hb' a' ha' e
    exact (h a ha b hb a' ha' b' hb' e).symm
theorem allT_inj {p : Int} {A row : List Int} (hA : Asc A) (hr : Asc row) : (allT p A row).Nodup ↔ Inj p A row := by
  unfold allT
  rw [nodup_flat (f := fun a b => (a + b) % p) (asc_ne hA) (asc_ne hr)]
  constructor
  · intro h a ha b hb a' ha' b' hb' e
    exact h a ha b hb a' ha' b' hb' (by rw [Int.add_comm a, Int.add_comm a']; exact e)
  · intro h a ha b hb a' ha' b' hb' e
    exact h a ha b hb a' ha' b' hb' (by rw [Int.add_comm b, Int.add_comm b']; exact e)
/-- the places that may come next -/
def places (p : Int) (row : List Int) : List Int := match row.getLast? with
  | none => [0]
  | some l => rgs (l + 1) (p - (l + 1)).toNat
def apart (p : Int) (A row : List Int) : Bool := decide (allS p A row).Nodup
def kids (p : Int) (A row : List Int) : List (List Int) := ((places p row).filter fun b => apart p A (row ++ [b])).map fun b => row ++ [b]
def ext (p : Int) (A : List Int) : Nat → List Int → List (List Int)
  | 0, row => [row]
  | j + 1, row => (kids p A row).flatMap (ext p A j)
/-- round after round -/
def iter (p : Int) (A : List Int) : Nat → List (List Int) → List (List Int)
  | 0, rows => rows
  | j + 1, rows => iter p A j (rows.flatMap (kids p A))
theorem iter_ext (p : Int) (A : List Int) : ∀ (j : Nat) (rows : List (List Int)), iter p A j rows = rows.flatMap (ext p A j)
  | 0, rows => by
    show rows = rows.flatMap fun r => [r]
    induction rows with
    | nil => rfl
    | cons r rows ih => rw [List.flatMap_cons, ← ih]; rfl
  | j + 1, rows => by
    show iter p A j (rows.flatMap (kids p A)) = _
    rw [iter_ext p A j, List.flatMap_assoc]
    rfl
theorem allS_app (p : Int) (A r s : List Int) : allS p A (r ++ s) = allS p A r ++ allS p A s := by unfold allS; rw [List.flatMap_append]
theorem apart_pre {p : Int} {A r s : List Int} (h : apart p A (r ++ s) = true) : apart p A r = true := by
  unfold apart at *
  rw [decide_eq_true_eq] at *
  rw [allS_app, List.nodup_append] at h
  exact h.1
theorem ext_apart {p : Int} {A : List Int} : ∀ {j : Nat} {row B : List Int}, 0 < j → B ∈ ext p A j row → apart p A B = true
  | 0, _, _, h, _ => absurd h (by omega)
  | j + 1, row, B, _, hB => by
    obtain ⟨r, hr, hB⟩ := List.mem_flatMap.mp hB
    cases j with
    | zero =>
      have : B = r := by simpa [ext] using hB
      subst this
      obtain ⟨b, hb, rfl⟩ := List.mem_map.mp hr
      exact (List.mem_filter.mp hb).2
    | succ j => exact ext_apart (by omega) hB
/-- rows as they are looked for: from 0 on, ascending, places of the turn -/
structure Row (p : Int) (row : List Int) : Prop where
  up : Asc row
  at_ : ∀ b ∈ row, 0 ≤ b ∧ b < p
  z : row.head? = none ∨ row.head? = some 0
theorem mem_places {p : Int} {row : List Int} {b : Int} (hp : 0 < p) (R : Row p row) (hb : b ∈ places p row) : Row p (row ++ [b]) := by
  unfold places at hb
  split at hb
  · rename_i e
    rw [List.getLast?_eq_none_iff] at e
    subst e
    have e0 : b = 0 := by simpa using hb
    subst e0
    exact ⟨by simp [Asc], fun c hc => ⟨by simp at hc; omega, by simp at hc; omega⟩, .inr rfl⟩
  · rename_i l e
    obtain ⟨g1, g2⟩ := mem_rgs.mp hb
    have hl := List.mem_of_getLast? e
    have hl2 := R.at_ l hl
    refine ⟨?_, fun c hc => ?_, ?_⟩
    · refine List.pairwise_append.mpr ⟨R.up, by simp, fun a ha c hc => ?_⟩
      rw [List.mem_singleton.mp hc]
      obtain ⟨ys, rfl⟩ := List.getLast?_eq_some_iff.mp e
      have u := List.pairwise_append.mp R.up
      rcases List.mem_append.mp ha with ha | ha
      · have := u.2.2 a ha l (by simp)
        omega
      · rw [List.mem_singleton.mp ha]; omega
    · rcases List.mem_append.mp hc with hc | hc
      · exact R.at_ c hc
      · rw [List.mem_singleton.mp hc]; omega
    · obtain ⟨ys, rfl⟩ := List.getLast?_eq_some_iff.mp e
      rcases R.z with z | z
      · simp at z
      · right
        rw [List.append_assoc, List.head?_append] 
        rw [List.head?_append] at z
        cases h : ys.head? with
        | none => rw [h] at z; simpa using z
        | some c => rw [h] at z; simpa using z
theorem ext_row {p : Int} {A : List Int} (hp : 0 < p) : ∀ {j : Nat} {row B : List Int}, Row p row → B ∈ ext p A j row → Row p B ∧ B.length = row.length + j
  | 0, row, B, R, hB => by
    have : B = row := by simpa [ext] using hB
    subst this
    exact ⟨R, rfl⟩
  | j + 1, row, B, R, hB => by
    obtain ⟨r, hr, hB⟩ := List.mem_flatMap.mp hB
    obtain ⟨b, hb, rfl⟩ := List.mem_map.mp hr
    obtain ⟨h1, h2⟩ := ext_row hp (mem_places hp R (List.mem_filter.mp hb).1) hB
    exact ⟨h1, by rw [h2]; simp; omega⟩
/-- all that are there are found -/
theorem ext_all {p : Int} {A : List Int} : ∀ {t row : List Int}, Row p (row ++ t) → apart p A (row ++ t) = true → row ++ t ∈ ext p A t.length row
  | [], row, _, _ => by simp [ext]
  | b :: t, row, R, h => by
    have e : row ++ b :: t = (row ++ [b]) ++ t := by simp
    rw [e] at R h ⊢
    refine List.mem_flatMap.mpr ⟨row ++ [b], List.mem_map.mpr ⟨b, List.mem_filter.mpr ⟨?_, apart_pre h⟩, rfl⟩, ext_all R h⟩
    have hb := R.at_ b (by simp)
    unfold places
    split
    · rename_i g
      rw [List.getLast?_eq_none_iff] at g
      subst g
      rcases R.z with z | z
      · simp at z
      · have : b = 0 := by simpa using z
        simp [this]
    · rename_i l g
      refine mem_rgs.mpr ?_
      have u := (List.pairwise_append.mp (List.pairwise_append.mp R.up).1).2.2 l (List.mem_of_getLast? g) b (by simp)
      omega
theorem two_turns {p : Int} {A B : List Int} (hp : 0 < p) (hA : Asc A) (R : Row p B) (h : apart p A B = true) (hb : B ≠ []) : Row (2 * p) (B ++ B.map (· + p)) ∧ apart (2 * p) A (B ++ B.map (· + p)) = true := by
  have R2 : Row (2 * p) (B ++ B.map (· + p)) := by
    refine ⟨?_, fun c hc => ?_, ?_⟩
    · refine List.pairwise_append.mpr ⟨R.up, ?_, fun a ha c hc => ?_⟩
      · rw [List.pairwise_map]; exact R.up.imp fun h => by omega
      · obtain ⟨d, hd, rfl⟩ := List.mem_map.mp hc
        have := R.at_ a ha
        have := R.at_ d hd
        omega
    · rcases List.mem_append.mp hc with hc | hc
      · have := R.at_ c hc; omega
      · obtain ⟨d, hd, rfl⟩ := List.mem_map.mp hc
        have := R.at_ d hd
        omega
    · rcases R.z with z | z
      · exact absurd (List.head?_eq_none_iff.mp z) hb
      · right; rw [List.head?_append, z]; rfl
  refine ⟨R2, ?_⟩
  unfold apart at *
  rw [decide_eq_true_eq] at *
  rw [allS_inj hA R2.up]
  rw [allS_inj hA R.up] at h
  have key : ∀ b ∈ B ++ B.map (· + p), ∃ c ∈ B, ∃ k : Int, b = c + k * p ∧ (k = 0 ∨ k = 1) := fun b hb => by
    rcases List.mem_append.mp hb with hb | hb
    · exact ⟨b, hb, 0, by omega, .inl rfl⟩
    · obtain ⟨d, hd, rfl⟩ := List.mem_map.mp hb
      exact ⟨d, hd, 1, by omega, .inr rfl⟩
  intro a ha b hb a' ha' b' hb' e
  obtain ⟨c, hc, k, e1, hk⟩ := key b hb
  obtain ⟨c', hc', k', e1', hk'⟩ := key b' hb'
  have e2 : (c + a) % p = (c' + a') % p := by
    have q : (b + a) % (2 * p) % p = (b' + a') % (2 * p) % p := by rw [e]
    rw [Int.emod_emod_of_dvd _ (Int.dvd_mul_left 2 p), Int.emod_emod_of_dvd _ (Int.dvd_mul_left 2 p)] at q
    rw [e1, e1'] at q
    rw [show c + k * p + a = (c + a) + k * p by omega, show c' + k' * p + a' = (c' + a') + k' * p by omega, Int.add_mul_emod_self_right, Int.add_mul_emod_self_right] at q
    exact q
  obtain ⟨q1, q2⟩ := h a ha c hc a' ha' c' hc' e2
  subst q1 q2
  refine ⟨rfl, ?_⟩
  have d := Int.emod_emod_of_dvd
  have z : ((b + a) - (b' + a)) % (2 * p) = 0 := by rw [Int.sub_emod, e]; simp
  rw [show (b + a) - (b' + a) = (k - k') * p by rw [e1, e1', Int.sub_mul]; omega] at z
  rcases hk with rfl | rfl <;> rcases hk' with rfl | rfl
  · rw [e1, e1']
  · exfalso
    have : (0 - 1 : Int) * p = p + (-1) * (2 * p) := by omega
    rw [this, Int.add_mul_emod_self_right, Int.emod_eq_of_lt (by omega) (by omega)] at z
    omega
  · exfalso
    rw [show (1 - 0 : Int) * p = p by omega, Int.emod_eq_of_lt (by omega) (by omega)] at z
    omega
  · rw [e1, e1']
theorem ext_two {p : Int} {A : List Int} (hp : 0 < p) (hA : Asc A) {m : Nat} (hm : 0 < m) (h : ext p A m [] ≠ []) : ext (2 * p) A (2 * m) [] ≠ [] := by
  obtain ⟨B, hB⟩ := List.exists_mem_of_ne_nil _ h
  obtain ⟨R, hl⟩ := ext_row hp (row := []) ⟨List.Pairwise.nil, fun b hb => by simp at hb, .inl rfl⟩ hB
  have ap := ext_apart hm hB
  have hb : B ≠ [] := fun z => by subst z; simp at hl; omega
  obtain ⟨R2, a2⟩ := two_turns hp hA R ap hb
  have := ext_all (row := []) (by simpa using R2) (by simpa using a2)
  rw [show (B ++ B.map (· + p)).length = 2 * m by simp [hl]; omega] at this
  exact List.ne_nil_of_mem this
end Tile
end

section
set_option Elab.async false
set_option linter.all false
set_option maxRecDepth 100000
/-! K74c: the first words. -/
namespace K74
open PySem PySem.Spec Mir
theorem dr : s__law_draw = sDrawB := rfl
@[simp] theorem p_is_integer (i : Int) (S : Store) : s_is_integer [.int i] S = .ok (.bl true) S := by
  simp [s_is_integer, b_is_integer, b_is_integer_1]
@[simp] theorem p_is_below (i n : Int) (S : Store) : s_is_below [.int i, .int n] S = .ok (.bl (decide (0 ≤ i) && decide (i < n))) S := by
  simp [s_is_below, b_is_below, b_is_below_1]
  by_cases h : 0 ≤ i <;> simp [h]
@[simp] theorem p_is_between (i a b : Int) (S : Store) : s_is_between [.int i, .int a, .int b] S = .ok (.bl (decide (a ≤ i) && decide (i ≤ b))) S := by
  simp [s_is_between, b_is_between, b_is_between_1]
  by_cases h : a ≤ i <;> simp [h]
end K74
end

section
set_option Elab.async false
set_option linter.all false
set_option maxRecDepth 100000
/-! K74q: tilings, searched. -/
namespace K74
open PySem PySem.Spec Mir Tile
def optD : Option (List Int) → D
  | none => .non
  | some B => .tup (B.map .int)
theorem allS_len (p : Int) (A : List Int) : ∀ row, (allS p A row).length = row.length * A.length
  | [] => by simp [allS]
  | b :: row => by
    have e : allS p A (b :: row) = sums p A b ++ allS p A row := rfl
    rw [e, List.length_append, allS_len p A row, List.length_cons, Nat.add_mul]
    simp [sums]; omega
theorem sums_len (p : Int) (A : List Int) (b : Int) : (sums p A b).length = A.length := by simp [sums]
/-- what the loop does with one place -/
def tryP (p : Int) (A found : List Int) (j : Nat) (b : Int) : Option D := if apart p A (found ++ [b]) then ((ext p A j (found ++ [b])).head?).map fun B => .tup (B.map .int) else none
theorem apart_one {p : Int} {A found : List Int} {b : Int} (h : apart p A found = true) : apart p A (found ++ [b]) = (decide (((sums p A b).foldl dins []).length = A.length) && !((sums p A b).any fun x => decide (x ∈ allS p A found))) := by
  unfold apart at *
  rw [decide_eq_true_eq] at h
  rw [Bool.eq_iff_iff]
  have e : allS p A (found ++ [b]) = allS p A found ++ sums p A b := by rw [allS_app]; simp [allS]
  have n := dins_nodup0 (sums p A b)
  rw [sums_len] at n
  simp only [decide_eq_true_eq, Bool.and_eq_true, Bool.not_eq_true', List.any_eq_false, decide_eq_true_eq]
  rw [e, List.nodup_append, n]
  constructor
  · rintro ⟨_, h2, h3⟩
    exact ⟨h2, fun x hx hm => h3 x hm x hx rfl⟩
  · rintro ⟨h2, h3⟩
    exact ⟨h, h2, fun a ha b hb e => h3 b hb (e ▸ ha)⟩
theorem head_find {p : Int} {A found : List Int} {j : Nat} : ((ext p A (j + 1) found).head?).map (fun B => D.tup (B.map .int)) = (places p found).findSome? (tryP p A found j) := by
  show (((kids p A found).flatMap (ext p A j)).head?).map _ = _
  unfold kids
  induction places p found with
  | nil => rfl
  | cons b bs ih =>
    rw [List.findSome?_cons, ← ih]
    by_cases h : apart p A (found ++ [b]) = true
    · rw [List.filter_cons_of_pos (p := fun b => apart p A (found ++ [b])) h, List.map_cons, List.flatMap_cons, List.head?_append]
      have e : tryP p A found j b = ((ext p A j (found ++ [b])).head?).map fun B => .tup (B.map .int) := if_pos h
      rw [e]
      cases (ext p A j (found ++ [b])).head? with
      | none => simp
      | some B => simp
    · rw [List.filter_cons_of_neg (p := fun b => apart p A (found ++ [b])) h]
      have e : tryP p A found j b = none := if_neg h
      rw [e]
/-- a set as it is asked for -/
structure Til (p : Int) (A : List Int) : Prop where
  lo : 1 ≤ p
  hi : p ≤ 24
  one : 1 ≤ A.length
  few : A.length ≤ 8
theorem p_least_tiling {p : Int} {A : List Int} (R : Til p A) : ∀ (j n : Nat) (found : List Int) (S : Store), j < n → ((found.length : Int) + j) * A.length = p → apart p A found = true → Row p found →
    s_least_tiling n [.int p, .tup (A.map .int), .tup (found.map .int), .lst ((allS p A found).map .int)] S = .ok (optD (ext p A j found).head?) S
  | 0, n + 1, found, S, _, hp, ha, rw_ => by
    have l := allS_len p A found
    have h1 : ((allS p A found).length : Int) = p := by rw [l]; simpa using hp
    simp [s_least_tiling, b_least_tiling, b_least_tiling_9, h1, b_least_tiling_1, ext, optD]
  | j + 1, n + 1, found, S, hj, hp, ha, rw_ => by
    have l := allS_len p A found
    have r1 := R.lo
    have r2 := R.hi
    have r3 := R.one
    have r4 := R.few
    have e1 : ((found.length : Int) + (j + 1 : Nat)) * A.length = found.length * A.length + (j + 1 : Nat) * A.length := Int.add_mul ..
    have hA : (1 : Int) * A.length ≤ (j + 1 : Nat) * A.length := Int.mul_le_mul_of_nonneg_right (by omega) (by omega)
    have h1 : ((allS p A found).length : Int) < p := by rw [l]; rw [e1] at hp; push_cast at *; omega
    have h2 : ¬ ((allS p A found).length : Int) = p := by omega
    have fl : (found.length : Int) ≤ 24 := by
      have : (found.length : Int) * 1 ≤ found.length * A.length := Int.mul_le_mul_of_nonneg_left (by omega) (by omega)
      rw [e1] at hp
      omega
    have src : ∀ env : Mir.Env, env[0]? = some (some (D.int p)) → env[2]? = some (some (D.tup (found.map D.int))) → (mRange2 (mCons (mIf (mTst (m2 vGt (mCall vLen (mCons (mVar 2) mNil)) (mC (.int 0)))) (m2 (vAdd false) (m2 vIx (mVar 2) (m1 vNeg (mC (.int 1)))) (mC (.int 1))) (mC (.int 0))) (mCons (mIf (mTst (m2 vGt (mCall vLen (mCons (mVar 2) mNil)) (mC (.int 0)))) (mVar 0) (mC (.int 1))) mNil))) env S = .ok (.items ((places p found).map .int)) S := by
      intro env q0 q2
      cases hf : found.getLast? with
      | none =>
        have hf' : found = [] := List.getLast?_eq_none_iff.mp hf
        subst hf'
        simp [q0, q2, places]
        rfl
      | some f =>
        have hf0 : found ≠ [] := fun z => by subst z; simp at hf
        have hfl : (0 : Int) < found.length := by have := List.length_pos_iff.mpr hf0; omega
        have b := rw_.at_ f (List.mem_of_getLast? hf)
        simp [q0, q2, places, hf, hf0, show 0 < found.length by omega, show (-4611686018427387904 : Int) ≤ f + 1 by omega, show f + 1 < 4611686018427387904 by omega, show (-4611686018427387904 : Int) ≤ p by omega, show p < 4611686018427387904 by omega]
    simp [s_least_tiling, b_least_tiling, b_least_tiling_9, h2, b_least_tiling_8, -mRange2_ap, src]
    have pl : (places p found).length ≤ 24 := by
      unfold places
      split
      · simp
      · rename_i f hf
        have b := rw_.at_ f (List.mem_of_getLast? hf)
        simp; omega
    have key := runF_find (body := bodyF (gSet 4) (b_least_tiling_6 (s_least_tiling n))) (enc := D.int) (g := tryP p A found j)
      (R := fun env S' => (∃ o5 o6 o7 o8 o9, env = [some (.int p), some (.tup (A.map .int)), some (.tup (found.map .int)), some (.lst ((allS p A found).map .int)), o5, o6, o7, o8, o9]) ∧ ∃ T, S' = S ++ T)
      (Q := fun S' => ∃ T, S' = S ++ T) (xs := places p found) (env := [some (.int p), some (.tup (A.map .int)), some (.tup (found.map .int)), some (.lst ((allS p A found).map .int)), none, none, none, none, none]) (S := S)
      (fun b env S' hb hR => by
        obtain ⟨⟨o5, o6, o7, o8, o9, rfl⟩, T, rfl⟩ := hR
        have ap := apart_one (b := b) ha
        have cmp : ∀ (o1 o2 o3 o5 o6 o7 o8 : Option D) S, runC (mElt [6] (gSet 6) (fun _ S => .ok true S) (m2 vMod (m2 (vAdd false) (mVar 4) (mVar 6)) (mVar 0)) [some (.int p), o1, o2, o3, some (.int b), o5, o6, o7, o8]) (A.map D.int) S = .ok ((sums p A b).map .int) S := fun o1 o2 o3 o5 o6 o7 o8 S => by
          unfold sums
          refine runC_pure fun x hx => ?_
          simp [show 0 < p by omega]
        have anyq : ∀ (o0 o1 o2 o4 o5 o6 o7 o8 : Option D) S, runC (mElt [7] (gSet 7) (fun _ S => .ok true S) (m2 vIn (mVar 7) (mVar 3)) [o0, o1, o2, some (.lst ((allS p A found).map .int)), o4, o5, o6, o7, o8]) ((sums p A b).map D.int) S = .ok (((sums p A b).map fun x => decide (x ∈ allS p A found)).map .bl) S := fun o0 o1 o2 o4 o5 o6 o7 o8 S => by
          refine runC_pure fun x hx => ?_
          simp [vIn_ints]
        have ih : ∀ S, apart p A (found ++ [b]) = true → s_least_tiling n [.int p, .tup (A.map .int), .tup (found.map .int ++ [.int b]), .lst ((allS p A found).map .int ++ (sums p A b).map .int)] S = .ok (optD (ext p A j (found ++ [b])).head?) S := fun S h => by
          have e : allS p A (found ++ [b]) = allS p A found ++ sums p A b := by rw [allS_app]; simp [allS]
          have := p_least_tiling R j n (found ++ [b]) S (by omega) (by simp; rw [← hp]; congr 1; push_cast; omega) h (mem_places (by omega) rw_ hb)
          simpa [e] using this
        have sl := sums_len p A b
        have al : (allS p A found).length ≤ 24 := by omega
        simp [b_least_tiling_6, cmp, sums_len, show A.length ≤ 16777216 by omega, b_least_tiling_5]
        rw [kDC_ints (hi := by simp) (h := by omega)]
        simp
        rw [← List.append_assoc] at *
        by_cases h1 : ((sums p A b).foldl dins []).length = A.length
        · have h1i : (((sums p A b).foldl dins []).length : Int) = A.length := by omega
          have y1 : (sums p A b).length ≤ 16777216 := by omega
          simp [h1i, anyq, y1]
          by_cases h2 : ((sums p A b).any fun x => decide (x ∈ allS p A found)) = true
          · have t : tryP p A found j b = none := if_neg (by rw [ap, h2]; simp)
            rw [t]
            simp [h2]
            exact ⟨_, _, ⟨rfl, rfl⟩, ⟨_, _, _, _, _, rfl⟩, _, rfl⟩
          · have h2 : ((sums p A b).any fun x => decide (x ∈ allS p A found)) = false := by simpa using h2
            have h3 : apart p A (found ++ [b]) = true := by rw [ap, h2]; simp [h1]
            have t : tryP p A found j b = ((ext p A j (found ++ [b])).head?).map fun B => .tup (B.map .int) := if_pos h3
            have fl2 : found.length + 1 ≤ 16777216 := by omega
            have al2 : (allS p A found).length + (sums p A b).length ≤ 16777216 := by omega
            rw [t]
            simp [h2, b_least_tiling_4, ih _ h3, fl2, al2]
            cases (ext p A j (found ++ [b])).head? with
            | none =>
              simp [optD, b_least_tiling_3]
              exact ⟨_, _, ⟨rfl, rfl⟩, ⟨_, _, _, _, _, rfl⟩, _, rfl⟩
            | some B =>
              simp [optD, b_least_tiling_3, b_least_tiling_2]
        · have h1i : ¬ (((sums p A b).foldl dins []).length : Int) = A.length := by omega
          have t : tryP p A found j b = none := if_neg (by rw [ap]; simp [h1])
          rw [t]
          simp [h1i]
          exact ⟨_, _, ⟨rfl, rfl⟩, ⟨_, _, _, _, _, rfl⟩, _, rfl⟩) ⟨⟨_, _, _, _, _, rfl⟩, [], by simp⟩
    rw [← head_find] at key
    cases hd : (ext p A (j + 1) found).head? with
    | none =>
      rw [hd] at key
      obtain ⟨env', S', e, ⟨o5, o6, o7, o8, o9, rfl⟩, T, rfl⟩ := key
      rw [e]
      simp [b_least_tiling_7, optD]
    | some B =>
      rw [hd] at key
      obtain ⟨S', e, T, rfl⟩ := key
      rw [e]
      simp [optD]
end K74
end

section
set_option Elab.async false
set_option linter.all false
set_option maxRecDepth 100000
/-! K74r: tiles, the least turn. -/
namespace K74
open PySem PySem.Spec Mir Tile
structure Tset (A : List Int) : Prop where
  one : 1 ≤ A.length
  few : A.length ≤ 8
  z : A[0]? = some 0
  at_ : ∀ a ∈ A, 0 ≤ a ∧ a ≤ 20
  up : Asc A
theorem p_check_tile {A : List Int} (R : Tset A) (S : Store) : s_check_tile [.tup (A.map .int)] S = .ok .non S := by
  have r1 := R.one
  have r2 := R.few
  simp [s_check_tile, b_check_tile, b_check_tile_6, show 1 ≤ (A.length : Int) by omega, show (A.length : Int) ≤ 8 by omega, r1, r2, b_check_tile_5, show A.length ≤ 16777216 by omega]
  rw [runC_pure (h := fun r => decide (0 ≤ r) && decide (r ≤ 20)) (ec := D.bl) (fun x hx => by simp)]
  have a : A.all (fun r => decide (0 ≤ r) && decide (r ≤ 20)) = true := List.all_eq_true.mpr fun r hr => by simpa using R.at_ r hr
  have z := R.z
  simp [a, z, b_check_tile_4, show (-4611686018427387904 : Int) ≤ (A.length : Int) by omega, show (A.length : Int) < 4611686018427387904 by omega, show A.length - 1 ≤ 16777216 by omega]
  rw [runC_pure (h := fun _ => true) (ec := D.bl) (fun x hx => by
    obtain ⟨g1, g2⟩ := mem_rgs.mp hx
    obtain ⟨k, rfl⟩ : ∃ k : Nat, x = (k : Int) + 1 := ⟨(x - 1).toNat, by omega⟩
    have k1 : k + 1 < A.length := by omega
    have u := List.pairwise_iff_getElem.mp R.up k (k + 1) (by omega) k1 (by omega)
    have e : L2.atI (A.map D.int) ((k : Int) + 1) = some (.int A[k + 1]) := by rw [atI_nn _ (by omega), show ((k : Int) + 1).toNat = k + 1 by omega]; simp [k1]
    simp [e, show k < A.length by omega, u])]
  simp [show ∀ l : List Int, l.all (fun _ => true) = true from fun l => List.all_eq_true.mpr fun _ _ => rfl]
def tilesP (p : Int) (A : List Int) : Option (List Int) := if p % A.length = 0 then (ext p A (p / A.length).toNat []).head? else none
theorem p_tiles {A : List Int} (R : Tset A) {p : Int} (h1 : 1 ≤ p) (h2 : p ≤ 24) (S : Store) : s_tiles [.int p, .tup (A.map .int)] S = .ok (optD (tilesP p A)) S := by
  have r1 := R.one
  have r2 := R.few
  have fin : ∀ o, Mir.finish false S (.rt (optD o) S) = .ok (optD o) S := fun o => by cases o <;> simp [optD]
  simp [s_tiles, b_tiles, b_tiles_4, h1, h2, b_tiles_3, p_check_tile R, b_tiles_2, show 0 < (A.length : Int) by omega, show 0 < A.length by omega]
  unfold tilesP
  by_cases h : p % (A.length : Int) = 0
  · have d1 := Int.ediv_mul_cancel (Int.dvd_of_emod_eq_zero h)
    have d2 : p / (A.length : Int) ≤ p := Int.ediv_le_self _ (by omega)
    have d3 : 0 ≤ p / (A.length : Int) := Int.ediv_nonneg (by omega) (by omega)
    have e := p_least_tiling (p := p) (A := A) ⟨h1, h2, r1, r2⟩ (p / A.length).toNat 26 [] S (by omega) (by
      rw [show (([] : List Int).length : Int) + ((p / (A.length : Int)).toNat : Int) = p / A.length by simp; omega]; exact d1) rfl ⟨List.Pairwise.nil, fun b hb => by simp at hb, .inl rfl⟩
    have e : s_least_tiling 26 [.int p, .tup (A.map .int), .tup [], .lst []] S = .ok (optD (ext p A (p / A.length).toNat []).head?) S := e
    simp [h, e, fin]
  · simp [h, optD]
def tryT (A : List Int) (q : Int) : Option D := if (tilesP q A).isSome then some (.int q) else none
def leastD (A : List Int) : Option D := (rgs 1 24).findSome? (tryT A)
def orN : Option D → D
  | none => .non
  | some d => d
theorem p_least_turn {A : List Int} (R : Tset A) (S : Store) : s_least_turn [.tup (A.map .int)] S = .ok (orN (leastD A)) S := by
  simp [s_least_turn, b_least_turn, b_least_turn_5, p_check_tile R, b_least_turn_4]
  have key := runF_find (body := bodyF (gSet 1) b_least_turn_2) (enc := D.int) (g := tryT A) (R := fun env S' => (∃ o1, env = [some (.tup (A.map .int)), o1]) ∧ S' = S)
    (Q := fun S' => S' = S) (xs := rgs 1 24) (env := [some (.tup (A.map .int)), none]) (S := S) (fun q env S' hq hR => by
      obtain ⟨⟨o1, rfl⟩, rfl⟩ := hR
      obtain ⟨q1, q2⟩ := mem_rgs.mp hq
      have e := p_tiles R (p := q) (by omega) (by omega) S'
      unfold tryT
      simp [b_least_turn_2, e]
      cases tilesP q A with
      | none =>
        simp [optD]
      | some B =>
        simp [optD, b_least_turn_1]) ⟨⟨_, rfl⟩, rfl⟩
  have ld : ∀ d, leastD A = some d → ∃ q, d = .int q := fun d h => by
    obtain ⟨q, _, e⟩ := List.exists_of_findSome?_eq_some h
    unfold tryT at e
    split at e
    · exact ⟨q, (Option.some.inj e).symm⟩
    · exact absurd e (by simp)
  have l24 : rgs 1 24 = rgs 1 24 := rfl
  cases hd : leastD A with
  | none =>
    unfold leastD at hd
    rw [hd] at key
    obtain ⟨env', S', e, ⟨o1, rfl⟩, rfl⟩ := key
    rw [e]
    simp [b_least_turn_3, orN]
  | some d =>
    obtain ⟨q, rfl⟩ := ld d hd
    unfold leastD at hd
    rw [hd] at key
    obtain ⟨S', e, rfl⟩ := key
    rw [e]
    simp [orN]
end K74
end

section
set_option Elab.async false
set_option linter.all false
set_option maxRecDepth 100000
/-! PNets: nets of comparators, in plain words. -/
namespace Nets
open Mir
def cx (row : List Int) (c : Nat × Nat) : List Int := (row.set c.1 (min (row.getD c.1 0) (row.getD c.2 0))).set c.2 (max (row.getD c.1 0) (row.getD c.2 0))
def thr (net : List (Nat × Nat)) (row : List Int) : List Int := net.foldl cx row
def Valid (n : Nat) (net : List (Nat × Nat)) : Prop := ∀ c ∈ net, c.1 < c.2 ∧ c.2 < n
@[simp] theorem cx_len (row : List Int) (c : Nat × Nat) : (cx row c).length = row.length := by simp [cx]
@[simp] theorem thr_len (net : List (Nat × Nat)) : ∀ row : List Int, (thr net row).length = row.length := by
  induction net with
  | nil => exact fun _ => rfl
  | cons c net ih => intro row; show (thr net (cx row c)).length = _; rw [ih, cx_len]
def Mono (f : Int → Int) : Prop := ∀ a b, a ≤ b → f a ≤ f b
theorem mono_min {f : Int → Int} (h : Mono f) (a b : Int) : f (min a b) = min (f a) (f b) := by
  by_cases e : a ≤ b
  · have := h a b e
    rw [Int.min_eq_left e, Int.min_eq_left this]
  · have e : b ≤ a := by omega
    have := h b a e
    rw [Int.min_eq_right e, Int.min_eq_right this]
theorem mono_max {f : Int → Int} (h : Mono f) (a b : Int) : f (max a b) = max (f a) (f b) := by
  by_cases e : a ≤ b
  · have := h a b e
    rw [Int.max_eq_right e, Int.max_eq_right this]
  · have e : b ≤ a := by omega
    have := h b a e
    rw [Int.max_eq_left e, Int.max_eq_left this]
theorem getD_map {f : Int → Int} {row : List Int} {i : Nat} (h : i < row.length) : (row.map f).getD i 0 = f (row.getD i 0) := by
  simp [List.getD_eq_getElem?_getD, h]
theorem cx_map {f : Int → Int} (h : Mono f) {row : List Int} {c : Nat × Nat} (h1 : c.1 < c.2) (h2 : c.2 < row.length) : cx (row.map f) c = (cx row c).map f := by
  unfold cx
  rw [getD_map (by omega), getD_map h2, ← mono_min h, ← mono_max h, List.map_set, List.map_set]
theorem thr_map {f : Int → Int} (h : Mono f) {n : Nat} : ∀ {net : List (Nat × Nat)} {row : List Int}, Valid n net → row.length = n → thr net (row.map f) = (thr net row).map f
  | [], _, _, _ => rfl
  | c :: net, row, v, hl => by
    have hc := v c List.mem_cons_self
    show thr net (cx (row.map f) c) = (thr net (cx row c)).map f
    rw [cx_map h hc.1 (by omega)]
    exact thr_map h (fun d hd => v d (List.mem_cons_of_mem _ hd)) (by simpa using hl)
def fk (k : Nat) (v : Int) : Int := if v < k then 0 else 1
theorem fk_mono (k : Nat) : Mono (fk k) := fun a b h => by
  unfold fk
  split <;> split <;> omega
def ordsGo (n : Nat) : Nat → List (List Int)
  | 0 => [[]]
  | k + 1 => (ordsGo n k).flatMap fun row => ((rg n).filter fun x => !row.contains x).map fun x => row ++ [x]
def ords (n : Nat) : List (List Int) := ordsGo n n
def words (n : Nat) : List (List Int) := (List.range (2 ^ n)).map fun m => (List.range n).map fun k => ((m / 2 ^ k % 2 : Nat) : Int)
def dom (x y : List Int) : Bool := x.sum == y.sum && (List.range (x.length + 1)).all fun i => decide ((x.take i).sum ≤ (y.take i).sum)
def swp (n i : Nat) : List Int := ((rg n).set i (i + 1)).set (i + 1) i
def fact1 (n : Nat) : Bool := (words n).all fun w => (ords n).any fun o => (List.range (n + 1)).any fun k => (w == o.map (fk k)) && ((rg n).map (fk k) == sortI w)
def fact2 (n : Nat) : Bool := (ords n).all fun o => o.length == n && (List.range (n + 1)).all fun k => (words n).contains (o.map (fk k)) && (sortI (o.map (fk k)) == (rg n).map (fk k))
def fact4 (n : Nat) : Bool := (ords n).contains (rg n).reverse && ((words n).all fun w => w.length == n)
def fact5 (n : Nat) : Bool := (words n).all fun w => (List.range (n + 1)).any fun k => dom w ((rg n).reverse.map (fk k)) && ((rg n).map (fk k) == sortI w)
def fact6 (n : Nat) : Bool := (words n).all fun x => ((List.range (n - 1)).all fun i => (words n).contains (cx x (i, i + 1))) && (words n).all fun y => !dom x y || (List.range (n - 1)).all fun i => dom (cx x (i, i + 1)) (cx y (i, i + 1))
def fact7 (n : Nat) : Bool := (List.range (n + 1)).all fun k => (words n).contains ((rg n).reverse.map (fk k)) && (words n).all fun x => !dom x ((rg n).map (fk k)) || x == (rg n).map (fk k)
def fact9 (n : Nat) : Bool := (List.range (n - 1)).all fun i => (ords n).contains (swp n i) && (!(swp n i == rg n) && (List.range n).all fun b => (List.range b).all fun a => ((a == i) && (b == i + 1)) || cx (swp n i) (a, b) == swp n i)
def facts (n : Nat) : Bool := fact1 n && (fact2 n && (fact4 n && (fact5 n && (fact6 n && (fact7 n && fact9 n)))))
theorem facts_ok : (facts 2 && (facts 3 && (facts 4 && facts 5))) = true := by decide +kernel
theorem facts_at {n : Nat} (h1 : 2 ≤ n) (h2 : n ≤ 5) : facts n = true := by
  have f := facts_ok
  rw [Bool.and_eq_true, Bool.and_eq_true, Bool.and_eq_true] at f
  have : n = 2 ∨ n = 3 ∨ n = 4 ∨ n = 5 := by omega
  rcases this with rfl | rfl | rfl | rfl
  · exact f.1
  · exact f.2.1
  · exact f.2.2.1
  · exact f.2.2.2

section
variable {n : Nat} {net : List (Nat × Nat)} (h1 : 2 ≤ n) (h2 : n ≤ 5)
include h1 h2
theorem f1 : ∀ w ∈ words n, ∃ o ∈ ords n, ∃ k, k ≤ n ∧ w = o.map (fk k) ∧ (rg n).map (fk k) = sortI w := by
  have f := (Bool.and_eq_true_iff.mp (facts_at h1 h2)).1
  intro w hw
  have a := List.all_eq_true.mp f w hw
  obtain ⟨o, ho, a⟩ := List.any_eq_true.mp a
  obtain ⟨k, hk, a⟩ := List.any_eq_true.mp a
  rw [Bool.and_eq_true, beq_iff_eq, beq_iff_eq] at a
  exact ⟨o, ho, k, by have := List.mem_range.mp hk; omega, a⟩
theorem f2 : ∀ o ∈ ords n, o.length = n ∧ ∀ k, k ≤ n → o.map (fk k) ∈ words n ∧ sortI (o.map (fk k)) = (rg n).map (fk k) := by
  have f := (Bool.and_eq_true_iff.mp (Bool.and_eq_true_iff.mp (facts_at h1 h2)).2).1
  intro o ho
  have a := List.all_eq_true.mp f o ho
  rw [Bool.and_eq_true, beq_iff_eq] at a
  refine ⟨a.1, fun k hk => ?_⟩
  have b := List.all_eq_true.mp a.2 k (List.mem_range.mpr (by omega))
  rw [Bool.and_eq_true, beq_iff_eq, List.contains_iff_mem] at b
  exact b
theorem f4 : (rg n).reverse ∈ ords n ∧ ∀ w ∈ words n, w.length = n := by
  have f := (Bool.and_eq_true_iff.mp (Bool.and_eq_true_iff.mp (Bool.and_eq_true_iff.mp (facts_at h1 h2)).2).2).1
  unfold fact4 at f
  rw [Bool.and_eq_true, List.contains_iff_mem, List.all_eq_true] at f
  exact ⟨f.1, fun w hw => beq_iff_eq.mp (f.2 w hw)⟩
theorem f5 : ∀ w ∈ words n, ∃ k, k ≤ n ∧ dom w ((rg n).reverse.map (fk k)) = true ∧ (rg n).map (fk k) = sortI w := by
  have f := (Bool.and_eq_true_iff.mp (Bool.and_eq_true_iff.mp (Bool.and_eq_true_iff.mp (Bool.and_eq_true_iff.mp (facts_at h1 h2)).2).2).2).1
  intro w hw
  obtain ⟨k, hk, a⟩ := List.any_eq_true.mp (List.all_eq_true.mp f w hw)
  rw [Bool.and_eq_true, beq_iff_eq] at a
  exact ⟨k, by have := List.mem_range.mp hk; omega, a⟩
theorem f6 : ∀ x ∈ words n, (∀ i, i < n - 1 → cx x (i, i + 1) ∈ words n) ∧ ∀ y ∈ words n, dom x y = true → ∀ i, i < n - 1 → dom (cx x (i, i + 1)) (cx y (i, i + 1)) = true := by
  have f := (Bool.and_eq_true_iff.mp (Bool.and_eq_true_iff.mp (Bool.and_eq_true_iff.mp (Bool.and_eq_true_iff.mp (Bool.and_eq_true_iff.mp (facts_at h1 h2)).2).2).2).2).1
  intro x hx
  have a := List.all_eq_true.mp f x hx
  rw [Bool.and_eq_true, List.all_eq_true, List.all_eq_true] at a
  refine ⟨fun i hi => List.contains_iff_mem.mp (a.1 i (List.mem_range.mpr hi)), fun y hy hd i hi => ?_⟩
  have b := a.2 y hy
  rw [hd, Bool.not_true, Bool.false_or, List.all_eq_true] at b
  exact b i (List.mem_range.mpr hi)
theorem f7 : ∀ k, k ≤ n → (rg n).reverse.map (fk k) ∈ words n ∧ ∀ x ∈ words n, dom x ((rg n).map (fk k)) = true → x = (rg n).map (fk k) := by
  have f := (Bool.and_eq_true_iff.mp (Bool.and_eq_true_iff.mp (Bool.and_eq_true_iff.mp (Bool.and_eq_true_iff.mp (Bool.and_eq_true_iff.mp (Bool.and_eq_true_iff.mp (facts_at h1 h2)).2).2).2).2).2).1
  intro k hk
  have a := List.all_eq_true.mp f k (List.mem_range.mpr (by omega))
  rw [Bool.and_eq_true, List.contains_iff_mem, List.all_eq_true] at a
  refine ⟨a.1, fun x hx hd => ?_⟩
  have b := a.2 x hx
  rw [hd, Bool.not_true, Bool.false_or, beq_iff_eq] at b
  exact b
theorem f9 : ∀ i, i < n - 1 → swp n i ∈ ords n ∧ swp n i ≠ rg n ∧ ∀ a b, a < b → b < n → ¬ (a = i ∧ b = i + 1) → cx (swp n i) (a, b) = swp n i := by
  have f := (Bool.and_eq_true_iff.mp (Bool.and_eq_true_iff.mp (Bool.and_eq_true_iff.mp (Bool.and_eq_true_iff.mp (Bool.and_eq_true_iff.mp (Bool.and_eq_true_iff.mp (facts_at h1 h2)).2).2).2).2).2).2
  intro i hi
  have a := List.all_eq_true.mp f i (List.mem_range.mpr hi)
  rw [Bool.and_eq_true, Bool.and_eq_true, List.contains_iff_mem, List.all_eq_true, Bool.not_eq_true', beq_eq_false_iff_ne] at a
  refine ⟨a.1, a.2.1, fun x y hxy hy hne => ?_⟩
  have b := List.all_eq_true.mp (a.2.2 y (List.mem_range.mpr hy)) x (List.mem_range.mpr hxy)
  rw [Bool.or_eq_true, Bool.and_eq_true, beq_iff_eq, beq_iff_eq, beq_iff_eq] at b
  rcases b with b | b
  · exact absurd b hne
  · exact b
omit h1 h2 in
theorem by_marks {r : List Int} (hl : r.length = n) (h : ∀ k, k ≤ n → r.map (fk k) = (rg n).map (fk k)) : r = rg n := by
  refine List.ext_getElem (by simp [hl]) fun i hi hi' => ?_
  have e : ∀ k, k ≤ n → fk k r[i] = fk k (rg n)[i] := fun k hk => by
    have := congrArg (fun l : List Int => l[i]?) (h k hk)
    rw [List.getElem?_map, List.getElem?_map, List.getElem?_eq_getElem hi, List.getElem?_eq_getElem hi'] at this
    exact Option.some.inj this
  have g : (rg n)[i] = (i : Int) := by simp [rg]
  rw [g] at e ⊢
  have a := e i (by omega)
  have b := e (i + 1) (by omega)
  unfold fk at a b
  split at a <;> split at a <;> split at b <;> split at b <;> omega
theorem zero_one (v : Valid n net) : (∀ w ∈ words n, thr net w = sortI w) ↔ ∀ o ∈ ords n, thr net o = rg n := by
  constructor
  · intro g o ho
    obtain ⟨hl, f⟩ := f2 h1 h2 o ho
    refine by_marks (by simpa using hl) fun k hk => ?_
    obtain ⟨m, e⟩ := f k hk
    rw [← thr_map (fk_mono k) v hl, g _ m, e]
  · intro g w hw
    obtain ⟨o, ho, k, hk, rfl, e⟩ := f1 h1 h2 w hw
    rw [thr_map (fk_mono k) v (f2 h1 h2 o ho).1, g o ho, e]
omit h1 h2 in
theorem valid_tail {c : Nat × Nat} (v : Valid n (c :: net)) : Valid n net := fun d hd => v d (List.mem_cons_of_mem _ hd)
theorem near_dom : ∀ {net : List (Nat × Nat)}, Valid n net → (∀ c ∈ net, c.2 = c.1 + 1) → ∀ {x y : List Int}, x ∈ words n → y ∈ words n → dom x y = true → thr net x ∈ words n ∧ dom (thr net x) (thr net y) = true
  | [], _, _, x, y, hx, _, hd => ⟨hx, hd⟩
  | (a, b) :: net, v, hn, x, y, hx, hy, hd => by
    have e : b = a + 1 := hn (a, b) List.mem_cons_self
    subst e
    have ha := (v (a, a + 1) List.mem_cons_self).2
    dsimp only at ha
    obtain ⟨p1, p2⟩ := f6 h1 h2 x hx
    exact near_dom (net := net) (valid_tail v) (fun c hc => hn c (List.mem_cons_of_mem _ hc)) (p1 a (by omega)) ((f6 h1 h2 y hy).1 a (by omega)) (p2 y hy hd a (by omega))
theorem near_rev (v : Valid n net) (hn : ∀ c ∈ net, c.2 = c.1 + 1) : (∀ o ∈ ords n, thr net o = rg n) ↔ thr net (rg n).reverse = rg n := by
  constructor
  · exact fun g => g _ (f4 h1 h2).1
  · intro g
    rw [← zero_one h1 h2 v]
    intro w hw
    obtain ⟨k, hk, hd, e⟩ := f5 h1 h2 w hw
    obtain ⟨m, f⟩ := f7 h1 h2 k hk
    obtain ⟨m2, d2⟩ := near_dom h1 h2 v hn hw m hd
    rw [thr_map (fk_mono k) v (by simp), g] at d2
    rw [f _ m2 d2, e]
theorem has_near (v : Valid n net) (g : ∀ o ∈ ords n, thr net o = rg n) : ∀ i, i < n - 1 → (i, i + 1) ∈ net := by
  intro i hi
  obtain ⟨m, ne, f⟩ := f9 h1 h2 i hi
  refine Classical.byContradiction fun hno => ne ?_
  rw [← g _ m]
  have key : ∀ net : List (Nat × Nat), Valid n net → (i, i + 1) ∉ net → thr net (swp n i) = swp n i := by
    intro net
    induction net with
    | nil => exact fun _ _ => rfl
    | cons c net ih =>
      intro v hno
      obtain ⟨a, b⟩ := c
      have hc := v (a, b) List.mem_cons_self
      show thr net (cx (swp n i) (a, b)) = _
      rw [f a b hc.1 hc.2 fun z => hno (by rw [z.1, z.2]; exact List.mem_cons_self)]
      exact ih (valid_tail v) fun z => hno (List.mem_cons_of_mem _ z)
  exact (key net v hno).symm
end
end Nets
end

section
set_option Elab.async false
set_option linter.all false
set_option maxRecDepth 100000
/-! K74n: nets. -/
namespace K74
open PySem PySem.Spec Mir Nets
def encC (c : Nat × Nat) : D := .tup [.int c.1, .int c.2]
theorem cx_D {r : List Int} {i j : Nat} (hi : i < r.length) (hj : j < r.length) {a b : Int} (ea : a = min r[i] r[j]) (eb : b = max r[i] r[j]) : ((r.map D.int).set i (.int a)).set j (.int b) = (cx r (i, j)).map D.int := by
  subst ea eb
  simp [cx, hi, hj, List.map_set]
theorem behind_go (net : List (Nat × Nat)) (n : Nat) (v : Valid n net) (row : List Int) (hl : row.length = n) (d : D) (S : Store) (o2 o3 : Option D) :
    ∃ o2' o3', runF (bodyF (gTupD 2 (gMore (gSet 2) (gMore (gSet 3) gNone))) b_behind_1) (net.map encC) [some d, some (.ref S.length), o2, o3] (S ++ [.lst (row.map .int)]) = .nx [some d, some (.ref S.length), o2', o3'] (S ++ [.lst ((thr net row).map .int)]) := by
  generalize hx : runF _ _ _ _ = f
  obtain ⟨env, S', rfl, o2, o3, rfl, rfl, hl'⟩ := runF_at hx (R := fun (r : List Int) env S' => ∃ o2 o3, env = [some d, some (.ref S.length), o2, o3] ∧ S' = S ++ [.lst (r.map .int)] ∧ r.length = n)
    (step := cx) (b := row)
    (fun P hP r c env S' hc ⟨o2, o3, e1, e2, hl⟩ => by
      subst e1 e2
      obtain ⟨h1, h2⟩ := v c hc
      obtain ⟨i, j⟩ := c
      dsimp only at h1 h2
      have hi : i < r.length := by omega
      have hj : j < r.length := by omega
      simp [b_behind_1, encC, hi, hj]
      exact hP _ _ _ ⟨_, _, rfl, by rw [cx_D hi hj (by split <;> omega) (by split <;> omega)], by simpa using hl⟩) ⟨_, _, rfl, rfl, hl⟩
  exact ⟨_, _, rfl⟩
theorem p_behind_t (net : List (Nat × Nat)) (v : Valid row.length net) (S : Store) : s_behind [.tup (net.map encC), .tup (row.map .int)] S = .ok (.lst ((thr net row).map .int)) S := by
  obtain ⟨o2, o3, e⟩ := behind_go net row.length v row rfl (.tup (net.map encC)) S none none
  simp [s_behind, b_behind, b_behind_4, b_behind_3, b_behind_2, e]
  have := fin_ref S ((thr net row).map D.int) [.lst ((thr net row).map .int)] 0 rfl (by simp)
  simpa using this
theorem p_behind_l (net : List (Nat × Nat)) (v : Valid row.length net) (S : Store) : s_behind [.tup (net.map encC), .lst (row.map .int)] S = .ok (.lst ((thr net row).map .int)) S := by
  obtain ⟨o2, o3, e⟩ := behind_go net row.length v row rfl (.tup (net.map encC)) S none none
  simp [s_behind, b_behind, b_behind_4, b_behind_3, b_behind_2, e]
  have := fin_ref S ((thr net row).map D.int) [.lst ((thr net row).map .int)] 0 rfl (by simp)
  simpa using this
theorem law_go (net : List (Nat × Nat)) (n : Nat) (v : Valid n net) (row : List Int) (hl : row.length = n) (d d1 : D) (S : Store) (o2 o3 : Option D) :
    ∃ o2' o3', runF (bodyF (gTupD 2 (gMore (gSet 3) (gMore (gSet 4) gNone))) b__law_behind_2) (net.map encC) [some d, some d1, some (.ref S.length), o2, o3] (S ++ [.lst (row.map .int)]) = .nx [some d, some d1, some (.ref S.length), o2', o3'] (S ++ [.lst ((thr net row).map .int)]) := by
  generalize hx : runF _ _ _ _ = f
  obtain ⟨env, S', rfl, o2, o3, rfl, rfl, hl'⟩ := runF_at hx (R := fun (r : List Int) env S' => ∃ o2 o3, env = [some d, some d1, some (.ref S.length), o2, o3] ∧ S' = S ++ [.lst (r.map .int)] ∧ r.length = n)
    (step := cx) (b := row)
    (fun P hP r c env S' hc ⟨o2, o3, e1, e2, hl⟩ => by
      subst e1 e2
      obtain ⟨h1, h2⟩ := v c hc
      obtain ⟨i, j⟩ := c
      dsimp only at h1 h2
      have hi : i < r.length := by omega
      have hj : j < r.length := by omega
      by_cases hc : r[j] < r[i]
      · simp [b__law_behind_2, b__law_behind_1, encC, hi, hj, hc]
        exact hP _ _ _ ⟨_, _, rfl, by rw [cx_D hi hj (by omega) (by omega)], by simpa using hl⟩
      · simp [b__law_behind_2, b__law_behind_1, encC, hi, hj, hc]
        refine hP _ _ _ ⟨_, _, rfl, ?_, by simpa using hl⟩
        rw [← cx_D hi hj (a := r[i]) (b := r[j]) (by omega) (by omega)]
        congr 3
        rw [← List.map_set, ← List.map_set]
        simp) ⟨_, _, rfl, rfl, hl⟩
  exact ⟨_, _, rfl⟩
theorem p_law_t (net : List (Nat × Nat)) (v : Valid row.length net) (S : Store) : s__law_behind [.tup (net.map encC), .tup (row.map .int)] S = .ok (.tup ((thr net row).map .int)) S := by
  obtain ⟨o2, o3, e⟩ := law_go net row.length v row rfl (.tup (net.map encC)) (.tup (row.map .int)) S none none
  simp [s__law_behind, b__law_behind, b__law_behind_5, b__law_behind_4, b__law_behind_3, e]
theorem p_check_net (n : Nat) (net : List (Nat × Nat)) (v : Valid n net) (hl : net.length ≤ 60) (S : Store) : s_check_net [.int n, .tup (net.map encC)] S = .ok .non S := by
  simp [s_check_net, b_check_net, b_check_net_7, b_check_net_6, show ¬ (60 : Int) < net.length by omega]
  generalize hx : runF _ _ _ _ = f
  obtain ⟨env, S', rfl, o2, o3, rfl, rfl⟩ := runF_all hx (R := fun env S' => ∃ o2 o3, env = [some (.int n), some (.tup (net.map encC)), o2, o3] ∧ S' = S)
    (fun P hP c env S' hc ⟨o2, o3, e1, e2⟩ => by
      subst e1 e2
      obtain ⟨h1, h2⟩ := v c hc
      obtain ⟨i, j⟩ := c
      dsimp only at h1 h2
      have e := fun S (o : Option D) => runC_pure (f := mElt [3] (gSet 3) (fun _ S => .ok true S) (mCall s_is_below (mCons (mVar 3) (mCons (mVar 0) mNil))) [some (.int n), some (.tup (net.map encC)), some (.tup [.int i, .int j]), o]) (enc := D.int) (ec := D.bl) (xs := [(i : Int), (j : Int)]) (S := S) (h := fun x => decide (0 ≤ x) && decide (x < n)) (fun x hx => by simp)
      simp at e
      simp [b_check_net_5, b_check_net_4, encC, e, show i < n by omega, h2, h1, show ¬ j ≤ i by omega, show ∀ S, vAnyAll true [.lst [.bl true, .bl true]] S = .ok (.bl true) S from fun _ => rfl]
      exact hP _ _ ⟨_, _, rfl, rfl⟩) ⟨_, _, rfl, rfl⟩
  simp

theorem all_tt {α : Type} (l : List α) : l.all (fun _ => true) = true := List.all_eq_true.mpr fun _ _ => rfl
theorem p_through (net : List (Nat × Nat)) (row : List Int) (v : Valid row.length net) (hl : net.length ≤ 60) (h1 : 1 ≤ row.length) (h2 : row.length ≤ 8) (S : Store) : s_through [.tup (net.map encC), .tup (row.map .int)] S = .ok (.tup ((thr net row).map .int)) S := by
  have e := fun env S => runC_pure (f := mElt [2] (gSet 2) (fun _ S => .ok true S) (mCall s_is_integer (mCons (mVar 2) mNil)) [some (.tup (net.map encC)), some (.tup (row.map .int)), env]) (enc := D.int) (ec := D.bl) (xs := row) (S := S) (h := fun _ => true) (fun x hx => by simp)
  have c := p_check_net row.length net v hl S
  simp [s_through, b_through, b_through_4, b_through_3, b_through_2, show (1 : Int) ≤ row.length by omega, show (row.length : Int) ≤ 8 by omega, show row.length ≤ 16777216 by omega, show 1 ≤ row.length by omega, h2, e, all_tt, c, p_behind_t net v S]
/-- rows of 0 and 1 -/
theorem rows_is (n : Nat) (h1 : 2 ≤ n) (h2 : n ≤ 5) (net : Option D) (o3 o4 o5 : Option D) (S : Store) : (mLC [4] false (mRange1 (mCons (m2 vShl (mC (.int 1)) (mVar 0)) mNil)) (gSet 4) (fun _ S => .ok true S) (mLC [3] false (mRange1 (mCons (mVar 0) mNil)) (gSet 3) (fun _ S => .ok true S) (m2 vAnd (m2 vShr (mVar 4) (mVar 3)) (mC (.int 1))))) [some (.int n), net, none, o3, o4, o5] S = .ok (.lst ((words n).map fun w => .lst (w.map .int))) S := by
  have : n = 2 ∨ n = 3 ∨ n = 4 ∨ n = 5 := by omega
  rcases this with rfl | rfl | rfl | rfl <;> kernel_rfl
theorem p_sorts (n : Nat) (h1 : 2 ≤ n) (h2 : n ≤ 5) (net : List (Nat × Nat)) (v : Valid n net) (hl : net.length ≤ 60) (S : Store) : s_sorts [.int n, .tup (net.map encC)] S = .ok (.bl ((words n).all fun w => decide (thr net w = sortI w))) S := by
  have c := p_check_net n net v hl S
  have r := rows_is n h1 h2 (some (.tup (net.map encC))) none none none S
  have wl : (words n).length ≤ 16777216 := by
    unfold words
    have : n = 2 ∨ n = 3 ∨ n = 4 ∨ n = 5 := by omega
    rcases this with rfl | rfl | rfl | rfl <;> decide
  simp only [s_sorts, b_sorts, b_sorts_5, b_sorts_4, b_sorts_3, b_sorts_2]
  simp [-mLC_ap, show (1 : Int) ≤ n by omega, show 1 ≤ n by omega, show n ≤ 8 by omega, show (n : Int) ≤ 8 by omega, c, r]
  rw [mLC_ap]
  simp [wl]
  rw [runC_pure (enc := fun w : List Int => D.lst (w.map .int)) (h := fun w => decide (thr net w = sortI w)) (ec := D.bl) (fun w hw => by
    have e := (f4 h1 h2).2 w hw
    have b := p_behind_l (row := w) net (by rw [e]; exact v) S
    simp [b])]
  simp
end K74
end

section
set_option Elab.async false
set_option linter.all false
set_option maxRecDepth 100000
/-! K74s: what is told. -/
namespace K74
open PySem PySem.Spec Mir Tile
theorem lam_told {rd : FSem} {w : Nat → Option Str} {pre : List D} {m : SE} {env : Mir.Env} {S S1 S2 : Store} {d d2 : D} (h : m env S = .ok d S1) (h2 : rd [d] S1 = .ok d2 S2) : mLam (.told rd w) pre m env S = .ok (.tup [.int 0, d2]) S2 := by
  unfold mLam LK.fin
  rw [h]
  dsimp only
  rw [h2]
theorem read_non (n : Nat) (S : Store) : s__law_read (n + 1) [.non] S = .ok .non S := by
  simp [s__law_read, b__law_read, b__law_read_9, b__law_read_1]
theorem read_bl (n : Nat) (b : Bool) (S : Store) : s__law_read (n + 1) [.bl b] S = .ok (.bl b) S := by
  cases b <;> simp [s__law_read, b__law_read, b__law_read_9, b__law_read_1]
theorem read_int (n : Nat) (i : Int) (S : Store) : s__law_read (n + 1) [.int i] S = .ok (.int i) S := by
  have v1 : ∀ b S, vIs (.int i) (.bl b) S = .ok (.bl false) S := fun b S => rfl
  simp [s__law_read, b__law_read, b__law_read_9, b__law_read_8, b__law_read_2, v1]
theorem read_tup (n : Nat) (xs : List Int) (S : Store) (h : xs.length ≤ 16777216) : s__law_read (n + 2) [.tup (xs.map .int)] S = .ok (.tup (xs.map .int)) S := by
  have v1 : ∀ b S, vIs (.tup (xs.map .int)) (.bl b) S = .ok (.bl false) S := fun b S => rfl
  rw [s__law_read]
  simp [b__law_read, b__law_read_9, b__law_read_8, b__law_read_7, b__law_read_6, b__law_read_4, v1, h]
  rw [runC_pure (h := fun x => x) (ec := D.int) (fun x hx => by simp [read_int n x])]
  simp
end K74
end

section
set_option Elab.async false
set_option linter.all false
set_option maxRecDepth 100000
/-! K74u: the law's own tilings. -/
namespace K74
open PySem PySem.Spec Mir Tile
theorem optD_len {p : Int} {A : List Int} (R : Tset A) (h1 : 1 ≤ p) {B : List Int} (h : tilesP p A = some B) : p % A.length = 0 ∧ (∀ b ∈ B, 0 ≤ b ∧ b < p) := by
  unfold tilesP at h
  split at h
  · rename_i hm
    have hB := List.mem_of_mem_head? (show B ∈ (ext p A (p / A.length).toNat []).head? from h)
    have R := (ext_row (by omega) (row := []) ⟨List.Pairwise.nil, fun b hb => by simp at hb, .inl rfl⟩ hB).1
    exact ⟨hm, R.at_⟩
  · exact absurd h (by simp)
theorem row_len {p : Int} {r : List Int} (R : Tile.Row p r) : r.length ≤ p.toNat := by
  have := List.Nodup.length_le_of_subset (asc_ne R.up) (l₂ := rgs 0 p.toNat) (fun k hk => mem_rgs.mpr (by have := R.at_ k hk; omega))
  simpa using this
theorem tiles_row {p : Int} {A : List Int} (R : Tset A) (h1 : 1 ≤ p) {B : List Int} (h : tilesP p A = some B) : p % A.length = 0 ∧ Tile.Row p B ∧ B ∈ ext p A (p / A.length).toNat [] := by
  unfold tilesP at h
  split at h
  · rename_i hm
    have hB := List.mem_of_mem_head? (show B ∈ (ext p A (p / A.length).toNat []).head? from h)
    exact ⟨hm, (ext_row (by omega) (row := []) ⟨List.Pairwise.nil, fun b hb => by simp at hb, .inl rfl⟩ hB).1, hB⟩
  · exact absurd h (by simp)
theorem p_told_tiles {A : List Int} (R : Tset A) {p : Int} (h1 : 1 ≤ p) (h2 : p ≤ 24) (S : Store) : s__law_told_tiles [.int p, .tup (A.map .int)] S = .ok (.tup [.int 0, optD (tilesP p A)]) S := by
  have e := p_tiles R h1 h2 S
  have rd : s__law_read 4 [optD (tilesP p A)] S = .ok (optD (tilesP p A)) S := by
    cases ht : tilesP p A with
    | none => exact read_non 3 S
    | some B =>
      have := row_len (tiles_row R h1 ht).2.1
      exact read_tup 2 B S (by omega)
  have c : (mCall s_tiles (mCons (mVar 0) (mCons (mVar 1) mNil))) [some (.int p), some (.tup (A.map .int))] S = .ok (optD (tilesP p A)) S := by simp [e]
  have l := lam_told (w := fun c => w__law_told[c]?) (pre := []) c rd
  have l : mLam lk__law_told [] (mCall s_tiles (mCons (mVar 0) (mCons (mVar 1) mNil))) [some (.int p), some (.tup (A.map .int))] S = .ok (.tup [.int 0, optD (tilesP p A)]) S := l
  have f : lts S.length [.int 0, optD (tilesP p A)] = true := by
    cases tilesP p A with
    | none => rfl
    | some B => simp [lts, optD, D.lt]
  simp [s__law_told_tiles, b__law_told_tiles, b__law_told_tiles_1, l, f]
/-- the found places, all of them once -/
def coversP (p : Int) (A B : List Int) : Bool := decide (sortI (allS p A B) = rg p.toNat)
theorem p_covers {p : Int} {A B : List Int} (hp : 0 < p) (hp2 : p ≤ 1000) (l1 : A.length ≤ 1000) (l2 : B.length ≤ 1000) (S : Store) : s__law_covers [.int p, .tup (A.map .int), .tup (B.map .int)] S = .ok (.bl (coversP p A B)) S := by
  simp [s__law_covers, b__law_covers, b__law_covers_4, b__law_covers_3]
  generalize hx : runF _ _ _ _ = f
  obtain ⟨env, S', rfl, ⟨o4, o5, rfl⟩, rfl⟩ := runF_ix hx (R := fun k env S' => (∃ o4 o5, env = [some (.int p), some (.tup (A.map .int)), some (.tup (B.map .int)), some (.lst ((allS p A (B.take k)).map .int)), o4, o5]) ∧ S' = S)
    (fun P hP k env S' hk ⟨⟨o4, o5, e1⟩, e2⟩ => by
      subst e1 e2
      have tk : allS p A (B.take (k + 1)) = allS p A (B.take k) ++ sums p A B[k] := by
        rw [← List.take_append_getElem hk, allS_app]; simp [allS]
      have fin := hP (k + 1)
      rw [tk] at fin
      have ll : (allS p A (B.take k)).length + A.length ≤ 16777216 := by
        have l := allS_len p A (B.take k)
        have t : (B.take k).length ≤ 1000 := by simp; omega
        have m := Nat.mul_le_mul t l1
        omega
      generalize allS p A (B.take k) = ks at *
      simp [b__law_covers_1, show A.length ≤ 16777216 by omega]
      rw [runC_pure (h := fun a => (B[k] + a) % p) (ec := D.int) (fun x hx => by simp [hp])]
      have sm : (A.map fun a => (B[k] + a) % p) = sums p A B[k] := rfl
      rw [sm]
      have sl := sums_len p A B[k]
      simp [sl, ll]
      rw [← List.map_append]
      exact fin _ _ ⟨⟨_, _, rfl⟩, rfl⟩) ⟨⟨none, none, by simp [allS]⟩, rfl⟩
  simp [b__law_covers_2, show p ≤ 16777216 by omega, show (-16777216 : Int) ≤ p by omega, show p.toNat ≤ 16777216 by omega, coversP]
theorem p_covers_l {p : Int} {A B : List Int} (hp : 0 < p) (hp2 : p ≤ 1000) (l1 : A.length ≤ 1000) (l2 : B.length ≤ 1000) (S : Store) : s__law_covers [.int p, .tup (A.map .int), .lst (B.map .int)] S = .ok (.bl (coversP p A B)) S := by
  simp [s__law_covers, b__law_covers, b__law_covers_4, b__law_covers_3]
  generalize hx : runF _ _ _ _ = f
  obtain ⟨env, S', rfl, ⟨o4, o5, rfl⟩, rfl⟩ := runF_ix hx (R := fun k env S' => (∃ o4 o5, env = [some (.int p), some (.tup (A.map .int)), some (.lst (B.map .int)), some (.lst ((allS p A (B.take k)).map .int)), o4, o5]) ∧ S' = S)
    (fun P hP k env S' hk ⟨⟨o4, o5, e1⟩, e2⟩ => by
      subst e1 e2
      have tk : allS p A (B.take (k + 1)) = allS p A (B.take k) ++ sums p A B[k] := by
        rw [← List.take_append_getElem hk, allS_app]; simp [allS]
      have fin := hP (k + 1)
      rw [tk] at fin
      have ll : (allS p A (B.take k)).length + A.length ≤ 16777216 := by
        have l := allS_len p A (B.take k)
        have t : (B.take k).length ≤ 1000 := by simp; omega
        have m := Nat.mul_le_mul t l1
        omega
      generalize allS p A (B.take k) = ks at *
      simp [b__law_covers_1, show A.length ≤ 16777216 by omega]
      rw [runC_pure (h := fun a => (B[k] + a) % p) (ec := D.int) (fun x hx => by simp [hp])]
      have sm : (A.map fun a => (B[k] + a) % p) = sums p A B[k] := rfl
      rw [sm]
      have sl := sums_len p A B[k]
      simp [sl, ll]
      rw [← List.map_append]
      exact fin _ _ ⟨⟨_, _, rfl⟩, rfl⟩) ⟨⟨none, none, by simp [allS]⟩, rfl⟩
  simp [b__law_covers_2, show p ≤ 16777216 by omega, show (-16777216 : Int) ≤ p by omega, show p.toNat ≤ 16777216 by omega, coversP]
end K74
end

section
set_option Elab.async false
set_option linter.all false
set_option maxRecDepth 100000
/-! K74v: _law_sets_of, _law_tiling. -/
namespace K74
open PySem PySem.Spec Mir Tile
theorem fm_if {α β : Type} (q : α → Bool) (f : α → β) : ∀ xs : List α, (xs.filterMap fun b => if q b then some (f b) else none) = (xs.filter q).map f
  | [] => rfl
  | x :: xs => by
    rw [List.filterMap_cons, fm_if q f xs]
    by_cases h : q x = true
    · rw [if_pos h, List.filter_cons_of_pos h]; rfl
    · rw [if_neg h, List.filter_cons_of_neg h]
/-- what still may come after a row -/
def wt (p : Int) (row : List Int) : Nat := 2 ^ (p - 1 - (row.getLast?.getD 0)).toNat
def wts (p : Int) (rows : List (List Int)) : Nat := (rows.map (wt p)).sum
theorem sum_app (xs ys : List Nat) : (xs ++ ys).sum = xs.sum + ys.sum := by simp
theorem places_wt (p : Int) : ∀ (n : Nat) (l : Int) (row : List Int), (p - (l + 1)).toNat = n → wts p ((rgs (l + 1) n).map fun b => row ++ [b]) < 2 ^ n + 0 ∨ n = 0 := by
  intro n
  induction n with
  | zero => intro l row _; exact .inr rfl
  | succ n ih =>
    intro l row h
    left
    have e : rgs (l + 1) (n + 1) = (l + 1) :: rgs (l + 1 + 1) n := by
      unfold rgs
      rw [List.range_succ_eq_map, List.map_cons, List.map_map]
      congr 1
      · simp
      · refine List.map_congr_left fun k _ => ?_
        simp only [Function.comp]; push_cast; omega
    rw [e]
    have w1 : wt p (row ++ [l + 1]) = 2 ^ n := by
      unfold wt
      rw [List.getLast?_concat]
      congr 1
      simp; omega
    have c : wts p (((l + 1) :: rgs (l + 1 + 1) n).map fun b => row ++ [b]) = 2 ^ n + wts p ((rgs (l + 1 + 1) n).map fun b => row ++ [b]) := by
      unfold wts
      rw [List.map_cons, List.map_cons, List.sum_cons, w1]
    rw [c, Nat.pow_succ]
    rcases ih (l + 1) row (by omega) with h | h
    · omega
    · subst h
      simp [wts, rgs]
theorem wts_filter (p : Int) (q : Int → Bool) (row : List Int) : ∀ bs : List Int, wts p ((bs.filter q).map fun b => row ++ [b]) ≤ wts p (bs.map fun b => row ++ [b])
  | [] => Nat.le_refl _
  | b :: bs => by
    have ih := wts_filter p q row bs
    have c : wts p ((b :: bs).map fun b => row ++ [b]) = wt p (row ++ [b]) + wts p (bs.map fun b => row ++ [b]) := by
      unfold wts
      rw [List.map_cons, List.map_cons, List.sum_cons]
    rw [c]
    by_cases h : q b = true
    · have c2 : wts p (((b :: bs).filter q).map fun b => row ++ [b]) = wt p (row ++ [b]) + wts p ((bs.filter q).map fun b => row ++ [b]) := by
        unfold wts
        rw [List.filter_cons_of_pos h, List.map_cons, List.map_cons, List.sum_cons]
      omega
    · rw [List.filter_cons_of_neg h]; omega
theorem kids_wt {p : Int} {A row : List Int} (hr : row ≠ []) : wts p (kids p A row) ≤ wt p row := by
  obtain ⟨l, hl⟩ : ∃ l, row.getLast? = some l := by
    cases h : row.getLast? with
    | none => exact absurd (List.getLast?_eq_none_iff.mp h) hr
    | some l => exact ⟨l, rfl⟩
  have e : places p row = rgs (l + 1) (p - (l + 1)).toNat := by unfold places; rw [hl]
  have w : wt p row = 2 ^ (p - (l + 1)).toNat := by
    unfold wt
    rw [hl]
    congr 1
    simp; omega
  unfold kids
  rw [e, w]
  refine Nat.le_trans (wts_filter p _ row _) ?_
  rcases places_wt p _ l row rfl with h | h
  · omega
  · rw [h]; simp [wts, rgs]
theorem rows_wt {p : Int} {A : List Int} : ∀ {rows : List (List Int)}, (∀ r ∈ rows, r ≠ []) → wts p (rows.flatMap (kids p A)) ≤ wts p rows
  | [], _ => Nat.le_refl _
  | r :: rows, h => by
    have a := kids_wt (p := p) (A := A) (h r List.mem_cons_self)
    have b := rows_wt (p := p) (A := A) fun r hr => h r (List.mem_cons_of_mem _ hr)
    unfold wts at *
    rw [List.flatMap_cons, List.map_append, sum_app, List.map_cons, List.sum_cons]
    omega
theorem len_wt (p : Int) : ∀ rows : List (List Int), rows.length ≤ wts p rows
  | [] => Nat.le_refl _
  | r :: rows => by
    have a : 1 ≤ wt p r := Nat.pos_of_ne_zero (by unfold wt; exact Nat.ne_of_gt (Nat.two_pow_pos _))
    have b := len_wt p rows
    unfold wts at *
    rw [List.map_cons, List.sum_cons, List.length_cons]
    omega
def encR (r : List Int) : D := .tup (r.map .int)
structure RowsOk (p : Int) (rows : List (List Int)) : Prop where
  ne : ∀ r ∈ rows, r ≠ []
  row : ∀ r ∈ rows, Tile.Row p r
  len : ∀ r ∈ rows, r.length ≤ 100
  w : wts p rows ≤ 2 ^ 20
theorem kids_ok {p : Int} {A row r : List Int} (hp : 0 < p) (R : Tile.Row p row) (h : r ∈ kids p A row) : r ≠ [] ∧ Tile.Row p r := by
  obtain ⟨b, hb, rfl⟩ := List.mem_map.mp h
  exact ⟨by simp, mem_places hp R (List.mem_filter.mp hb).1⟩
theorem rows_step {p : Int} {A : List Int} {rows : List (List Int)} (hp : 0 < p) (hp2 : p ≤ 24) (R : RowsOk p rows) : RowsOk p (rows.flatMap (kids p A)) := by
  refine ⟨fun r hr => ?_, fun r hr => ?_, fun r hr => ?_, Nat.le_trans (rows_wt R.ne) R.w⟩
  · obtain ⟨q, hq, h⟩ := List.mem_flatMap.mp hr
    exact (kids_ok hp (R.row q hq) h).1
  · obtain ⟨q, hq, h⟩ := List.mem_flatMap.mp hr
    exact (kids_ok hp (R.row q hq) h).2
  · obtain ⟨q, hq, h⟩ := List.mem_flatMap.mp hr
    have := row_len (kids_ok hp (R.row q hq) h).2
    omega
theorem iter_fold (p : Int) (A : List Int) : ∀ (l : List Int) (rows : List (List Int)), l.foldl (fun rows _ => rows.flatMap (kids p A)) rows = iter p A l.length rows
  | [], rows => rfl
  | _ :: l, rows => by
    rw [List.foldl_cons, iter_fold p A l]
    rfl
theorem ext_pre {p : Int} {A : List Int} : ∀ {j : Nat} {row B : List Int}, B ∈ ext p A j row → ∃ t, B = row ++ t
  | 0, row, B, h => ⟨[], by simpa [ext] using h⟩
  | j + 1, row, B, h => by
    obtain ⟨r, hr, hB⟩ := List.mem_flatMap.mp h
    obtain ⟨b, hb, rfl⟩ := List.mem_map.mp hr
    obtain ⟨t, rfl⟩ := ext_pre hB
    exact ⟨b :: t, by simp⟩
theorem first_ext (p : Int) (A : List Int) (j : Nat) : (ext p A j [0]).filter (apart p A) = ext p A (j + 1) [] := by
  show _ = (kids p A []).flatMap (ext p A j)
  have k : kids p A [] = if apart p A [0] then [[0]] else [] := by
    show (([0] : List Int).filter fun b => apart p A ([] ++ [b])).map (fun b => [] ++ [b]) = _
    by_cases h : apart p A [0] = true
    · rw [if_pos h, List.filter_cons_of_pos (by simpa using h)]; rfl
    · rw [if_neg h, List.filter_cons_of_neg (by simpa using h)]; rfl
  rw [k]
  cases j with
  | zero =>
    by_cases h : apart p A [0] = true
    · rw [if_pos h]; simp [ext, h]
    · rw [if_neg h]; simp [ext, h]
  | succ j =>
    have f : (ext p A (j + 1) [0]).filter (apart p A) = ext p A (j + 1) [0] := List.filter_eq_self.mpr fun B hB => ext_apart (by omega) hB
    rw [f]
    by_cases h : apart p A [0] = true
    · rw [if_pos h]; simp
    · rw [if_neg h]
      simp only [List.flatMap_nil]
      rw [List.eq_nil_iff_forall_not_mem]
      intro B hB
      obtain ⟨t, rfl⟩ := ext_pre hB
      exact h (apart_pre (ext_apart (by omega) hB))
theorem rows_ne (rows : List (List Int)) (S : Store) : vNeS (.lst (rows.map encR)) (.lst []) S = .ok (.bl !rows.isEmpty) S := by
  have o : (rows.map encR).all (okD 59) = true := by
    rw [List.all_map]
    exact List.all_eq_true.mpr fun r _ => okD_ints 57 r
  show vCmp (fun a b S => (eqV S a b).map (!·)) _ _ S = _
  unfold vCmp
  have e : eqV S (.lst (rows.map encR)) (.lst []) = some rows.isEmpty := by
    show (if (rows.map encR).all (okD 59) && ([] : List D).all (okD 59) then some (eqL (eqF 59) (rows.map encR) []) else none) = _
    rw [o]
    cases rows <;> rfl
  dsimp only
  rw [e]
  rfl
theorem apart_nil (p : Int) (row : List Int) : apart p [] row = true := by
  have e : allS p [] row = [] := by unfold allS sums; induction row with
    | nil => rfl
    | cons b row ih => rw [List.flatMap_cons, ih]; rfl
  unfold apart
  rw [e]; rfl
theorem kids_nil (p : Int) (row : List Int) : kids p [] row = (places p row).map fun b => row ++ [b] := by
  unfold kids
  rw [List.filter_eq_self.mpr fun b _ => apart_nil p _]
theorem p_sets_of {p many : Int} (h1 : 1 ≤ p) (h2 : p ≤ 12) (m1 : 1 ≤ many) (m2 : many ≤ 1000) (S : Store) : s__law_sets_of [.int p, .int many] S = .ok (.lst ((ext p [] (many.toNat - 1) [0]).map encR)) S ∧ RowsOk p (ext p [] (many.toNat - 1) [0]) := by
  simp [s__law_sets_of, b__law_sets_of, b__law_sets_of_7, b__law_sets_of_6, show (-4611686018427387904 : Int) ≤ many - 1 by omega, show many - 1 < 4611686018427387904 by omega]
  generalize hx : runF _ _ _ _ = f
  obtain ⟨env, S', rfl, ⟨o3, o4, o5, o6, rfl⟩, rfl, hl⟩ := runF_at hx (R := fun (rows : List (List Int)) env S' => (∃ o3 o4 o5 o6, env = [some (.int p), some (.int many), some (.lst (rows.map encR)), o3, o4, o5, o6]) ∧ S' = S ∧ RowsOk p rows)
    (step := fun rows _ => rows.flatMap (kids p [])) (b := [[0]])
    (fun P hP rows a env S1 ha ⟨⟨o3, o4, o5, o6, e1⟩, e2, ok⟩ => by
      subst e1 e2
      simp [b__law_sets_of_4, b__law_sets_of_3]
      generalize hx : runF _ _ _ _ = f
      obtain ⟨env, S', rfl, ⟨o5, o6, rfl⟩, rfl⟩ := runF_ix (enc := encR) hx (R := fun k env S' => (∃ o5 o6, env = [some (.int p), some (.int many), some (.lst (rows.map encR)), some (.int a), some (.lst (((rows.take k).flatMap (kids p [])).map encR)), o5, o6]) ∧ S' = S1)
        (fun P hP k env S' hk ⟨⟨o5, o6, e1⟩, e2⟩ => by
          subst e1 e2
          have hr : rows[k] ∈ rows := List.getElem_mem hk
          have tk : (rows.take (k + 1)).flatMap (kids p []) = (rows.take k).flatMap (kids p []) ++ kids p [] rows[k] := by
            rw [← List.take_append_getElem hk, List.flatMap_append]; simp
          have tl : ((rows.take (k + 1)).flatMap (kids p [])).length ≤ (rows.flatMap (kids p [])).length := by
            have e := List.take_append_drop (k + 1) rows
            have e2 : rows.flatMap (kids p []) = (rows.take (k + 1)).flatMap (kids p []) ++ (rows.drop (k + 1)).flatMap (kids p []) := by rw [← List.flatMap_append, e]
            rw [e2, List.length_append]; omega
          have tw := len_wt p (rows.flatMap (kids p []))
          have tw2 := (rows_step (A := []) (show 0 < p by omega) (by omega) ok).w
          rw [tk, List.length_append] at tl
          have tl2 : ((rows.take k).flatMap (kids p [])).length + (kids p [] rows[k]).length ≤ 16777216 := by omega
          have r1 := ok.ne _ hr
          have r2 := ok.row _ hr
          have r3 := ok.len _ hr
          have fin := hP (k + 1)
          rw [tk] at fin
          generalize (rows.take k).flatMap (kids p []) = done at *
          generalize rows[k] = row at *
          obtain ⟨l, hl⟩ : ∃ l, row.getLast? = some l := by
            cases h : row.getLast? with
            | none => exact absurd (List.getLast?_eq_none_iff.mp h) r1
            | some l => exact ⟨l, rfl⟩
          have bl := r2.at_ l (List.mem_of_getLast? hl)
          have pe : places p row = rgs (l + 1) (p - (l + 1)).toNat := by unfold places; rw [hl]
          simp [b__law_sets_of_1, encR, hl, show (-4611686018427387904 : Int) ≤ l + 1 by omega, show l + 1 < 4611686018427387904 by omega, show (-4611686018427387904 : Int) ≤ p by omega, show p < 4611686018427387904 by omega, show (p - (l + 1)).toNat ≤ 16777216 by omega]
          rw [runC_pure (ec := encR) (h := fun b => row ++ [b]) (fun b hb => by
            have rl : row.length + 1 ≤ 16777216 := by omega
            simp [rl, encR])]
          have kk : ((rgs (l + 1) (p - (l + 1)).toNat).map fun b => row ++ [b]) = kids p [] row := by rw [kids_nil, pe]
          rw [kk]
          simp [tl2]
          rw [← List.map_append]
          exact fin _ _ ⟨⟨_, _, rfl⟩, rfl⟩) ⟨⟨o5, o6, by simp⟩, rfl⟩
      simp [b__law_sets_of_2]
      exact hP _ _ _ ⟨⟨_, _, _, _, rfl⟩, rfl, rows_step (by omega) (by omega) ok⟩) ⟨⟨_, _, _, _, rfl⟩, rfl, ⟨fun r hr => by simp at hr; subst hr; simp, fun r hr => by
        simp at hr; subst hr
        exact ⟨by simp [Asc], fun b hb => by simp at hb; omega, .inr rfl⟩, fun r hr => by simp at hr; subst hr; simp, by
        have q : wt p [0] ≤ 2 ^ 20 := by
          unfold wt
          exact Nat.pow_le_pow_right (by omega) (by simp; omega)
        show wt p [0] + 0 ≤ 2 ^ 20
        omega⟩⟩
  have rn : (rg (many.toNat - 1)).length = many.toNat - 1 := by simp
  have ef : (rg (many.toNat - 1)).foldl (fun rows _ => rows.flatMap (kids p [])) [[0]] = ext p [] (many.toNat - 1) [0] := by
    rw [iter_fold, rn, iter_ext]; simp
  rw [ef] at hl ⊢
  refine ⟨?_, hl⟩
  have fl : lts S'.length ((ext p [] (many.toNat - 1) [0]).map encR) = true := by
    generalize ext p [] (many.toNat - 1) [0] = rs
    induction rs with
    | nil => rfl
    | cons r rs ih =>
      rw [List.map_cons]
      show (D.lt S'.length (encR r) && lts S'.length (rs.map encR)) = true
      rw [ih]
      simp [encR, D.lt]
  simp [b__law_sets_of_5, fl]
end K74
end

section
set_option Elab.async false
set_option linter.all false
set_option maxRecDepth 100000
/-! K74w: all sets, looked at late. -/
namespace K74
open PySem PySem.Spec Mir Tile
theorem kids_filter (p : Int) (A r : List Int) : kids p A r = (kids p [] r).filter (apart p A) := by
  rw [kids_nil, List.filter_map]
  rfl
theorem fm_late {α β : Type} (q : α → Bool) (f : α → List β) : ∀ xs : List α, (xs.flatMap fun x => if q x then f x else []) = (xs.filter q).flatMap f
  | [] => rfl
  | x :: xs => by
    rw [List.flatMap_cons, fm_late q f xs]
    by_cases h : q x = true
    · rw [if_pos h, List.filter_cons_of_pos h, List.flatMap_cons]
    · rw [if_neg h, List.filter_cons_of_neg h]; rfl
theorem ext_late (p : Int) (A : List Int) : ∀ (j : Nat) (r : List Int), (ext p [] j r).filter (apart p A) = if apart p A r then ext p A j r else []
  | 0, r => by
    show [r].filter _ = _
    by_cases h : apart p A r = true
    · rw [if_pos h, List.filter_cons_of_pos h]; rfl
    · rw [if_neg h, List.filter_cons_of_neg h]; rfl
  | j + 1, r => by
    show ((kids p [] r).flatMap (ext p [] j)).filter _ = _
    rw [List.filter_flatMap]
    have e : (kids p [] r).flatMap (fun q => (ext p [] j q).filter (apart p A)) = (kids p A r).flatMap (ext p A j) := by
      rw [kids_filter p A r, ← fm_late]
      congr 1
      funext q
      exact ext_late p A j q
    rw [e]
    by_cases h : apart p A r = true
    · rw [if_pos h]; rfl
    · rw [if_neg h]
      have k : kids p A r = [] := by
        rw [List.eq_nil_iff_forall_not_mem]
        intro q hq
        obtain ⟨b, hb, rfl⟩ := List.mem_map.mp hq
        exact h (apart_pre (List.mem_filter.mp hb).2)
      rw [k]; rfl
theorem rg_nodup (n : Nat) : (rg n).Nodup := by
  unfold rg List.Nodup
  rw [List.pairwise_map]
  exact List.pairwise_lt_range.imp fun h => by omega
theorem rg_le (n : Nat) : (rg n).Pairwise (· ≤ ·) := by
  unfold rg
  rw [List.pairwise_map]
  exact List.pairwise_lt_range.imp fun h => by omega
theorem covers_apart {p : Int} {A B : List Int} (hp : 0 < p) (hl : (B.length : Int) * A.length = p) : coversP p A B = apart p A B := by
  have ll := allS_len p A B
  have inr : ∀ x ∈ allS p A B, x ∈ rg p.toNat := fun x hx => by
    obtain ⟨b, _, hx⟩ := List.mem_flatMap.mp hx
    obtain ⟨a, _, rfl⟩ := List.mem_map.mp hx
    have m0 := Int.emod_nonneg (b + a) (show p ≠ 0 by omega)
    have m1 := Int.emod_lt_of_pos (b + a) hp
    exact mem_rg.mpr (by omega)
  unfold coversP apart
  rw [Bool.eq_iff_iff, decide_eq_true_eq, decide_eq_true_eq]
  constructor
  · intro h
    have pm := sortI_perm (allS p A B)
    rw [h] at pm
    exact pm.nodup_iff.mp (rg_nodup _)
  · intro h
    have len : (allS p A B).length = p.toNat := by rw [ll]; have := hl; push_cast at *; omega
    have all : ∀ x, x ∈ allS p A B ↔ x ∈ rg p.toNat := fun x => ⟨inr x, fun hx => by
      rcases Classical.em (x ∈ allS p A B) with q | q
      · exact q
      · have n2 : (x :: allS p A B).Nodup := List.nodup_cons.mpr ⟨q, h⟩
        have := List.Nodup.length_le_of_subset n2 (l₂ := rg p.toNat) (fun y hy => (List.mem_cons.mp hy).elim (fun e => e ▸ hx) (inr y))
        rw [List.length_cons, len, rg_len] at this
        omega⟩
    have pm : (allS p A B).Perm (rg p.toNat) := (List.perm_ext_iff_of_nodup h (rg_nodup _)).mpr all
    exact ((sortI_perm _).trans pm).eq_of_pairwise (fun x y _ _ h1 h2 => Int.le_antisymm h1 h2) (sortI_sorted _) (rg_le _)
end K74
end

section
set_option Elab.async false
set_option linter.all false
set_option maxRecDepth 100000
/-! K74x: _law_tiling. -/
namespace K74
open PySem PySem.Spec Mir Tile
theorem late_first (p : Int) (A : List Int) (j : Nat) : (ext p [] j [0]).filter (apart p A) = ext p A (j + 1) [] := by
  rw [ext_late]
  show _ = (kids p A []).flatMap (ext p A j)
  have k : kids p A [] = if apart p A [0] then [[0]] else [] := by
    show (([0] : List Int).filter fun b => apart p A ([] ++ [b])).map (fun b => [] ++ [b]) = _
    by_cases h : apart p A [0] = true
    · rw [if_pos h, List.filter_cons_of_pos (by simpa using h)]; rfl
    · rw [if_neg h, List.filter_cons_of_neg (by simpa using h)]; rfl
  rw [k]
  by_cases h : apart p A [0] = true
  · rw [if_pos h, if_pos h]; simp
  · rw [if_neg h, if_neg h]; rfl
theorem row0 {p : Int} (hp : 0 < p) : Tile.Row p [0] := ⟨by simp [Asc], fun b hb => by simp at hb; omega, .inr rfl⟩
theorem p_law_tiling {p : Int} {A : List Int} (R : Tset A) (h1 : 1 ≤ p) (h2 : p ≤ 12) (S : Store) : s__law_tiling [.int p, .tup (A.map .int)] S = .ok (optD (tilesP p A)) S := by
  have r1 := R.one
  have r2 := R.few
  simp [s__law_tiling, b__law_tiling, b__law_tiling_4, show 0 < (A.length : Int) by omega, show 0 < A.length by omega]
  unfold tilesP
  by_cases h : p % (A.length : Int) = 0
  · have d1 := Int.ediv_mul_cancel (Int.dvd_of_emod_eq_zero h)
    have d2 : p / (A.length : Int) ≤ p := Int.ediv_le_self _ (by omega)
    have d3 : 0 ≤ p / (A.length : Int) := Int.ediv_nonneg (by omega) (by omega)
    have d4 : 1 ≤ p / (A.length : Int) := by
      rcases Int.lt_or_le 0 (p / (A.length : Int)) with q | q
      · omega
      · have : p / (A.length : Int) = 0 := by omega
        rw [this] at d1; omega
    obtain ⟨es, ok⟩ := p_sets_of (p := p) (many := p / A.length) h1 h2 d4 (by omega) S
    have eg := late_first p A ((p / (A.length : Int)).toNat - 1)
    rw [show (p / (A.length : Int)).toNat - 1 + 1 = (p / (A.length : Int)).toNat by omega] at eg
    have el : ∀ r ∈ ext p [] ((p / (A.length : Int)).toNat - 1) [0], r.length = (p / (A.length : Int)).toNat := fun r hr => by
      have := (ext_row (by omega) (row0 (show 0 < p by omega)) hr).2
      rw [this]; simp; omega
    rw [← eg]
    have wl := len_wt p (ext p [] ((p / (A.length : Int)).toNat - 1) [0])
    have wl2 := ok.w
    have wl3 : (ext p [] ((p / (A.length : Int)).toNat - 1) [0]).length ≤ 16777216 := by omega
    generalize ext p [] ((p / (A.length : Int)).toNat - 1) [0] = rows at *
    have fe : rows.filter (coversP p A) = rows.filter (apart p A) := List.filter_congr fun r hr => by
      have l := el r hr
      exact covers_apart (by omega) (by rw [l, show (((p / (A.length : Int)).toNat : Nat) : Int) = p / A.length by omega]; exact d1)
    generalize hrs : rows.filter (apart p A) = rs at *
    simp [h, b__law_tiling_3, es, wl3, show A.length < 18446744073709551616 by omega, show (A.length : Int) < 18446744073709551616 by omega, show 0 < (A.length : Int) by omega, show 0 < A.length by omega]
    rw [runC_filter (enc := encR) (ec := encR) (h := fun r => if coversP p A r then some r else none) (fun r hr => by
      have cv := fun S => p_covers (p := p) (A := A) (B := r) (by omega) (by omega) (by omega) (by have := el r hr; omega) S
      have cv : ∀ S, s__law_covers [.int p, .tup (A.map .int), encR r] S = .ok (.bl (coversP p A r)) S := cv
      simp [cv]
      by_cases q : coversP p A r = true
      · simp [q]
      · simp [q])]
    have fi : (rows.filterMap fun r => if coversP p A r = true then some r else none) = rs := by
      rw [fm_if (coversP p A) (fun r => r), fe]; simp
    rw [fi]
    simp [b__law_tiling_2, rows_ne]
    cases rs with
    | nil => simp [optD]
    | cons r rs => simp [optD, encR]
  · simp [h, optD, b__law_tiling_1]
end K74
end

section
set_option Elab.async false
set_option linter.all false
set_option maxRecDepth 100000
/-! K74y: the least turn; a tiling moved. -/
namespace K74
open PySem PySem.Spec Mir Tile
theorem least_none {A : List Int} (h : leastD A = none) : ∀ q, 1 ≤ q → q ≤ 24 → tilesP q A = none := fun q h1 h2 => by
  have := List.findSome?_eq_none_iff.mp h q (mem_rgs.mpr (by omega))
  unfold tryT at this
  cases ht : tilesP q A with
  | none => rfl
  | some B => rw [ht] at this; simp at this
theorem rgs_up (i : Int) (n : Nat) : Asc (rgs i n) := by
  unfold rgs Asc
  rw [List.pairwise_map]
  exact List.pairwise_lt_range.imp fun h => by omega
theorem least_some {A : List Int} {d : D} (h : leastD A = some d) : ∃ q, d = .int q ∧ 1 ≤ q ∧ q ≤ 24 ∧ (∃ B, tilesP q A = some B) ∧ ∀ r, 1 ≤ r → r < q → tilesP r A = none := by
  obtain ⟨l1, q, l2, e, hq, hn⟩ := List.findSome?_eq_some_iff.mp h
  have hm : q ∈ rgs 1 24 := by rw [e]; simp
  obtain ⟨g1, g2⟩ := mem_rgs.mp hm
  have up := rgs_up 1 24
  rw [e] at up
  unfold tryT at hq
  split at hq
  · rename_i hs
    refine ⟨q, (Option.some.inj hq).symm, by omega, by omega, Option.isSome_iff_exists.mp hs, fun r r1 r2 => ?_⟩
    have hr : r ∈ rgs 1 24 := mem_rgs.mpr (by omega)
    rw [e] at hr
    rcases List.mem_append.mp hr with hr | hr
    · have := hn r hr
      unfold tryT at this
      cases ht : tilesP r A with
      | none => rfl
      | some B => rw [ht] at this; simp at this
    · have u := (List.pairwise_append.mp up).2.1
      rcases List.mem_cons.mp hr with hr | hr
      · omega
      · have := (List.pairwise_cons.mp u).1 r hr
        omega
  · exact absurd hq (by simp)
theorem two_some {p : Int} {A : List Int} (R : Tset A) (h1 : 1 ≤ p) {B : List Int} (h : tilesP p A = some B) : ∃ C, tilesP (2 * p) A = some C := by
  have r1 := R.one
  unfold tilesP at h ⊢
  split at h
  · rename_i hm
    have d1 := Int.ediv_mul_cancel (Int.dvd_of_emod_eq_zero hm)
    have d3 : 0 ≤ p / (A.length : Int) := Int.ediv_nonneg (by omega) (by omega)
    have d4 : 1 ≤ p / (A.length : Int) := by
      rcases Int.lt_or_le 0 (p / (A.length : Int)) with q | q
      · omega
      · have : p / (A.length : Int) = 0 := by omega
        rw [this] at d1; omega
    have e2 : 2 * p = (2 * (p / (A.length : Int))) * A.length := by rw [Int.mul_assoc, d1]
    have m2 : 2 * p % (A.length : Int) = 0 := by rw [e2]; exact Int.mul_emod_left _ _
    have q2 : 2 * p / (A.length : Int) = 2 * (p / A.length) := by rw [e2]; exact Int.mul_ediv_cancel _ (by omega)
    rw [if_pos m2, q2, show (2 * (p / (A.length : Int))).toNat = 2 * (p / (A.length : Int)).toNat by omega]
    have ne : ext p A (p / (A.length : Int)).toNat [] ≠ [] := fun z => by rw [z] at h; simp at h
    have ne2 := ext_two (by omega) R.up (by omega) ne
    cases he : ext (2 * p) A (2 * (p / (A.length : Int)).toNat) [] with
    | nil => exact absurd he ne2
    | cons C Cs => exact ⟨C, rfl⟩
  · exact absurd h (by simp)
/-- moved by a number, it covers too -/
theorem moved {p by_ : Int} {A B : List Int} (hp : 0 < p) (h : coversP p A B = true) : coversP p A (B.map fun b => (b + by_) % p) = true := by
  unfold coversP at *
  rw [decide_eq_true_eq] at *
  have pm : (allS p A B).Perm (rg p.toNat) := by have q := sortI_perm (allS p A B); rw [h] at q; exact q.symm
  have e : allS p A (B.map fun b => (b + by_) % p) = (allS p A B).map fun x => (x + by_) % p := by
    unfold allS sums
    rw [List.flatMap_map, List.map_flatMap]
    congr 1
    funext b
    rw [List.map_map]
    refine List.map_congr_left fun a _ => ?_
    show ((b + by_) % p + a) % p = ((b + a) % p + by_) % p
    rw [Int.emod_add_emod, Int.emod_add_emod]
    congr 1
    omega
  rw [e]
  have p2 : ((allS p A B).map fun x => (x + by_) % p).Perm ((rg p.toNat).map fun x => (x + by_) % p) := pm.map _
  have nd : ((rg p.toNat).map fun x => (x + by_) % p).Nodup := by
    rw [nodup_map (rg_nodup p.toNat)]
    intro x hx y hy e
    obtain ⟨x0, x1⟩ := mem_rg.mp hx
    obtain ⟨y0, y1⟩ := mem_rg.mp hy
    have e2 : (x - y) % p = 0 := by
      have : ((x + by_) - (y + by_)) % p = 0 := by rw [Int.sub_emod, e]; simp
      rw [show x + by_ - (y + by_) = x - y by omega] at this
      exact this
    obtain ⟨c, hc⟩ := Int.dvd_of_emod_eq_zero e2
    have hx2 : x < p := by omega
    have hy2 : y < p := by omega
    have c0 : c = 0 := by
      rcases Int.lt_trichotomy c 0 with q | q | q
      · have : p * c ≤ p * (-1) := Int.mul_le_mul_of_nonneg_left (by omega) (by omega)
        omega
      · exact q
      · have : p * 1 ≤ p * c := Int.mul_le_mul_of_nonneg_left (by omega) (by omega)
        omega
    rw [c0] at hc
    omega
  have inr : ∀ x ∈ (rg p.toNat).map fun x => (x + by_) % p, x ∈ rg p.toNat := fun x hx => by
    obtain ⟨y, _, rfl⟩ := List.mem_map.mp hx
    have m0 := Int.emod_nonneg (y + by_) (show p ≠ 0 by omega)
    have m1 := Int.emod_lt_of_pos (y + by_) hp
    exact mem_rg.mpr (by omega)
  have all : ∀ x, x ∈ ((rg p.toNat).map fun x => (x + by_) % p) ↔ x ∈ rg p.toNat := fun x => ⟨inr x, fun hx => by
    rcases Classical.em (x ∈ (rg p.toNat).map fun x => (x + by_) % p) with q | q
    · exact q
    · have n2 := List.nodup_cons.mpr ⟨q, nd⟩
      have := List.Nodup.length_le_of_subset n2 (l₂ := rg p.toNat) (fun y hy => (List.mem_cons.mp hy).elim (fun e => e ▸ hx) (inr y))
      rw [List.length_cons, List.length_map] at this
      omega⟩
  have pm3 := (List.perm_ext_iff_of_nodup nd (rg_nodup _)).mpr all
  exact ((sortI_perm _).trans (p2.trans pm3)).eq_of_pairwise (fun x y _ _ h1 h2 => Int.le_antisymm h1 h2) (sortI_sorted _) (rg_le _)
end K74
end

section
set_option Elab.async false
set_option linter.all false
set_option maxRecDepth 100000
/-! K74z: told things, held beside what is due. -/
namespace K74
open PySem PySem.Spec Mir Tile
theorem told_least {A : List Int} (R : Tset A) {env : Mir.Env} (he : env[2]? = some (some (.tup (A.map .int)))) (S : Store) : mLam lk__law_told [] (mCall s_least_turn (mCons (mVar 2) mNil)) env S = .ok (.tup [.int 0, orN (leastD A)]) S := by
  have c : (mCall s_least_turn (mCons (mVar 2) mNil)) env S = .ok (orN (leastD A)) S := by simp [he, p_least_turn R]
  have rd : s__law_read 4 [orN (leastD A)] S = .ok (orN (leastD A)) S := by
    cases h : leastD A with
    | none => exact read_non 3 S
    | some d =>
      obtain ⟨q, rfl, _⟩ := least_some h
      exact read_int 3 q S
  exact lam_told (w := fun c => w__law_told[c]?) (pre := []) c rd
theorem ne_pair (o o' : Option (List Int)) (S : Store) : vNeS (.tup [.int 0, optD o]) (.tup [.int 0, optD o']) S = .ok (.bl (!decide (o = o'))) S := by
  have k : ∀ o, okD 59 (optD o) = true := fun o => by
    cases o with
    | none => rfl
    | some B => exact okD_ints 57 B
  have e : eqF 59 (optD o) (optD o') = decide (o = o') := by
    cases o with
    | none => cases o' with
      | none => rfl
      | some B => simp; rfl
    | some B => cases o' with
      | none => simp; rfl
      | some B' =>
        show eqL (eqF 58) (B.map .int) (B'.map .int) = _
        rw [eqL_ints]
        simp
  show vCmp (fun a b S => (eqV S a b).map (!·)) _ _ S = _
  unfold vCmp
  have q : eqV S (.tup [.int 0, optD o]) (.tup [.int 0, optD o']) = some (decide (o = o')) := by
    show (if ([.int 0, optD o] : List D).all (okD 59) && ([.int 0, optD o'] : List D).all (okD 59) then some (eqL (eqF 59) [.int 0, optD o] [.int 0, optD o']) else none) = _
    have a : ∀ o, ([.int 0, optD o] : List D).all (okD 59) = true := fun o => by
      show (true && (okD 59 (optD o) && true)) = true
      rw [k]; rfl
    rw [a, a]
    show some (true && (eqF 59 (optD o) (optD o') && true)) = _
    rw [e, Bool.and_true, Bool.true_and]
  dsimp only
  rw [q]
  rfl
end K74
end

section
set_option Elab.async false
set_option linter.all false
set_option maxRecDepth 100000
/-! K74t: the stream. -/
namespace K74
open PySem PySem.Spec Mir
def cellF (ns : List Int) : Int := (ns.headD 0).natAbs
theorem cell_is (ns : List Int) : s__law_cell [.scr ns, .int 0] [] = .ok (.int (cellF ns)) [] := by
  cases ns with
  | nil => simp [s__law_cell, b__law_cell, b__law_cell_1, cellF]
  | cons n ns =>
    have e : vIx (.scr (n :: ns)) (.int 0) [] = .ok (.int n) [] := by
      show (match L2.atI (n :: ns) 0 with
        | some d => Out.ok (D.int d) []
        | none => .bad) = _
      rw [atI_nn _ (by omega)]
      rfl
    simp [s__law_cell, b__law_cell, b__law_cell_1, cellF, e]
def boxF (ns : List Int) : Bx := ⟨cellF ns, 1 + 48271 * cellF ns % 2147483647, by unfold cellF; omega, by have := Int.emod_nonneg (48271 * cellF ns) (show (2147483647 : Int) ≠ 0 by decide); omega, by have := Int.emod_lt_of_pos (48271 * cellF ns) (show (0 : Int) < 2147483647 by decide); omega⟩
theorem stream_is (ns : List Int) (h : ∀ z ∈ ns, Builtin.Int.intBits z ≤ 1048576) : s__law_stream [.scr ns, .int 0] [] = .ok (.ref 0) [bx (boxF ns)] := by
  have e : bx (boxF ns) = .lst [.int (cellF ns), .int (1 + 48271 * cellF ns % 2147483647)] := rfl
  rw [e]
  have lg : (cellF ns).natAbs.log2 ≤ 1048576 := by
    cases ns with
    | nil => exact Nat.zero_le _
    | cons n ns =>
      have hz := h n List.mem_cons_self
      have en : (cellF (n :: ns)).natAbs = n.natAbs := by simp [cellF]
      rw [en]
      unfold Builtin.Int.intBits at hz
      split at hz
      · rename_i z
        have : n = 0 := by simpa using z
        rw [this]; exact Nat.zero_le _
      · omega
  have mu : vMul false (.int 48271) (.int (cellF ns)) [] = .ok (.int (48271 * cellF ns)) [] := by
    refine if_pos (Nat.ble_eq_true_of_le ?_)
    have : (48271 : Int).natAbs.log2 ≤ 16 := by decide
    omega
  simp [s__law_stream, b__law_stream, b__law_stream_1, cell_is, mu, Mir.finish, backOk, outD, D.lt]
end K74
end

section
set_option Elab.async false
set_option linter.all false
set_option maxRecDepth 100000
/-! MirU: rows that are drawn; sorted sets; turned rows. -/
namespace Mir
open PySem PySem.Spec
/-- a comprehension that draws each element -/
theorem runC_each {α β : Type} {f : D → Store → Out (Option D)} {enc : α → D} {ec : β → D} {P : Store → Prop} {Q : β → Prop} : ∀ {xs : List α} {S : Store},
    (∀ S x, x ∈ xs → P S → ∃ (b : β) (S' : Store), f (enc x) S = .ok (some (ec b)) S' ∧ P S' ∧ Q b) → P S → ∃ (zs : List β) (S' : Store), runC f (xs.map enc) S = .ok (zs.map ec) S' ∧ zs.length = xs.length ∧ (∀ z ∈ zs, Q z) ∧ P S'
  | [], S, _, p => ⟨[], S, rfl, rfl, fun _ h => absurd h (by simp), p⟩
  | x :: xs, S, h, p => by
    obtain ⟨b, S1, e1, p1, q1⟩ := h S x List.mem_cons_self p
    obtain ⟨zs, S2, e2, l2, q2, p2⟩ := runC_each (xs := xs) (fun S y hy => h S y (List.mem_cons_of_mem _ hy)) p1
    refine ⟨b :: zs, S2, ?_, by simp [l2], fun z hz => ?_, p2⟩
    · rw [List.map_cons]
      unfold runC
      rw [e1]
      dsimp only
      rw [e2]
      rfl
    · rcases List.mem_cons.mp hz with e | e
      · subst e; exact q1
      · exact q2 z e
theorem mSortSet_ints {a : SE} {env : Env} {S S1 : Store} {ns : List Int} (h : a env S = .ok (.lst (ns.map .int)) S1) (hl : ns.length < 64) : mSortSet false a env S = .ok (.lst ((sortI (once ns)).map .int)) S1 := by
  unfold mSortSet
  rw [h]
  have e : listInts S1 (.lst (ns.map .int)) = some ns := intsOf_map ns
  rw [bind_ok]
  simp only [e, mkL_f, if_pos hl]
theorem mRev_tup {a : SE} {mt : Bool} {env : Env} {S S1 : Store} {xs : List D} (h : a env S = .ok (.tup xs) S1) : mRev mt a env S = .ok (.tup xs.reverse) S1 := by
  unfold mRev
  rw [h]
  rfl
theorem ones_is {α : Type} (xs : List α) : (xs.map fun _ => D.int 1) = (xs.map fun _ => (1 : Int)).map D.int := by rw [List.map_map]; rfl
/-- `[1 for x in xs if ..] == []` -/
theorem runC_ones {α : Type} {f : D → Store → Out (Option D)} {enc : α → D} {S : Store} {c : α → Bool} {xs : List α} (h : ∀ x ∈ xs, f (enc x) S = .ok (if c x then some (.int 1) else none) S) : runC f (xs.map enc) S = .ok ((xs.filter c).map fun _ => D.int 1) S := by
  rw [runC_filter (ec := fun _ : Unit => D.int 1) (h := fun x => if c x then some () else none) (fun x hx => by rw [h x hx]; cases c x <;> rfl)]
  congr 1
  clear h
  induction xs with
  | nil => rfl
  | cons x xs ih =>
    rw [List.filterMap_cons, List.filter_cons]
    cases c x <;> simp_all
@[simp] theorem vEqS_ones {α : Type} (xs : List α) (S : Store) : vEqS (.lst (xs.map fun _ => D.int 1)) (.lst []) S = .ok (.bl xs.isEmpty) S := by
  rw [ones_is]
  refine (vEqS_lsts S _ []).trans ?_
  cases xs <;> simp
@[simp] theorem vNeS_ones {α : Type} (xs : List α) (S : Store) : vNeS (.lst (xs.map fun _ => D.int 1)) (.lst []) S = .ok (.bl !xs.isEmpty) S := by
  rw [ones_is]
  refine (vNeS_lsts S _ []).trans ?_
  cases xs <;> simp
@[simp] theorem vEqS_nn (S : Store) : vEqS (.lst []) (.lst []) S = .ok (.bl true) S := vEqS_lsts S [] []
@[simp] theorem vNeS_nn (S : Store) : vNeS (.lst []) (.lst []) S = .ok (.bl false) S := vNeS_lsts S [] []
theorem filter_isEmpty {α : Type} (c : α → Bool) (xs : List α) : (xs.filter c).isEmpty = xs.all fun x => !c x := by
  induction xs with
  | nil => rfl
  | cons x xs ih =>
    rw [List.filter_cons, List.all_cons, ← ih]
    cases c x <;> simp
@[simp] theorem filter_ff {α : Type} (xs : List α) : (xs.filter fun _ => false) = [] := by simp
theorem all_tt {α : Type} (l : List α) : l.all (fun _ => true) = true := List.all_eq_true.mpr fun _ _ => rfl
end Mir
end

section
set_option Elab.async false
set_option linter.all false
set_option maxRecDepth 100000
/-! K74A: the tilings' part of the law. -/
namespace K74
open PySem PySem.Spec Mir Tile
@[simp] theorem draw_ap (x : Bx) (m : Int) (R : Store) (h : 0 < m) (h2 : m < 18446744073709551616) : s__law_draw [.ref 0, .int m] (bx x :: R) = .ok (.int (dvB x m)) (bx (dnB x m) :: R) := drawB x m R h h2
theorem tset_of {zs : List Int} (hl : zs.length ≤ 3) (h : ∀ z ∈ zs, 1 ≤ z ∧ z ≤ 8) : Tset (sortI (once (0 :: zs))) ∧ (sortI (once (0 :: zs))).length ≤ 4 := by
  have pm := sortI_perm (once (0 :: zs))
  have so := sortI_sorted (once (0 :: zs))
  have nd := pm.nodup_iff.mpr (once_nodup (0 :: zs))
  have mem : ∀ k, k ∈ sortI (once (0 :: zs)) ↔ k ∈ (0 :: zs) := fun k => pm.mem_iff.trans mem_once
  generalize sortI (once (0 :: zs)) = A at *
  have up : Asc A := by
    have : A.Pairwise fun a b => a ≤ b ∧ a ≠ b := List.Pairwise.and so nd
    exact this.imp fun h => by omega
  have le : A.length ≤ 4 := by
    have := List.Nodup.length_le_of_subset nd (l₂ := 0 :: zs) (fun k hk => (mem k).mp hk)
    simp at this; omega
  have bd : ∀ a ∈ A, 0 ≤ a ∧ a ≤ 20 := fun a ha => by
    rcases List.mem_cons.mp ((mem a).mp ha) with q | q
    · omega
    · have := h a q; omega
  have z : (0 : Int) ∈ A := (mem 0).mpr List.mem_cons_self
  cases A with
  | nil => simp at z
  | cons a A =>
    refine ⟨⟨by simp, by omega, ?_, bd, up⟩, le⟩
    rcases List.mem_cons.mp z with q | q
    · rw [← q]; rfl
    · have := (List.pairwise_cons.mp up).1 0 q
      have := bd a List.mem_cons_self
      omega
theorem tiles_covers {p : Int} {A : List Int} (R : Tset A) (h1 : 1 ≤ p) {B : List Int} (h : tilesP p A = some B) : coversP p A B = true := by
  obtain ⟨pm, row, mem⟩ := tiles_row R h1 h
  have r1 := R.one
  have d1 := Int.ediv_mul_cancel (Int.dvd_of_emod_eq_zero pm)
  have d3 : 0 ≤ p / (A.length : Int) := Int.ediv_nonneg (by omega) (by omega)
  have d4 : 1 ≤ p / (A.length : Int) := by
    rcases Int.lt_or_le 0 (p / (A.length : Int)) with q | q
    · omega
    · have : p / (A.length : Int) = 0 := by omega
      rw [this] at d1; omega
  have len := (ext_row (by omega) (row := []) ⟨List.Pairwise.nil, fun b hb => by simp at hb, .inl rfl⟩ mem).2
  have ap := ext_apart (by omega) mem
  rw [covers_apart (by omega) (by rw [len, show (([] : List Int).length + (p / (A.length : Int)).toNat : Nat) = ((p / (A.length : Int)).toNat : Nat) by simp, show (((p / (A.length : Int)).toNat : Nat) : Int) = p / A.length by omega]; exact d1)]
  exact ap
/-- behind the least turn -/
theorem tiles_end {A : List Int} (R : Tset A) {p : Int} (h1 : 1 ≤ p) (h2 : p ≤ 12) (y : Bx) (a0 a3 a6 a7 a8 : Option D) : ∃ a9, b_law_29 [a0, some (.ref 0), some (.tup (A.map .int)), a3, some (.int p), some (optD (tilesP p A)), a6, a7, a8, none, none, none, none, none, none, none, none, none] [bx y] = b_law_25 [a0, some (.ref 0), some (.tup (A.map .int)), a3, some (.int p), some (optD (tilesP p A)), a6, a7, a8, a9, none, none, none, none, none, none, none, none] [bx y] := by
  have tl := fun env he => told_least R (env := env) he [bx y]
  have nn : ∀ S, vNeS (.tup [.int 0, .non]) (.tup [.int 0, .non]) S = .ok (.bl false) S := fun S => by
    have := ne_pair none none S
    simpa [optD] using this
  cases hl : leastD A with
  | none =>
    have tn := least_none hl
    have tp := tn p h1 (by omega)
    refine ⟨some (.tup [.int 0, .non]), ?_⟩
    simp [b_law_29, tl, hl, orN, b_law_28, tp, optD, b_law_27, b_law_26]
    rw [runC_ones (enc := D.int) (c := fun _ => false) (fun q hq => by
      obtain ⟨q1, q2⟩ := mem_rgs.mp hq
      have e := p_told_tiles R (p := q) (by omega) (by omega) [bx y]
      rw [tn q (by omega) (by omega)] at e
      simp [e, optD, nn])]
    simp
  | some d =>
    obtain ⟨q, rfl, q1, q2, ⟨B, qB⟩, qn⟩ := least_some hl
    refine ⟨some (.tup [.int 0, .int q]), ?_⟩
    have le : ∀ C, tilesP p A = some C → ¬ p < q := fun C hC z => by rw [qn p h1 z] at hC; simp at hC
    have tail : ∀ a5, b_law_26 [a0, some (.ref 0), some (.tup (A.map .int)), a3, some (.int p), a5, a6, a7, a8, some (.tup [.int 0, .int q]), none, none, none, none, none, none, none, none] [bx y] = b_law_25 [a0, some (.ref 0), some (.tup (A.map .int)), a3, some (.int p), a5, a6, a7, a8, some (.tup [.int 0, .int q]), none, none, none, none, none, none, none, none] [bx y] := fun a5 => by
      simp [b_law_26, show (-4611686018427387904 : Int) ≤ q by omega, show q < 4611686018427387904 by omega, show (q - 1).toNat ≤ 16777216 by omega, show q.toNat - 1 ≤ 16777216 by omega]
      rw [runC_ones (enc := D.int) (c := fun _ => false) (fun r hr => by
        obtain ⟨r1, r2⟩ := mem_rgs.mp hr
        have e := p_told_tiles R (p := r) (by omega) (by omega) [bx y]
        rw [qn r (by omega) (by omega)] at e
        simp [e, optD, nn])]
      simp
    have tail2 : ∀ a5, b_law_27 [a0, some (.ref 0), some (.tup (A.map .int)), a3, some (.int p), a5, a6, a7, a8, some (.tup [.int 0, .int q]), none, none, none, none, none, none, none, none] [bx y] = b_law_25 [a0, some (.ref 0), some (.tup (A.map .int)), a3, some (.int p), a5, a6, a7, a8, some (.tup [.int 0, .int q]), none, none, none, none, none, none, none, none] [bx y] := fun a5 => by
      rw [← tail]
      by_cases h12 : q ≤ 12
      · have e := p_law_tiling R q1 h12 [bx y]
        rw [qB] at e
        simp [b_law_27, h12, e, optD]
      · simp [b_law_27, h12]
    cases ht : tilesP p A with
    | none => simp [b_law_29, tl, hl, orN, b_law_28, optD, tail2]
    | some C => simp [b_law_29, tl, hl, orN, b_law_28, optD, tail2, le C ht]
theorem tiles_go (a0 : Option D) (x : Bx) : ∃ y a2 a3 a4 a5 a6 a7 a8 a9, b_law_34 [a0, some (.ref 0), none, none, none, none, none, none, none, none, none, none, none, none, none, none, none, none] [bx x] = b_law_25 [a0, some (.ref 0), a2, a3, a4, a5, a6, a7, a8, a9, none, none, none, none, none, none, none, none] [bx y] := by
  have l1 := dvB_lo x (m := 4) (by omega)
  have l2 := dvB_hi x (m := 4) (by omega)
  obtain ⟨zs, S', e, zl, zb, y, rfl⟩ := runC_each (f := mElt [3] (gSet 3) (fun _ S => .ok true S) (m2 (vAdd false) (mC (.int 1)) (mCall s__law_draw (mCons (mVar 1) (mCons (mC (.int 8)) mNil)))) [a0, some (.ref 0), none, none, none, none, none, none, none, none, none, none, none, none, none, none, none, none])
    (enc := D.int) (ec := D.int) (P := fun S => ∃ y, S = [bx y]) (Q := fun z => 1 ≤ z ∧ z ≤ 8) (xs := rg (dvB x 4).toNat) (S := [bx (dnB x 4)]) (fun S z hz ⟨y, hy⟩ => by
      subst hy
      have d1 := dvB_lo y (m := 8) (by omega)
      have d2 := dvB_hi y (m := 8) (by omega)
      exact ⟨1 + dvB y 8, [bx (dnB y 8)], by simp, ⟨_, rfl⟩, by omega, by omega⟩) ⟨_, rfl⟩
  rw [rg_len] at zl
  have ss := mSortSet_ints (ns := 0 :: zs) (S := [bx x]) (S1 := [bx y]) (env := [a0, some (.ref 0), none, none, none, none, none, none, none, none, none, none, none, none, none, none, none, none]) (a := (m2 (vAdd false) (mLst false (mCons (mC (.int 0)) mNil)) (mLC [3] false (mRange1 (mCons (mCall s__law_draw (mCons (mVar 1) (mCons (mC (.int 4)) mNil))) mNil)) (gSet 3) (fun _ S => .ok true S) (m2 (vAdd false) (mC (.int 1)) (mCall s__law_draw (mCons (mVar 1) (mCons (mC (.int 8)) mNil))))))) (by
    simp [show (-4611686018427387904 : Int) ≤ dvB x 4 by omega, show dvB x 4 < 4611686018427387904 by omega, show (dvB x 4).toNat ≤ 16777216 by omega, e, show 1 + zs.length ≤ 16777216 by omega, show zs.length + 1 ≤ 16777216 by omega]) (by simp; omega)
  obtain ⟨R, few⟩ := tset_of (zs := zs) (by omega) zb
  generalize sortI (once (0 :: zs)) = A at *
  have r1 := R.one
  obtain ⟨m, hm, hm1, hm2⟩ : ∃ m : Int, (if A.length = 1 then (10 : Int) else 12) = m ∧ 1 ≤ m ∧ m ≤ 12 := ⟨_, rfl, by split <;> omega, by split <;> omega⟩
  have p1 := dvB_lo y (m := m) (by omega)
  have p2 := dvB_hi y (m := m) (by omega)
  have dr33 : ∀ a3, b_law_33 [a0, some (.ref 0), some (.tup (A.map .int)), a3, none, none, none, none, none, none, none, none, none, none, none, none, none, none] [bx y] = b_law_32 [a0, some (.ref 0), some (.tup (A.map .int)), a3, some (.int (1 + dvB y m)), none, none, none, none, none, none, none, none, none, none, none, none, none] [bx (dnB y m)] := fun a3 => by
    by_cases h : A.length = 1
    · rw [if_pos h] at hm
      subst hm
      simp [b_law_33, h]
    · rw [if_neg h] at hm
      subst hm
      simp [b_law_33, h, show ¬ (A.length : Int) = 1 by omega]
  generalize hp : 1 + dvB y m = p at dr33
  generalize dnB y m = y2 at dr33
  have h1 : 1 ≤ p := by omega
  have h2 : p ≤ 12 := by omega
  have tp := p_told_tiles R h1 (show p ≤ 24 by omega)
  have tt := p_law_tiling R h1 h2
  have np := ne_pair (tilesP p A) (tilesP p A)
  have start : ∃ a3, b_law_34 [a0, some (.ref 0), none, none, none, none, none, none, none, none, none, none, none, none, none, none, none, none] [bx x] = b_law_30 [a0, some (.ref 0), some (.tup (A.map .int)), a3, some (.int p), some (optD (tilesP p A)), none, none, none, none, none, none, none, none, none, none, none, none] [bx y2] := ⟨none, by
    simp [b_law_34, ss, dr33, b_law_32, tt, b_law_31, tp, np]⟩
  obtain ⟨a3, start⟩ := start
  rw [start]
  cases ht : tilesP p A with
  | none =>
    obtain ⟨a9, e⟩ := tiles_end R h1 h2 y2 a0 a3 none none none
    rw [ht] at e
    refine ⟨y2, some (.tup (A.map .int)), a3, some (.int p), some (optD none), none, none, none, a9, ?_⟩
    rw [← e]
    simp [b_law_30, optD]
  | some B =>
    have b1 := dvB_lo y2 (m := p) (by omega)
    have b2 := dvB_hi y2 (m := p) (by omega)
    obtain ⟨C, hC⟩ := two_some R h1 ht
    have t2 := p_told_tiles R (p := 2 * p) (by omega) (by omega)
    rw [hC] at t2
    have row := (tiles_row R h1 ht).2.1
    have rl := row_len row
    have row2 := (tiles_row R (show 1 ≤ 2 * p by omega) hC).2.1
    have rl2 := row_len row2
    have mv := moved (by_ := dvB y2 p) (by omega) (tiles_covers R h1 ht)
    have cv1 := fun S => p_covers_l (p := p) (A := A) (B := B.map fun b => (b + dvB y2 p) % p) (by omega) (by omega) (by omega) (by simp; omega) S
    rw [mv] at cv1
    simp only [List.map_map] at cv1
    have cv2 := fun S => p_covers (p := 2 * p) (A := A) (B := C) (by omega) (by omega) (by omega) (by omega) S
    rw [tiles_covers R (by omega) hC] at cv2
    obtain ⟨a9, e⟩ := tiles_end R h1 h2 (dnB y2 p) a0 a3 (some (.int (dvB y2 p))) (some (.tup [.int 0, optD (some C)])) none
    rw [ht] at e
    refine ⟨dnB y2 p, some (.tup (A.map .int)), a3, some (.int p), some (optD (some B)), some (.int (dvB y2 p)), some (.tup [.int 0, optD (some C)]), none, a9, ?_⟩
    rw [← e]
    have mvc : ∀ S, runC (mElt [8] (gSet 8) (fun _ S => .ok true S) (m2 vMod (m2 (vAdd false) (mVar 8) (mVar 6)) (mVar 4)) [a0, some (.ref 0), some (.tup (A.map .int)), a3, some (.int p), some (.tup (B.map .int)), some (.int (dvB y2 p)), some (.tup [.int 0, .tup (C.map .int)]), none, none, none, none, none, none, none, none, none, none]) (B.map .int) S = .ok ((B.map fun b => (b + dvB y2 p) % p).map .int) S := fun S =>
      runC_pure (fun z hz => by simp [show 0 < p by omega])
    simp [b_law_30, optD, b_law_4, show p < 18446744073709551616 by omega, show 0 < p by omega, show p.natAbs < 18446744073709551616 by omega, t2, b_law_3, mvc, show B.length ≤ 16777216 by omega]
    simp [cv1, cv2, show p.natAbs < 18446744073709551616 by omega]
end K74
end

section
set_option Elab.async false
set_option linter.all false
set_option maxRecDepth 100000
/-! K74B: the nets' part of the law. -/
namespace K74
open PySem PySem.Spec Mir Nets
theorem n_cases {n : Nat} (h1 : 2 ≤ n) (h2 : n ≤ 5) : n = 2 ∨ n = 3 ∨ n = 4 ∨ n = 5 := by omega
def encO (o : List Int) : D := .tup (o.map .int)
theorem orders_go (n : Nat) (h1 : 2 ≤ n) (h2 : n ≤ 5) (S : Store) : b__law_orders [some (.int n), none, none, none, none, none] S = .rt (.lst ((ords n).map encO)) S := by
  rcases n_cases h1 h2 with rfl | rfl | rfl | rfl <;> kernel_rfl
theorem orders_lts (n : Nat) (h1 : 2 ≤ n) (h2 : n ≤ 5) (k : Nat) : lts k ((ords n).map encO) = true := by
  rcases n_cases h1 h2 with rfl | rfl | rfl | rfl <;> kernel_rfl
theorem p_orders (n : Nat) (h1 : 2 ≤ n) (h2 : n ≤ 5) (S : Store) : s__law_orders [.int n] S = .ok (.lst ((ords n).map encO)) S := by
  have e := orders_go n h1 h2 S
  have l := orders_lts n h1 h2 S.length
  simp [s__law_orders, e, l]
  done
theorem ords_len (n : Nat) (h1 : 2 ≤ n) (h2 : n ≤ 5) : 0 < (ords n).length ∧ (ords n).length ≤ 1000 := by
  rcases n_cases h1 h2 with rfl | rfl | rfl | rfl <;> decide +kernel
theorem in_net (net : List (Nat × Nat)) (i j : Nat) (S : Store) : vNotIn (.tup [.int i, .int j]) (.tup (net.map encC)) S = .ok (.bl (!decide ((i, j) ∈ net))) S := by
  have o1 : okD 60 (.tup [.int i, .int j]) = true := rfl
  have o2 : okD 60 (.tup (net.map encC)) = true := by
    show (net.map encC).all (okD 59) = true
    rw [List.all_map]
    exact List.all_eq_true.mpr fun _ _ => rfl
  have an : ((net.map encC).any fun z => eqF 60 z (.tup [.int i, .int j])) = decide ((i, j) ∈ net) := by
    rw [List.any_map, Bool.eq_iff_iff, List.any_eq_true, decide_eq_true_eq]
    constructor
    · rintro ⟨c, hc, e⟩
      have e : ((c.1 : Int) == i && ((c.2 : Int) == j && true)) = true := e
      simp at e
      have : c = (i, j) := by ext <;> simp <;> omega
      rw [← this]; exact hc
    · intro h
      refine ⟨(i, j), h, ?_⟩
      show ((i : Int) == i && ((j : Int) == j && true)) = true
      simp
  show vCmp (fun a b S => (inB S a b).map (!·)) _ _ S = _
  unfold vCmp
  dsimp only [inB]
  rw [o1, o2, an]
  rfl
theorem ne_bls (a b : Bool) (S : Store) : vNeS (.tup [.int 0, .bl a]) (.tup [.int 0, .bl b]) S = .ok (.bl (!(a == b))) S := by cases a <;> cases b <;> rfl
theorem told_through (net : List (Nat × Nat)) (row : List Int) (v : Valid row.length net) (hl : net.length ≤ 60) (h1 : 1 ≤ row.length) (h2 : row.length ≤ 8) {env : Mir.Env} (e1 : env[13]? = some (some (.tup (net.map encC)))) (e2 : env[15]? = some (some (.tup (row.map .int)))) (S : Store) :
    mLam lk__law_told [] (mCall s_through (mCons (mVar 13) (mCons (mVar 15) mNil))) env S = .ok (.tup [.int 0, .tup ((thr net row).map .int)]) S :=
  lam_told (w := fun c => w__law_told[c]?) (pre := []) (by simp [e1, e2, p_through net row v hl h1 h2 S]) (read_tup 2 _ S (by simp; omega))
theorem told_sorts (n : Nat) (h1 : 2 ≤ n) (h2 : n ≤ 5) (net : List (Nat × Nat)) (v : Valid n net) (hl : net.length ≤ 60) {env : Mir.Env} (e1 : env[13]? = some (some (.tup (net.map encC)))) (e2 : env[11]? = some (some (.int n))) (S : Store) :
    mLam lk__law_told [] (mCall s_sorts (mCons (mVar 11) (mCons (mVar 13) mNil))) env S = .ok (.tup [.int 0, .bl ((words n).all fun w => decide (thr net w = sortI w))]) S :=
  lam_told (w := fun c => w__law_told[c]?) (pre := []) (by simp [e1, e2, p_sorts n h1 h2 net v hl S]) (read_bl 3 _ S)
/-- behind the making of the net -/
theorem nets_end (n : Nat) (h1 : 2 ≤ n) (h2 : n ≤ 5) (near : Bool) (net : List (Nat × Nat)) (v : Valid n net) (hl : net.length ≤ 60) (hn : near = true → ∀ c ∈ net, c.2 = c.1 + 1) (y : Bx) (T : Store) (a0 a2 a3 a4 a5 a6 a7 a8 a9 a10 a14 : Option D) :
    ∃ z, b_law_19 [a0, some (.ref 0), a2, a3, a4, a5, a6, a7, a8, a9, a10, some (.int n), some (.bl near), some (.tup (net.map encC)), a14, none, none, none] (bx y :: T) = .rt (.bl true) (bx z :: T) := by
  obtain ⟨row, S', e, rl, rb, z, rfl⟩ := runC_each (f := mElt [8] (gSet 8) (fun _ S => .ok true S) (m2 vSub (mCall s__law_draw (mCons (mVar 1) (mCons (mC (.int 9)) mNil))) (mC (.int 4))) [a0, some (.ref 0), a2, a3, a4, a5, a6, a7, a8, a9, a10, some (.int n), some (.bl near), some (.tup (net.map encC)), a14, none, none, none])
    (enc := D.int) (ec := D.int) (P := fun S => ∃ y, S = bx y :: T) (Q := fun z => True) (xs := rg n) (S := bx y :: T) (fun S z hz ⟨y, hy⟩ => by
      subst hy
      exact ⟨dvB y 9 - 4, bx (dnB y 9) :: T, by simp, ⟨_, rfl⟩, trivial⟩) ⟨_, rfl⟩
  rw [rg_len] at rl
  obtain ⟨l1, l2⟩ := ords_len n h1 h2
  have vr : Valid row.length net := by rw [rl]; exact v
  have t1 := fun env e1 e2 => told_through net row vr hl (by omega) (by omega) (env := env) e1 e2 (bx z :: T)
  have t2 := p_law_t net vr (bx z :: T)
  have t3 := fun env e1 e2 => told_sorts n h1 h2 net v hl (env := env) e1 e2 (bx z :: T)
  have np : vNeS (.tup [.int 0, .tup ((thr net row).map .int)]) (.tup [.int 0, .tup ((thr net row).map .int)]) (bx z :: T) = .ok (.bl false) (bx z :: T) := by
    have := ne_pair (some (thr net row)) (some (thr net row)) (bx z :: T)
    simpa [optD] using this
  have al : ∀ o' ∈ ords n, s__law_behind [.tup (net.map encC), encO o'] (bx z :: T) = .ok (.tup ((thr net o').map .int)) (bx z :: T) := fun o' ho' => by
    have e := (f2 h1 h2 o' ho').1
    exact p_law_t net (by rw [e]; exact v) _
  have zo : ((words n).all fun w => decide (thr net w = sortI w)) = (ords n).all fun o => decide (thr net o = rg n) := by
    rw [Bool.eq_iff_iff, List.all_eq_true, List.all_eq_true]
    simp only [decide_eq_true_eq]
    exact zero_one h1 h2 v
  have gd : ((ords n).all fun o => decide (thr net o = rg n)) = true → ∀ o ∈ ords n, thr net o = rg n := fun h o ho => of_decide_eq_true (List.all_eq_true.mp h o ho)
  have o1 : (ords n).length ≤ 16777216 := by omega
  have n1 : (n : Int) ≤ 16777216 := by omega
  have n2 : (-16777216 : Int) ≤ n := by omega
  have n3 : n ≤ 16777216 := by omega
  have n4 : (n : Int) < 4611686018427387904 := by omega
  have n5 : (-4611686018427387904 : Int) ≤ (n : Int) := by omega
  have good : ∀ env : Mir.Env, env[11]? = some (some (.int n)) → env[13]? = some (some (.tup (net.map encC))) → 17 < env.length → runC (mElt [17] (gSet 17) (mTst (m2 vNeS (mCall s__law_behind (mCons (mVar 13) (mCons (mVar 17) mNil))) (mRg1 true false (mVar 11)))) (mC (.int 1)) env) ((ords n).map encO) (bx z :: T) = .ok (((ords n).filter fun o => !decide (thr net o = rg n)).map fun _ => .int 1) (bx z :: T) := fun env e1 e2 e3 =>
    runC_ones fun o ho => by
      simp [e1, e2, e3, al o ho, n1, n2, n3]
      by_cases q : thr net o = rg n <;> simp [q]
  have rl' : Valid (rg n).reverse.length net := by simpa using v
  have lr := p_law_t net rl' (bx z :: T)
  rw [List.map_reverse] at lr
  have rv : ∀ env : Mir.Env, env[11]? = some (some (.int n)) → mRev false (mRg1 true false (mVar 11)) env (bx z :: T) = .ok (.tup ((rg n).map .int).reverse) (bx z :: T) := fun env he => mRev_tup (by simp [he, n1, n2, n3])
  have nr := fun hn => near_rev h1 h2 v hn
  have hnear := has_near h1 h2 v
  refine ⟨z, ?_⟩
  simp [b_law_19, n3, n4, n5, e, show row.length ≤ 16777216 by omega, b_law_18, t1, t2, np, b_law_17, p_orders n h1 h2, o1, good, filter_isEmpty, b_law_16, t3, ne_bls, zo]
  have fin : b_law_14 [a0, some (.ref 0), a2, a3, a4, a5, a6, a7, a8, a9, a10, some (.int n), some (.bl near), some (.tup (net.map encC)), a14, some (.tup (row.map .int)), some (.bl ((ords n).all fun o => decide (thr net o = rg n))), none] (bx z :: T) = .rt (.bl true) (bx z :: T) := by
    cases hg : (ords n).all (fun o => decide (thr net o = rg n)) with
    | false => simp [b_law_14]
    | true =>
      have g := hnear (gd hg)
      simp [b_law_14, show (-4611686018427387904 : Int) ≤ (n : Int) - 1 by omega, show (n : Int) - 1 < 4611686018427387904 by omega, show n - 1 ≤ 16777216 by omega]
      rw [runC_ones (c := fun _ => false) (fun i hi => by
        obtain ⟨i1, i2⟩ := mem_rg.mp hi
        obtain ⟨j, rfl⟩ : ∃ j : Nat, i = j := ⟨i.toNat, by omega⟩
        have e := in_net net j (j + 1) (bx z :: T)
        rw [decide_eq_true (g j (by omega))] at e
        have e : vNotIn (.tup [.int (j : Int), .int ((j : Int) + 1)]) (.tup (net.map encC)) (bx z :: T) = .ok (.bl false) (bx z :: T) := e
        simp [e])]
      simp
  cases near with
  | false =>
    simp [b_law_15]
    exact fin
  | true =>
    have q : ((ords n).all fun o => decide (thr net o = rg n)) = decide (thr net (rg n).reverse = rg n) := by
      rw [Bool.eq_iff_iff, List.all_eq_true]
      simp only [decide_eq_true_eq]
      exact nr (hn rfl)
    simp [b_law_15, rv, lr, n1, n2, n3]
    rw [← q] at *
    simp
    exact fin
def nearP (n : Nat) : List (Nat × Nat) := (List.range (n - 1)).map fun i => (i, i + 1)
def manyP (n : Nat) : List (Nat × Nat) := (List.replicate n (nearP n)).flatten
theorem many_ok (n : Nat) (h1 : 2 ≤ n) (h2 : n ≤ 5) : Valid n (manyP n) ∧ (manyP n).length ≤ 60 ∧ ∀ c ∈ manyP n, c.2 = c.1 + 1 := by
  have at_ : ∀ c ∈ manyP n, ∃ i, i < n - 1 ∧ c = (i, i + 1) := fun c hc => by
    unfold manyP at hc
    obtain ⟨l, hl, hc⟩ := List.mem_flatten.mp hc
    rw [(List.mem_replicate.mp hl).2] at hc
    obtain ⟨i, hi, rfl⟩ := List.mem_map.mp hc
    exact ⟨i, List.mem_range.mp hi, rfl⟩
  refine ⟨fun c hc => ?_, ?_, fun c hc => ?_⟩
  · obtain ⟨i, hi, rfl⟩ := at_ c hc
    dsimp only; omega
  · rcases n_cases h1 h2 with rfl | rfl | rfl | rfl <;> decide
  · obtain ⟨i, hi, rfl⟩ := at_ c hc
    rfl
theorem many_go (n : Nat) (h1 : 2 ≤ n) (h2 : n ≤ 5) (a0 a2 a3 a4 a5 a6 a7 a8 a9 a10 a12 a13 a14 : Option D) (S : Store) :
    b_law_10 [a0, some (.ref 0), a2, a3, a4, a5, a6, a7, a8, a9, a10, some (.int n), a12, a13, a14, none, none, none] S =
     .nx [a0, some (.ref 0), a2, a3, a4, a5, a6, a7, a8, a9, a10, some (.int n), a12, some (.ref (S.length + 1)), a14, none, none, none] (S ++ [.lst ((nearP n).map encC), .lst ((manyP n).map encC)]) := by
  have e : ∀ env : Mir.Env, 8 < env.length → runC (mElt [8] (gSet 8) (fun _ S => .ok true S) (mTup (mCons (mVar 8) (mCons (m2 (vAdd false) (mVar 8) (mC (.int 1))) mNil))) env) ((rg (n - 1)).map D.int) S = .ok ((rg (n - 1)).map fun i => .tup [.int i, .int (i + 1)]) S := fun env h8 => by
    refine runC_pure (ec := fun d => d) (h := fun i : Int => D.tup [.int i, .int (i + 1)]) (fun i hi => by simp [h8]) |>.trans ?_
    simp
  have nl : (rg (n - 1)).map (fun i => D.tup [.int i, .int (i + 1)]) = (nearP n).map encC := by
    unfold nearP rg encC
    rw [List.map_map, List.map_map]
    refine List.map_congr_left fun i _ => ?_
    simp
  have ml : (List.replicate n ((nearP n).map encC)).flatten = (manyP n).map encC := by
    unfold manyP
    rw [List.map_flatten, List.map_replicate]
  have len : (nearP n).length = n - 1 := by simp [nearP]
  have sm : (n - 1) * n ≤ 16777216 := by
    have := Nat.mul_le_mul (show n - 1 ≤ 4 by omega) h2
    omega
  simp [b_law_10, show (-4611686018427387904 : Int) ≤ (n : Int) - 1 by omega, show (n : Int) - 1 < 4611686018427387904 by omega, show n - 1 ≤ 16777216 by omega, e, nl, show (n : Int) ≤ 16777216 by omega, len, sm, ml]
theorem nets_go (a0 a2 a3 a4 a5 a6 a7 a8 a9 a10 : Option D) (x : Bx) : ∃ z T, b_law_25 [a0, some (.ref 0), a2, a3, a4, a5, a6, a7, a8, a9, a10, none, none, none, none, none, none, none] [bx x] = .rt (.bl true) (bx z :: T) := by
  have l1 := dvB_lo x (m := 4) (by omega)
  have l2 := dvB_hi x (m := 4) (by omega)
  obtain ⟨n, hn⟩ : ∃ n : Nat, 2 + dvB x 4 = n := ⟨(2 + dvB x 4).toNat, by omega⟩
  have h1 : 2 ≤ n := by omega
  have h2 : n ≤ 5 := by omega
  simp [b_law_25, hn, b_law_24, b_law_23, b_law_22]
  generalize hnear : decide (dvB (dnB x 4) 2 = 0) = near
  generalize dnB (dnB x 4) 2 = y
  have d1 := dvB_lo y (m := 9) (by omega)
  have d2 := dvB_hi y (m := 9) (by omega)
  simp [show (-4611686018427387904 : Int) ≤ dvB y 9 by omega, show dvB y 9 < 4611686018427387904 by omega]
  generalize hx : runF _ _ _ _ = f
  obtain ⟨env, S', rfl, y', net, k3, k14, rfl, rfl, v, hl, hn2⟩ := runF_ix hx (R := fun (b : Nat) env S' => ∃ (y' : Bx) (net : List (Nat × Nat)) (k3 k14 : Option D), env = [a0, some (.ref 0), a2, k3, a4, a5, a6, a7, a8, a9, a10, some (.int n), some (.bl near), some (.ref 1), k14, none, none, none] ∧ S' = [bx y', .lst (net.map encC)] ∧ Valid n net ∧ net.length = b ∧ (near = true → ∀ c ∈ net, c.2 = c.1 + 1))
    (fun P hP k env S' hk ⟨y', net, k3, k14, e1, e2, v, hl, hn2⟩ => by
      subst e1 e2
      rw [rg_len] at hk
      have a1 := dvB_lo y' (m := (n : Int) - 1) (by omega)
      have a2 := dvB_hi y' (m := (n : Int) - 1) (by omega)
      generalize hi : dvB y' ((n : Int) - 1) = i at a1 a2
      generalize hz : dnB y' ((n : Int) - 1) = z
      obtain ⟨i, rfl⟩ : ∃ j : Nat, i = j := ⟨i.toNat, by omega⟩
      cases near with
      | false =>
        have b1 := dvB_lo z (m := (n : Int) - 1 - i) (by omega)
        have b2 := dvB_hi z (m := (n : Int) - 1 - i) (by omega)
        simp [b_law_9, b_law_8, show (1 : Int) < n by omega, show 1 < n by omega, show (n : Int) - 1 < 18446744073709551616 by omega, hi, hz, show (i : Int) < n - 1 by omega, show (n : Int) - 1 - i < 18446744073709551616 by omega, show net.length ≤ 16000000 by omega, show (0 : Int) < n - 1 - i by omega]
        refine hP _ _ _ ⟨dnB z ((n : Int) - 1 - i), net ++ [(i, i + 1 + (dvB z ((n : Int) - 1 - i)).toNat)], _, _, rfl, ?_, fun c hc => ?_, by simp [hl], fun q => absurd q (by simp)⟩
        · simp [encC]
          omega
        · rcases List.mem_append.mp hc with hc | hc
          · exact v c hc
          · rw [List.mem_singleton.mp hc]
            dsimp only
            omega
      | true =>
        simp [b_law_9, b_law_8, show (1 : Int) < n by omega, show 1 < n by omega, show (n : Int) - 1 < 18446744073709551616 by omega, hi, hz, show net.length ≤ 16000000 by omega]
        refine hP _ _ _ ⟨z, net ++ [(i, i + 1)], _, _, rfl, ?_, fun c hc => ?_, by simp [hl], fun _ c hc => ?_⟩
        · simp [encC]
        · rcases List.mem_append.mp hc with hc | hc
          · exact v c hc
          · rw [List.mem_singleton.mp hc]
            dsimp only
            omega
        · rcases List.mem_append.mp hc with hc | hc
          · exact hn2 rfl c hc
          · rw [List.mem_singleton.mp hc]) ⟨_, [], a3, none, rfl, rfl, fun c hc => by simp at hc, rfl, fun _ c hc => by simp at hc⟩
  rw [rg_len] at hl
  simp [b_law_21]
  by_cases h0 : dvB y' 3 = 0
  · obtain ⟨mv, ml, mn⟩ := many_ok n h1 h2
    obtain ⟨z, e⟩ := nets_end n h1 h2 near (manyP n) mv ml (fun _ => mn) (dnB y' 3) [.lst (net.map encC), .lst ((nearP n).map encC), .lst ((manyP n).map encC)] a0 a2 k3 a4 a5 a6 a7 a8 a9 a10 k14
    refine ⟨z, [.lst (net.map encC), .lst ((nearP n).map encC), .lst ((manyP n).map encC)], ?_⟩
    have g := many_go n h1 h2 a0 a2 k3 a4 a5 a6 a7 a8 a9 a10 (some (.bl near)) (some (.ref 1)) k14 [bx (dnB y' 3), .lst (net.map encC)]
    simp at g
    simp [h0, g, b_law_20]
    exact e
  · obtain ⟨z, e⟩ := nets_end n h1 h2 near net v (by omega) hn2 (dnB y' 3) [.lst (net.map encC)] a0 a2 k3 a4 a5 a6 a7 a8 a9 a10 k14
    refine ⟨z, [.lst (net.map encC)], ?_⟩
    simp [h0, b_law_20]
    exact e
end K74
end

section
set_option Elab.async false
set_option linter.all false
set_option maxRecDepth 100000
/-! K74C: the law. -/
namespace K74
open PySem PySem.Spec Mir
theorem law_is (ns : List Int) (h : ∀ z ∈ ns, Builtin.Int.intBits z ≤ 1048576) : ∃ S, s_law [.scr ns] [] = .ok (.bl true) S := by
  obtain ⟨y, a2, a3, a4, a5, a6, a7, a8, a9, e1⟩ := tiles_go (some (.scr ns)) (boxF ns)
  obtain ⟨z, T, e2⟩ := nets_go (some (.scr ns)) a2 a3 a4 a5 a6 a7 a8 a9 none y
  refine ⟨[], ?_⟩
  simp [s_law, b_law, b_law_35, stream_is ns h, e1, e2]
  simp [Mir.finish, backOk, outD, D.lt]
end K74
end

theorem PySem.Challenge.cw_allnights_k74_tiles_and_nets_holds : PySem.Challenge.rw_allnights_k74_tiles_and_nets.Holds := by
  exact K74.holds_of fun ns _ h => K74.law_is ns h
