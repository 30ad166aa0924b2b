import PyProof.Rows.All
import Wide.All
import OpenK.AllK
import Wide.FinOn
import HandS.ForMost
import HandS.Exc
import HandS.TryOnly
import HandS.ExcOwn
import HandS.WordsExc
import HandS.CallSlots
import HandS.Wide
import HandS.Lambda
import KE.KNest
import KE.KDictKeyed
import HandS.TupAny
import HandS.Iter
import HandS.Style
import HandS.IsInst
import HandS.Deep
import HandS.SortInts
import HandS.StrMore
import HandS.Conv
import HandS.More
import HandS.SetFor
import HandS.WordsDict
import HandS.Walk
import HandS.Zip
import HandS.DictComp
import HandS.HeadHook2
import HandS.EndBits
import HandS.Head0
import HandS.Head1
import HandS.Head2
import HandS.HeadEnd
import HandS.HeadHook1
import HandS.EndTab
import KE.DataEq
import KE.GoesEnum
import KE.GoesMore
import HandS.HeadHook3
import HandS.HeadHook4
import KE.KDictPairs
import HandS.TupLen
import HandS.Star
import HandS.TupMul
import HandS.ExcInit
import HandS.ExcSuper
import HandS.Nested
import KE.KExcSuper
import KE.KSuper
import HandS.ListItems
import HandS.ExcField
import HandS.TryMany
import PyProof.CallFns
import PySem.Challenge.RW_symbolruns_k21_conditions_refused
set_option Elab.async false
set_option linter.all false
set_option maxRecDepth 100000
set_option maxHeartbeats 0
set_option exponentiation.threshold 10000
namespace Sm
open PySem PySem.Spec PyProof.Rows L2
/-- plain values: tuples by what they hold, mutable things by their number -/
inductive D where
  | non | bl (b : Bool) | int (i : Int) | str (x : Str) | tup (ds : List D) | ref (n : Nat) | ty (n : String) | glo (x : Str)
/-- what stands at a number -/
inductive MO where
  | lst (xs : List D)
  | ro (xs : List D)
  | dic (kvs : List (D × D))
  | fdi (kvs : List (D × D))
  | ins (c : Str) (fs : List (Str × D))
  | rng (lo hi : Int)
  | dix (kvs : List (D × D))
abbrev MH := List MO
abbrev MS := List (Option D)
inductive Out (α : Type) where
  | ok (a : α) (h : MH)
  | exc (c : Str) (fs : List (Str × D)) (h : MH)
  | bad
def Out.bind {α β : Type} (o : Out α) (f : α → MH → Out β) : Out β :=
  match o with
  | .ok a h => f a h
  | .exc c fs h => .exc c fs h
  | .bad => .bad
abbrev ME := MS → MH → Out D
abbrev MA := MS → MH → Out (List D)
abbrev MT := MS → MH → Out Bool
inductive OutS where
  | nx (s : MS) (h : MH) | rt (d : D) (h : MH) | bk (s : MS) (h : MH) | ct (s : MS) (h : MH)
  | exc (c : Str) (fs : List (Str × D)) (s : MS) (h : MH) | bad
abbrev MSt := MS → MH → OutS
def MO.mut : MO → Bool
  | .ro _ => false
  | _ => true
/-- the module's names, and the world -/
structure NW where
  g : Str → Option Value
  w : World
instance : CoeFun NW (fun _ => Str → Option Value) := ⟨NW.g⟩
abbrev _root_.L2.Cx.gw (X : Cx) : NW := ⟨X.mg, X.w⟩
mutual
/-- a key of any depth -/
def nkD : D → Option NestedKey
  | .non => some .none
  | .bl b => some (.num (if b = true then 1 else 0))
  | .int i => some (.num i)
  | .str x => some (.text x)
  | .tup ds => (nkDs ds).map .tup
  | .ref _ => none
  | .ty _ => none
  | .glo _ => none
def nkDs : List D → Option (List NestedKey)
  | [] => some []
  | d :: ds => match nkD d, nkDs ds with
    | some k, some ks => some (k :: ks)
    | _, _ => none
end
/-- a dict whose keys are tuples, by its own object -/
def DixAt (w : World) (a : Addr) (es : List (NestedKey × Addr × V)) : Heap → Prop := fun h => (a == sysModules) = false ∧ es.length ≤ sizeLine ∧
  ∃ xs : List (NestedKey × Addr × Value), Paired (fun p q => p.1 = q.1 ∧ p.2.1 = q.2.1 ∧ RelV p.2.2 q.2.2) es xs ∧
    ∃ o ents ep, h.get? a = some o ∧ o.ExactDict ∧ o.data = .dict ents ep ∧ ents.toList = xs.map (fun x => ⟨x.1.hash w, .ref x.2.1, x.2.2⟩) ∧ (xs.map (·.1)).Nodup
/-- the tuple at a has no dict -/
def ND (K : PySem.W.Frag) (H : Hp) (a : Addr) : Prop := (∃ (o : Obj) (vs : List V), H a = some (.frz o (.tup vs)) ∧ o.dict = none) ∨ ∃ o : Obj, K.lookup a = some o ∧ o.dict = none
section
variable (K : PySem.W.Frag) (mg : NW)
mutual
inductive RV (H : Hp) (r : List Addr) : D → V → Prop
  | non : RV H r .non .non
  | bl (b : Bool) : RV H r (.bl b) (.bl b)
  | int (i : Int) : RV H r (.int i) (.int i)
  | str (x : Str) : RV H r (.str x) (.str x)
  | tup {ds : List D} {a : Addr} {vs : List V} : SqT K H a vs → ND K H a → RVs H r ds vs → RV H r (.tup ds) (.ref a)
  | ref {n : Nat} {a : Addr} : r[n]? = some a → RV H r (.ref n) (.ref a)
  | ty (n : String) : RV H r (.ty n) (.ty n)
  | glo {x : Str} {a : Addr} : mg x = some (.ref a) → RV H r (.glo x) (.ref a)
inductive RVs (H : Hp) (r : List Addr) : List D → List V → Prop
  | nil : RVs H r [] []
  | cons {d : D} {ds : List D} {v : V} {vs : List V} : RV H r d v → RVs H r ds vs → RVs H r (d :: ds) (v :: vs)
end
/-- keys of a dict: an int or a text -/
def keyD : D → Option Key
  | .int i => some (.inl i)
  | .str x => some (.inr x)
  | _ => none
inductive RK (H : Hp) (r : List Addr) : List (D × D) → List (Key × V) → Prop
  | nil : RK H r [] []
  | cons {k : D} {c : Key} {d : D} {v : V} {ds : List (D × D)} {vs : List (Key × V)} : keyD k = some c → RV K mg H r d v → RK H r ds vs → RK H r ((k, d) :: ds) ((c, v) :: vs)
inductive RF (H : Hp) (r : List Addr) : List (Str × D) → List (Str × V) → Prop
  | nil : RF H r [] []
  | cons {f : Str} {d : D} {v : V} {ds : List (Str × D)} {vs : List (Str × V)} : RV K mg H r d v → RF H r ds vs → RF H r ((f, d) :: ds) ((f, v) :: vs)
/-- a list that is only read -/
def RoL (H : Hp) (a : Addr) (vs : List V) : Prop := (∃ o, H a = some (.frz o (.lst vs))) ∨
    ∃ (o : Obj) (its : Array Value) (n : Nat), K.lookup a = some o ∧ o.cls = .type "list" ∧ o.dict = none ∧ o.data = .seq its n ∧ its.size ≤ sizeLine ∧ Vals vs its.toList
def RO (H : Hp) (r : List Addr) (a : Addr) : MO → Prop
  | .lst xs => ∃ vs, H a = some (.lst vs) ∧ RVs K mg H r xs vs
  | .ro xs => ∃ vs, RoL K H a vs ∧ RVs K mg H r xs vs
  | .dic kvs => ∃ vs, H a = some (.dK vs) ∧ RK K mg H r kvs vs
  | .fdi kvs => ∃ o vs, H a = some (.frz o (.dK vs)) ∧ RK K mg H r kvs vs
  | .ins c fs => ∃ C dx vs, mg c = some (.ref C) ∧ H a = some (.ins C dx vs) ∧ RF K mg H r fs vs
  | .rng lo hi => H a = some (.rng lo hi)
  | .dix kvs => ∃ es, H a = some (.ext (DixAt mg.w a es)) ∧ Paired (fun (p : D × D) (q : NestedKey × Addr × V) => nkD p.1 = some q.1 ∧ q.1.depth ≤ 8 ∧ RV K mg H r p.1 (.ref q.2.1) ∧ RV K mg H r p.2 q.2.2) kvs es
/-- the name of a lambda in the law's body -/
def lamQ : Str := "law.<locals>.<lambda>"
/-- the law's own table of code objects -/
def LTab (H : Hp) : Prop := ∀ c P : Addr, PySem.W.tabIn K "law" = some (c, P) → LamX.TabS H P lamQ
structure RH (r : List Addr) (mh : MH) (H : Hp) : Prop where
  len : r.length = mh.length
  nd : ∀ (i j : Nat) (a : Addr) (o u : MO), r[i]? = some a → r[j]? = some a → mh[i]? = some o → mh[j]? = some u → o.mut = true → u.mut = true → i = j
  at_ : ∀ (i : Nat) (o : MO) (a : Addr), mh[i]? = some o → r[i]? = some a → RO K mg H r a o
  tb : LTab K H
def RS (H : Hp) (r : List Addr) (ms : MS) (σ : L2.St) : Prop := ms.length = σ.length ∧ ∀ (i : Nat) (d : D), ms[i]? = some (some d) → ∃ v, σ[i]? = some (some v) ∧ RV K mg H r d v
end
structure Stp (r : List Addr) (H : Hp) (r' : List Addr) (H' : Hp) : Prop where
  pre : ∃ more, r' = r ++ more
  tp : ∀ b vs, Rd H b (.tup vs) → Rd H' b (.tup vs)
  fz : ∀ (b : Addr) (o : Obj) (u : HO), H b = some (.frz o u) → H' b = some (.frz o u)
section
variable {K : PySem.W.Frag} {mg : NW} {r r' r'' : List Addr} {H H' H'' : Hp} {mh : MH}
theorem Stp.refl : Stp r H r H := ⟨⟨[], by simp⟩, fun _ _ h => h, fun _ _ _ h => h⟩
theorem Stp.trans (a : Stp r H r' H') (b : Stp r' H' r'' H'') : Stp r H r'' H'' := by
  obtain ⟨m1, e1⟩ := a.pre
  obtain ⟨m2, e2⟩ := b.pre
  exact ⟨⟨m1 ++ m2, by rw [e2, e1, List.append_assoc]⟩, fun c vs h => b.tp c vs (a.tp c vs h), fun c o vs h => b.fz c o vs (a.fz c o vs h)⟩
theorem Stp.at_ (a : Stp r H r' H') {n : Nat} {x : Addr} (h : r[n]? = some x) : r'[n]? = some x := by
  obtain ⟨m, e⟩ := a.pre
  rw [e, List.getElem?_append_left (List.getElem?_eq_some_iff.mp h).1]
  exact h
theorem Stp.sqT (a : Stp r H r' H') {b : Addr} {vs : List V} (h : SqT K H b vs) : SqT K H' b vs := by
  rcases h with h | h
  · exact .inl (a.tp b vs h)
  · exact .inr h
theorem Stp.nd (a : Stp r H r' H') {b : Addr} (h : ND K H b) : ND K H' b := by
  rcases h with ⟨o, vs, e, z⟩ | h
  · exact .inl ⟨o, vs, a.fz b o _ e, z⟩
  · exact .inr h
mutual
theorem RV.mono (a : Stp r H r' H') : ∀ {d : D} {v : V}, RV K mg H r d v → RV K mg H' r' d v
  | _, _, .non => .non
  | _, _, .bl b => .bl b
  | _, _, .int i => .int i
  | _, _, .str x => .str x
  | _, _, .tup h n hs => .tup (a.sqT h) (a.nd n) (RVs.mono a hs)
  | _, _, .ref h => .ref (a.at_ h)
  | _, _, .ty n => .ty n
  | _, _, .glo h => .glo h
theorem RVs.mono (a : Stp r H r' H') : ∀ {ds : List D} {vs : List V}, RVs K mg H r ds vs → RVs K mg H' r' ds vs
  | _, _, .nil => .nil
  | _, _, .cons h hs => .cons (RV.mono a h) (RVs.mono a hs)
end
theorem RK.mono (a : Stp r H r' H') : ∀ {ds : List (D × D)} {vs : List (Key × V)}, RK K mg H r ds vs → RK K mg H' r' ds vs
  | _, _, .nil => .nil
  | _, _, .cons e h hs => .cons e (h.mono a) (RK.mono a hs)
theorem RF.mono (a : Stp r H r' H') : ∀ {ds : List (Str × D)} {vs : List (Str × V)}, RF K mg H r ds vs → RF K mg H' r' ds vs
  | _, _, .nil => .nil
  | _, _, .cons h hs => .cons (h.mono a) (RF.mono a hs)
theorem RS.mono (a : Stp r H r' H') {ms : MS} {σ : L2.St} (h : RS K mg H r ms σ) : RS K mg H' r' ms σ :=
  ⟨h.1, fun i d e => let ⟨v, e1, q⟩ := h.2 i d e; ⟨v, e1, q.mono a⟩⟩
theorem paired_mono {α β : Type} {R S : α → β → Prop} (h : ∀ a b, R a b → S a b) : ∀ {as : List α} {bs : List β}, Paired R as bs → Paired S as bs
  | _, _, .nil => .nil
  | _, _, .cons x xs => .cons (h _ _ x) (paired_mono h xs)
/-- an object elsewhere -/
theorem RO.mono (a : Stp r H r' H') {b : Addr} {o : MO} (h : RO K mg H r b o) (e : o.mut = true ∨ (∃ f u, H b = some (.frz f (.lst u))) → H' b = H b) : RO K mg H' r' b o := by
  cases o with
  | lst xs => obtain ⟨vs, e1, q⟩ := h; exact ⟨vs, (e (.inl rfl)).trans e1, q.mono a⟩
  | ro xs =>
    obtain ⟨vs, e1, q⟩ := h
    refine ⟨vs, ?_, q.mono a⟩
    rcases e1 with ⟨f, e1⟩ | e1
    · exact .inl ⟨f, (e (.inr ⟨_, _, e1⟩)).trans e1⟩
    · exact .inr e1
  | dic kvs => obtain ⟨vs, e1, q⟩ := h; exact ⟨vs, (e (.inl rfl)).trans e1, q.mono a⟩
  | fdi kvs => obtain ⟨f, vs, e1, q⟩ := h; exact ⟨f, vs, (e (.inl rfl)).trans e1, q.mono a⟩
  | ins c fs => obtain ⟨C, dx, vs, m, e1, q⟩ := h; exact ⟨C, dx, vs, m, (e (.inl rfl)).trans e1, q.mono a⟩
  | rng lo hi => exact (e (.inl rfl)).trans h
  | dix kvs => obtain ⟨es, e1, q⟩ := h; exact ⟨es, (e (.inl rfl)).trans e1, paired_mono (fun _ _ z => ⟨z.1, z.2.1, z.2.2.1.mono a, z.2.2.2.mono a⟩) q⟩
theorem RO.there {b : Addr} {o : MO} (h : RO K mg H r b o) (m : o.mut = true) : H b ≠ none := by
  cases o with
  | lst xs => obtain ⟨vs, e1, q⟩ := h; rw [e1]; exact fun z => nomatch z
  | ro xs => cases m
  | dic kvs => obtain ⟨vs, e1, q⟩ := h; rw [e1]; exact fun z => nomatch z
  | fdi kvs => obtain ⟨f, vs, e1, q⟩ := h; rw [e1]; exact fun z => nomatch z
  | ins c fs => obtain ⟨C, dx, vs, m, e1, q⟩ := h; rw [e1]; exact fun z => nomatch z
  | rng lo hi => rw [show H b = some (.rng lo hi) from h]; exact fun z => nomatch z
  | dix kvs => obtain ⟨es, e1, q⟩ := h; rw [e1]; exact fun z => nomatch z
/-- a new address, tracked by whatever -/
theorem stp_new {p : Addr} {o : HO} (n : H p = none) : Stp r H r (upd H p o) := ⟨⟨[], by simp⟩, fun b vs h => by
  rcases h with h | ⟨f, h⟩
  · exact .inl (by rw [upd_ne (ne_of_none h n)]; exact h)
  · exact .inr ⟨f, by rw [upd_ne (ne_of_none h n)]; exact h⟩, fun b f vs h => by rw [upd_ne (ne_of_none h n)]; exact h⟩
theorem stp_ext {r2 : List Addr} (e : ∃ m, r2 = r ++ m) : Stp r H r2 H := ⟨e, fun _ _ h => h, fun _ _ _ h => h⟩
/-- a thing that is written: no tuple, nothing frozen -/
theorem stp_set {p : Addr} {o u : HO} (h : H p = some u) (n1 : ∀ vs, u ≠ .tup vs) (n2 : ∀ f v, u ≠ .frz f v) : Stp r H r (upd H p o) := ⟨⟨[], by simp⟩, fun b vs q => by
  have hb : b ≠ p := fun z => by
    subst z
    rcases q with q | ⟨f, q⟩
    · rw [h] at q; exact n1 vs (Option.some.inj q)
    · rw [h] at q; exact n2 f _ (Option.some.inj q)
  rcases q with q | ⟨f, q⟩
  · exact .inl (by rw [upd_ne hb]; exact q)
  · exact .inr ⟨f, by rw [upd_ne hb]; exact q⟩, fun b f vs q => by
  have hb : b ≠ p := fun z => by
    subst z
    rw [h] at q; exact n2 f vs (Option.some.inj q)
  rw [upd_ne hb]
  exact q⟩
/-- a new plain tuple, as a value -/
theorem rv_newT {p : Addr} {o : Obj} {ds : List D} {vs : List V} (n : H p = none) (z : o.dict = none) (q : RVs K mg H r ds vs) : RV K mg (upd H p (.frz o (.tup vs))) r (.tup ds) (.ref p) :=
  .tup (.inl (.inr ⟨o, upd_same⟩)) (.inl ⟨o, vs, upd_same, z⟩) (RVs.mono (stp_new n) q)
theorem code_dix {w : World} {a : Addr} {q : Str} {es : List (NestedKey × Addr × V)} : LamX.CodeO a q ≠ .ext (DixAt w a es) := fun z => by
  unfold LamX.CodeO at z
  injection z with z
  obtain ⟨o1, ho1⟩ : ∃ o1 : Obj, o1 = ⟨.none, none, .fields #[.none, .str q default], #[]⟩ := ⟨_, rfl⟩
  obtain ⟨h, hh⟩ : ∃ h : Heap, h = { objs := (List.replicate a o1 ++ [o1]).toArray } := ⟨_, rfl⟩
  have hg : h.get? a = some o1 := by
    unfold Heap.get?
    have e : h.objs[a]? = some o1 := by rw [hh]; simp
    rw [e, ho1]
  obtain ⟨_, _, _, _, o, _, _, e1, _, e2, _⟩ := (congrFun z h).mp ⟨o1, _, _, hg, by rw [ho1], rfl⟩
  rw [hg] at e1
  cases e1
  rw [ho1] at e2
  cases e2
/-- the table stays where all but what is written stays -/
theorem LTab.keep {H H' : Hp} (t : LTab K H) (e : ∀ (b : Addr) (o : HO), H b = some o → ((∃ ps, o = .tbl ps) ∨ ∃ q, o = LamX.CodeO b q) → H' b = some o) : LTab K H' := fun c P h => by
  obtain ⟨ps, h1, h2, h3⟩ := t c P h
  refine ⟨ps, e _ _ h1 (.inl ⟨_, rfl⟩), h2, fun pos cv hc => ?_⟩
  obtain ⟨c', e1, e2⟩ := h3 pos cv hc
  exact ⟨c', e1, e _ _ e2 (.inr ⟨_, rfl⟩)⟩
theorem LTab.new {p : Addr} {o : HO} (t : LTab K H) (n : H p = none) : LTab K (upd H p o) := t.keep fun b u e _ => by rw [upd_ne (ne_of_none e n)]; exact e
theorem RO.noTab {b : Addr} {o : MO} {u : HO} (h : RO K mg H r b o) (m : o.mut = true) (e : H b = some u) : (∀ ps, u ≠ .tbl ps) ∧ ∀ q, u ≠ LamX.CodeO b q := by
  cases o with
  | lst xs => obtain ⟨vs, e1, _⟩ := h; rw [e] at e1; cases e1; exact ⟨(fun _ z => nomatch z), (fun _ z => nomatch (show _ = HO.ext _ from z))⟩
  | ro xs => cases m
  | dic kvs => obtain ⟨vs, e1, _⟩ := h; rw [e] at e1; cases e1; exact ⟨(fun _ z => nomatch z), (fun _ z => nomatch (show _ = HO.ext _ from z))⟩
  | fdi kvs => obtain ⟨f, vs, e1, _⟩ := h; rw [e] at e1; cases e1; exact ⟨(fun _ z => nomatch z), (fun _ z => nomatch (show _ = HO.ext _ from z))⟩
  | ins c fs => obtain ⟨C, dx, vs, _, e1, _⟩ := h; rw [e] at e1; cases e1; exact ⟨(fun _ z => nomatch z), (fun _ z => nomatch (show _ = HO.ext _ from z))⟩
  | rng lo hi => rw [show H b = some (.rng lo hi) from h] at e; cases e; exact ⟨(fun _ z => nomatch z), (fun _ z => nomatch (show _ = HO.ext _ from z))⟩
  | dix kvs => obtain ⟨es, e1, _⟩ := h; rw [e] at e1; cases e1; exact ⟨(fun _ z => nomatch z), fun _ z => code_dix z.symm⟩
/-- a tracked thing that is no number of ours -/
theorem RH.other {p : Addr} {o : HO} (h : RH K mg r mh H) (n : H p = none) : RH K mg r mh (upd H p o) :=
  ⟨h.len, h.nd, (fun i u a e1 e2 => (h.at_ i u a e1 e2).mono (stp_new n) fun q => upd_ne fun z => by
    subst z
    rcases q with q | ⟨f, w, q⟩
    · exact (h.at_ i u _ e1 e2).there q n
    · rw [n] at q; cases q), h.tb.new n⟩
/-- a new number -/
theorem RH.new {p : Addr} {o : HO} {u : MO} (h : RH K mg r mh H) (n : H p = none) (q : RO K mg (upd H p o) (r ++ [p]) p u) : RH K mg (r ++ [p]) (mh ++ [u]) (upd H p o) := by
  have st : Stp r H (r ++ [p]) (upd H p o) := (stp_new n).trans (stp_ext ⟨[p], rfl⟩)
  have lt : ∀ {i : Nat} {a : Addr}, (r ++ [p])[i]? = some a → i < r.length ∧ r[i]? = some a ∨ i = r.length ∧ a = p := fun {i a} e => by
    by_cases hi : i < r.length
    · rw [List.getElem?_append_left hi] at e; exact .inl ⟨hi, e⟩
    · rw [List.getElem?_append_right (Nat.le_of_not_lt hi)] at e
      have hz : i - r.length = 0 := by
        cases hk : i - r.length with
        | zero => rfl
        | succ k => rw [hk] at e; simp at e
      rw [hz] at e
      exact .inr ⟨by omega, (by simpa using e : p = a).symm⟩
  have old : ∀ {i : Nat} {w : MO}, i < r.length → (mh ++ [u])[i]? = some w → mh[i]? = some w := fun {i w} hi e => by
    rw [List.getElem?_append_left (by rw [← h.len]; exact hi)] at e; exact e
  have last : ∀ {w : MO}, (mh ++ [u])[r.length]? = some w → w = u := fun {w} e => by
    rw [h.len, List.getElem?_append_right (Nat.le_refl _), Nat.sub_self] at e
    exact (by simpa using e : u = w).symm
  refine ⟨by rw [List.length_append, List.length_append, h.len]; rfl, fun i j a o1 o2 e1 e2 m1 m2 u1 u2 => ?_, fun i w a e1 e2 => ?_, h.tb.new n⟩
  · rcases lt e1 with ⟨l1, f1⟩ | ⟨l1, f1⟩ <;> rcases lt e2 with ⟨l2, f2⟩ | ⟨l2, f2⟩
    · exact h.nd i j a o1 o2 f1 f2 (old l1 m1) (old l2 m2) u1 u2
    · subst f2; exact absurd n (RO.there (h.at_ i o1 _ (old l1 m1) f1) u1)
    · subst f1; exact absurd n (RO.there (h.at_ j o2 _ (old l2 m2) f2) u2)
    · omega
  · rcases lt e2 with ⟨l1, f1⟩ | ⟨l1, f1⟩
    · refine (h.at_ i w a (old l1 e1) f1).mono st fun y => upd_ne fun z => ?_
      subst z
      rcases y with y | ⟨f, w', y⟩
      · exact RO.there (h.at_ i w _ (old l1 e1) f1) y n
      · rw [n] at y; cases y
    · subst f1; subst l1; rw [last e1]; exact q
/-- a number written -/
theorem RH.set {i : Nat} {a : Addr} {o ho : HO} {u w : MO} (h : RH K mg r mh H) (e1 : mh[i]? = some u) (e2 : r[i]? = some a) (mu : u.mut = true) (e3 : H a = some ho) (n1 : ∀ vs, ho ≠ .tup vs) (n2 : ∀ f v, ho ≠ .frz f v) (n3 : ∀ f vs, ho ≠ .frz f (.lst vs))
    (wm : w.mut = true) (q : RO K mg (upd H a o) r a w) : RH K mg r (mh.set i w) (upd H a o) := by
  have st : Stp r H r (upd H a o) := stp_set e3 n1 n2
  have pk : ∀ {j : Nat} {v : MO}, (mh.set i w)[j]? = some v → (j = i ∧ v = w) ∨ (j ≠ i ∧ mh[j]? = some v) := fun {j v} e => by
    by_cases hj : j = i
    · subst hj
      rw [List.getElem?_set_self (List.getElem?_eq_some_iff.mp e1).1] at e
      exact .inl ⟨rfl, (Option.some.inj e).symm⟩
    · rw [List.getElem?_set_ne (Ne.symm hj)] at e; exact .inr ⟨hj, e⟩
  have tb' : LTab K (upd H a o) := h.tb.keep fun b u' e z => by
    by_cases hb : b = a
    · subst hb
      obtain ⟨t1, t2⟩ := (h.at_ i u _ e1 e2).noTab mu e
      rcases z with ⟨ps, z⟩ | ⟨q', z⟩
      · exact absurd z (t1 ps)
      · exact absurd z (t2 q')
    · rw [upd_ne hb]; exact e
  refine ⟨by rw [List.length_set]; exact h.len, fun j k b o1 o2 f1 f2 m1 m2 u1 u2 => ?_, fun j v b f1 f2 => ?_, tb'⟩
  · rcases pk m1 with ⟨p1, p2⟩ | ⟨l1, m1⟩ <;> rcases pk m2 with ⟨p3, p4⟩ | ⟨l2, m2⟩
    · rw [p1, p3]
    · rw [p1]; rw [p1] at f1; exact h.nd _ _ b _ _ f1 f2 e1 m2 mu u2
    · rw [p3]; rw [p3] at f2; exact h.nd _ _ b _ _ f1 f2 m1 e1 u1 mu
    · exact h.nd _ _ b _ _ f1 f2 m1 m2 u1 u2
  · rcases pk f1 with ⟨p1, p2⟩ | ⟨l1, f1⟩
    · rw [p1] at f2; rw [e2] at f2; cases f2; rw [p2]; exact q
    · refine (h.at_ j v b f1 f2).mono st fun z => upd_ne fun y => ?_
      subst y
      rcases z with vm | ⟨f, w', z⟩
      · exact l1 (h.nd j i b v u f2 e2 f1 e1 vm mu)
      · rw [e3] at z; exact n3 _ _ (Option.some.inj z)
theorem RVs.len : ∀ {ds : List D} {vs : List V}, RVs K mg H r ds vs → ds.length = vs.length
  | _, _, .nil => rfl
  | _, _, .cons _ hs => by rw [List.length_cons, List.length_cons, RVs.len hs]
theorem RVs.get : ∀ {ds : List D} {vs : List V} {i : Nat} {d : D}, RVs K mg H r ds vs → ds[i]? = some d → ∃ v, vs[i]? = some v ∧ RV K mg H r d v
  | _, _, _, _, .nil, e => by simp at e
  | _, _, 0, _, .cons h _, e => by simp at e; subst e; exact ⟨_, rfl, h⟩
  | _, _, i + 1, d, .cons _ hs, e => by
    obtain ⟨v, h1, h2⟩ := RVs.get (i := i) (d := d) hs (by simpa using e)
    exact ⟨v, by simpa using h1, h2⟩
theorem RVs.app : ∀ {ds es : List D} {vs ws : List V}, RVs K mg H r ds vs → RVs K mg H r es ws → RVs K mg H r (ds ++ es) (vs ++ ws)
  | _, _, _, _, .nil, q => q
  | _, _, _, _, .cons h hs, q => .cons h (RVs.app hs q)
theorem RVs.drop : ∀ {ds : List D} {vs : List V} (n : Nat), RVs K mg H r ds vs → RVs K mg H r (ds.drop n) (vs.drop n)
  | _, _, 0, h => h
  | _, _, _ + 1, .nil => .nil
  | _, _, n + 1, .cons _ hs => RVs.drop n hs
theorem RVs.take : ∀ {ds : List D} {vs : List V} (n : Nat), RVs K mg H r ds vs → RVs K mg H r (ds.take n) (vs.take n)
  | _, _, 0, _ => .nil
  | _, _, _ + 1, .nil => .nil
  | _, _, n + 1, .cons h hs => .cons h (RVs.take n hs)
theorem RVs.set {d : D} {v : V} (q : RV K mg H r d v) : ∀ {ds : List D} {vs : List V} (i : Nat), RVs K mg H r ds vs → RVs K mg H r (ds.set i d) (vs.set i v)
  | _, _, _, .nil => .nil
  | _, _, 0, .cons _ hs => .cons q hs
  | _, _, i + 1, .cons h hs => .cons h (RVs.set q i hs)
theorem RVs.erase : ∀ {ds : List D} {vs : List V} (i : Nat), RVs K mg H r ds vs → RVs K mg H r (ds.eraseIdx i) (vs.eraseIdx i)
  | _, _, _, .nil => .nil
  | _, _, 0, .cons _ hs => hs
  | _, _, i + 1, .cons h hs => .cons h (RVs.erase i hs)
theorem RVs.rev {ds : List D} {vs : List V} (h : RVs K mg H r ds vs) : RVs K mg H r ds.reverse vs.reverse := by
  have go : ∀ (ds es : List D) (vs ws : List V), RVs K mg H r ds vs → RVs K mg H r es ws → RVs K mg H r (ds.reverseAux es) (vs.reverseAux ws) := by
    intro ds
    induction ds with
    | nil => intro es vs ws h q; cases h; exact q
    | cons d ds ih =>
      intro es vs ws h q
      cases h with
      | cons h hs => exact ih (d :: es) _ (_ :: ws) hs (.cons h q)
  exact go _ _ _ _ h .nil
end
end Sm
namespace Sm
open PySem PySem.Spec PyProof.Rows L2
abbrev tObj (us : List Value) (n : Nat) : Obj := { cls := .type "tuple", data := .seq us.toArray n }
/-- whatever new plain tuple it is -/
abbrev NewT (H : Hp) (xs : List V) (Q : VK) : Prop := ∀ (p : Addr) (o : Obj), H p = none → o.dict = none → Q (.ref p) (upd H p (.frz o (.tup xs)))
section
variable {X : Cx} {pins : List (Addr × Obj)} {σ : L2.St} {H : Hp} {s : Shared} {Q : VK} {xs : List V} {us : List Value} {h' : Heap} {a n t' : Nat}
theorem layT (I : Inv X pins σ H s) (kp : ∀ b u, s.heap.get? b = some u → h'.get? b = some u) (hp : s.heap.objs.size ≤ a) (r : Vals xs us) (hz : xs.length ≤ sizeLine) (e : h'.get? a = some (tObj us n)) :
    Inv X pins σ (upd H a (.frz (tObj us n) (.tup xs))) { s with heap := h', toks := t' } := I.laid (t' := t') (o := .frz (tObj us n) (.tup xs)) kp hp ⟨e, hz, us, r, ⟨_, e, rfl, n, rfl⟩⟩
theorem newT (I : Inv X pins σ H s) (kp : ∀ b u, s.heap.get? b = some u → h'.get? b = some u) (hp : s.heap.objs.size ≤ a) (r : Vals xs us) (hz : xs.length ≤ sizeLine) (e : h'.get? a = some (tObj us n)) (q : NewT H xs Q) :
    EP X pins σ Q (.ref a) { s with heap := h', toks := t' } := ⟨.ref a, _, layT I kp hp r hz e, rfl, q a (tObj us n) (I.hok.fresh hp) rfl⟩
end
def tTupN (t : TA) : TE := fun σ H Q => t σ H fun xs H1 => xs.length ≤ sizeLine ∧ NewT H1 xs Q
theorem pe_tupN {X : Cx} {es : List Expr} {t : TA} {pos : Pos} {x1} (ha : PA X es t) : PE X (.Tuple es x1 pos) (tTupN t) :=
  ⟨fun pins s σ H Q I hq => wpAny_Tuple_spliced (thn (ha.run pos pins s σ H _ I hq) fun us s1 ⟨xs, H1, I1, r, z, q⟩ => ⟨by rw [← r.length]; exact z, newT (n := 0) (t' := s1.toks) I1 (fun b u e => Heap.get?_push_of_some _ e) (Nat.le_refl _) r z (Heap.get?_push_size _ rfl) q⟩)⟩
/-- + of tuples -/
def rCatN (K : PySem.W.Frag) : R2 := fun x y H Q => ∃ a b xs ys, x = .ref a ∧ y = .ref b ∧ SqT K H a xs ∧ SqT K H b ys ∧ xs.length + ys.length ≤ sizeLine ∧
  (xs = [] → Q (.ref b) H) ∧ (xs ≠ [] → ys = [] → Q (.ref a) H) ∧ (xs ≠ [] → ys ≠ [] → NewT H (xs ++ ys) Q)
theorem op_catN {X : Cx} : OpR X (binaryOp .Add) (rCatN X.K) := by
  rintro pins s σ H x y v u Q I rx ry ⟨a, b, xs, ys, rfl, rfl, ha, hb, hz, q0, q1, q2⟩
  by_cases hx : xs = []
  · exact op_catA pins s σ H _ _ v u Q I rx ry ⟨a, b, xs, ys, rfl, rfl, ha, hb, hz, q0, q1, fun w => absurd hx w⟩
  cases rx
  cases ry
  obtain ⟨us, r1, p1, -⟩ := I.tuple ha
  obtain ⟨ws, r2, p2, -⟩ := I.tuple hb
  refine HT.cat_tup p1 p2 (fun z => hx (r1.nil_iff.mp z)) (fun z => ⟨.ref a, H, I, rfl, q1 hx (r2.nil_iff.mp z)⟩) (fun z => ?_) (by rw [← r1.length, ← r2.length]; exact hz)
  exact newT (n := 0) (t' := s.toks) I (fun b ob q => Heap.get?_push_of_some _ q) (Nat.le_refl _) (r1.append r2) (by rw [List.length_append]; exact hz) (Heap.get?_push_size _ rfl) (q2 hx fun w => z (r2.nil_iff.mpr w))
/-- t[lo:hi] -/
def rSlN (K : PySem.W.Frag) : V → Option Int → Option Int → Hp → VK → Prop := fun x lo hi H Q => ∃ a xs, x = .ref a ∧ SqT K H a xs ∧
  (HT.sIx xs.length 0 lo = 0 ∧ HT.sIx xs.length xs.length hi = xs.length → Q (.ref a) H) ∧ (¬ (HT.sIx xs.length 0 lo = 0 ∧ HT.sIx xs.length xs.length hi = xs.length) → NewT H (cutV xs lo hi) Q)
theorem sl_tupN {X : Cx} : SlR X (rSlN X.K) := by
  rintro pins s σ H x v vl vu lo hi sl Q I rx hs pl pu ⟨a, xs, rfl, hx, q1, q2⟩
  by_cases hw : HT.sIx xs.length 0 lo = 0 ∧ HT.sIx xs.length xs.length hi = xs.length
  · exact sl_tupA pins s σ H _ v vl vu lo hi sl Q I rx hs pl pu ⟨a, xs, rfl, hx, q1, fun z => absurd hw z⟩
  cases rx
  obtain ⟨us, r, ht, hz⟩ := I.tuple hx
  have hl : us.toArray.size = xs.length := by rw [List.size_toArray]; exact r.length.symm
  refine ⟨"tuple", _, PyProof.Rows.slot_tuple_getitem.lookup, ht.typeIs, HT.getItem_tuple_cut ht hs pl pu (by rw [hl]; exact hw) ?_ (by rw [hl]; exact hz)⟩
  rw [hl]
  exact newT (n := 0) (t' := s.toks) I (fun b ob q => Heap.get?_push_of_some _ q) (Nat.le_refl _) ((r.drop (HT.sIx xs.length 0 lo)).take (HT.sIx xs.length xs.length hi - HT.sIx xs.length 0 lo)) (Nat.le_trans (cutV_length xs lo hi) hz) (Heap.get?_push_size _ rfl) (q2 hw)
/-- tuple(xs) -/
def rTupN (K : PySem.W.Frag) : List V → Hp → VK → Prop := fun xs H Q => ∃ p ys, xs = [.ref p] ∧ ((SqL K H p ys ∧ NewT H ys Q) ∨ (SqT K H p ys ∧ Q (.ref p) H))
theorem c_tupleN {X : Cx} : CallR X (.type "tuple") (rTupN X.K) := by
  rintro pins s σ H xs us Q I r ⟨p, ys, rfl, ⟨hq, q⟩ | ⟨hq, q⟩⟩
  · obtain ⟨u, rfl, rx⟩ := vals1 r
    cases rx
    obtain ⟨ws, r', pl, hz⟩ := I.list hq
    have hl := r'.length
    refine call_tuple_list pl.isList (fun h' kp => ?_) (by simp only [List.size_toArray] <;> omega)
    have I1 : Inv X pins σ H { s with heap := h' } := I.kept (t' := s.toks) kp
    exact newT (s := { s with heap := h' }) (n := 0) (t' := s.toks) I1 (fun b o e => Heap.get?_push_of_some _ e) (Nat.le_refl _) r' hz (Heap.get?_push_size _ rfl) q
  · exact call_tuple_of pins s σ H _ us Q I r ⟨p, ys, rfl, .inr ⟨hq, q⟩⟩
/-- enumerate of a list: each pair a plain tuple -/
def IteN (K : PySem.W.Frag) (a : Addr) : It :=
  ⟨fun i H => ∃ (xs : List V) (x : V), SqL K H a xs ∧ xs[i]? = some x, fun i H v H' => ∃ (T : Addr) (x : V) (o : Obj), v = .ref T ∧ H T = none ∧ o.dict = none ∧ H' = upd H T (.frz o (.tup [.int (i : Nat), x])) ∧ ∀ xs, SqL K H a xs → xs[i]? = some x,
    fun i H => ∃ xs : List V, SqL K H a xs ∧ xs.length ≤ i⟩
theorem turn_enumN {P : Program} {w : World} {K : PySem.W.Frag} {elts : List Expr} {kk : Nat} {tpos : Pos} (a e it : Addr) :
    Turn P w K (.Tuple elts kk tpos) (IteN K a) [e, it] e (fun i h => (∃ old, IsEnum h e it ((i : Nat) : Int) old) ∧ h.IsListIter it a i ∧ e ≠ it) where
  mem := (turn_enum (P := P) (w := w) (K := K) (elts := elts) (kk := kk) (tpos := tpos) a e it).mem
  obj := (turn_enum (P := P) (w := w) (K := K) (elts := elts) (kk := kk) (tpos := tpos) a e it).obj
  keep := (turn_enum (P := P) (w := w) (K := K) (elts := elts) (kk := kk) (tpos := tpos) a e it).keep
  done := (turn_enum (P := P) (w := w) (K := K) (elts := elts) (kk := kk) (tpos := tpos) a e it).done
  self := (turn_enum (P := P) (w := w) (K := K) (elts := elts) (kk := kk) (tpos := tpos) a e it).self
  item := by
    rintro X hP hw hK hc i pins s σ H E I hf ⟨⟨old, he⟩, hit, hne⟩ ⟨xs, x, hq, hx⟩
    subst hP hw hK
    obtain ⟨us, rv, pl, -⟩ := I.list hq
    obtain ⟨u, hu, ru⟩ := rv.get hx
    have le : e < s.heap.objs.size := Heap.lt_size he
    have li : it < s.heap.objs.size := Heap.lt_size hit.choose_spec.1
    refine wpAny_pyNext_enum_item he hit pl.isList (x := u) (by simpa using hu) hne fun h' ho hit' hT hsz hk => ⟨_, rfl, wpAny_letOwnedTupleGo_enum (s := { s with heap := h', toks := s.toks + 1 }) ho fun h2 he' sb => ?_⟩
    have hT2 : h2.get? s.heap.objs.size = some (tObj [.int i s.toks, u] 0) := (sb.2 _ (Nat.ne_of_gt le)).trans hT
    have I1 := I.turnedNew (t' := s.toks + 1) (h' := h2) (ob := .frz (tObj [.int i s.toks, u] 0) (.tup [.int (i : Nat), x])) (ch := [e, it]) (fun b ob hb q => (sb.2 b (fun z => hb (by simp [z]))).trans (hk b ob (fun z => hb (by simp [z])) (fun z => hb (by simp [z])) q)) hf (Nat.le_refl s.heap.objs.size)
      ⟨hT2, by show 2 ≤ sizeLine; decide, [.int i s.toks, u], .cons ⟨_, rfl⟩ (.cons ru .nil), ⟨_, hT2, rfl, _, rfl⟩⟩
    refine ⟨.ref s.heap.objs.size, _, I1, rfl, ⟨_, x, _, rfl, I.hok.fresh (Nat.le_refl _), rfl, rfl, fun ys hy => by rw [I.list_inj hy hq]; exact hx⟩, ⟨⟨u, by rw [show ((i + 1 : Nat) : Int) = (i : Int) + 1 by omega]; exact he'⟩, hit'.at fun o q => (sb.2 it (Ne.symm hne)).trans q, hne⟩, fun b hb => ?_⟩
    have lb : b < s.heap.objs.size := by
      rcases (by simpa using hb : b = e ∨ b = it) with rfl | rfl
      · exact le
      · exact li
    rw [upd_ne (Nat.ne_of_lt lb)]
    exact (hf b hb).1
end Sm
namespace Sm
open PySem PySem.Spec PyProof.Rows L2
theorem peImp {X : Cx} {e : Expr} {t t' : TE} (h : PE X e t) (w : ∀ σ H Q, t' σ H Q → t σ H Q) : PE X e t' := ⟨fun pins s σ H Q I q => h.run pins s σ H Q I (w σ H Q q)⟩
theorem ptImp {X : Cx} {e : Expr} {t t' : TT} (h : PT X e t) (w : ∀ σ H Q, t' σ H Q → t σ H Q) : PT X e t' := ⟨fun pins s σ H Q I q => h.run pins s σ H Q I (w σ H Q q)⟩
theorem paImp {X : Cx} {e : List Expr} {t t' : TA} (h : PA X e t) (w : ∀ σ H Q, t' σ H Q → t σ H Q) : PA X e t' := ⟨fun pos pins s σ H Q I q => h.run pos pins s σ H Q I (w σ H Q q)⟩
theorem psImp {X : Cx} {e : Stmt} {t t' : TS} (h : PS X e t) (w : ∀ D σ H, t' D σ H → t D σ H) : PS X e t' := ⟨fun pins s σ H D I q => h.run pins s σ H D I (w D σ H q)⟩
theorem pssImp {X : Cx} {e : List Stmt} {t t' : TS} (h : PSs X e t) (w : ∀ D σ H, t' D σ H → t D σ H) : PSs X e t' := ⟨fun pins s σ H D I q => h.run pins s σ H D I (w D σ H q)⟩
/-- the wish for what is raised: the class, its fields -/
def RX (K : PySem.W.Frag) (mg : NW) (H : Hp) (r : List Addr) (c : Str) (fs : List (Str × D)) (cv : Value) (dx : Option Addr) : Prop :=
  ∃ C, mg c = some (.ref C) ∧ cv = .ref C ∧ ((fs = [] ∧ dx = none) ∨ ∃ d vs, dx = some d ∧ H d = some (.xd vs) ∧ RF K mg H r fs vs)
section
variable (K : PySem.W.Frag) (mg : NW) (W : WX)
/-- what must hold of an answer, so that Q holds behind it -/
def Post {α β : Type} (RR : Hp → List Addr → α → β → Prop) (r : List Addr) (H : Hp) (σ : L2.St) (o : Out α) (Q : β → Hp → Prop) : Prop :=
  match o with
  | .ok a mh => ∀ r' H' b, Stp r H r' H' → RH K mg r' mh H' → RR H' r' a b → Q b H'
  | .exc c fs mh => ∀ r' H' cv dx, Stp r H r' H' → RH K mg r' mh H' → RX K mg H' r' c fs cv dx → W cv dx σ H'
  | .bad => False
def Sim {α β : Type} (RR : Hp → List Addr → α → β → Prop) (m : MS → MH → Out α) : L2.St → Hp → (β → Hp → Prop) → Prop := fun σ H Q =>
  ∃ r ms mh, RS K mg H r ms σ ∧ RH K mg r mh H ∧ Post K mg W RR r H σ (m ms mh) Q
end
section
variable {K : PySem.W.Frag} {mg : NW} {W : WX} {α β γ δ : Type} {RR : Hp → List Addr → α → β → Prop} {R2 : Hp → List Addr → γ → δ → Prop} {r r' : List Addr} {H H' : Hp} {σ : L2.St}
theorem Post.stp (a : Stp r H r' H') {o : Out α} {Q : β → Hp → Prop} (h : Post K mg W RR r H σ o Q) : Post K mg W RR r' H' σ o Q := by
  cases o with
  | ok x mh => exact fun r2 H2 b st => h r2 H2 b (a.trans st)
  | exc c fs mh => exact fun r2 H2 cv dx st => h r2 H2 cv dx (a.trans st)
  | bad => exact h
theorem Post.bind {o : Out α} {f : α → MH → Out γ} {Q : δ → Hp → Prop} {R : β → Hp → Prop} (h : Post K mg W R2 r H σ (o.bind f) Q)
    (hk : ∀ a mh' r' H' b, Stp r H r' H' → RH K mg r' mh' H' → RR H' r' a b → Post K mg W R2 r' H' σ (f a mh') Q → R b H') : Post K mg W RR r H σ o R := by
  cases o with
  | ok x mh => exact fun r2 H2 b st rh rr => hk x mh r2 H2 b st rh rr (Post.stp st h)
  | exc c fs mh => exact h
  | bad => exact h
theorem Post.mono {o : Out α} {Q Q' : β → Hp → Prop} (h : Post K mg W RR r H σ o Q) (q : ∀ b H, Q b H → Q' b H) : Post K mg W RR r H σ o Q' := by
  cases o with
  | ok x mh => exact fun r2 H2 b st rh rr => q _ _ (h r2 H2 b st rh rr)
  | exc c fs mh => exact h
  | bad => exact h
end
abbrev SE (X : Cx) (W : WX) (e : Expr) (m : ME) : Prop := PE X e (Sim X.K X.gw W (RV X.K X.gw) m)
abbrev ST (X : Cx) (W : WX) (e : Expr) (m : MT) : Prop := PT X e (Sim X.K X.gw W (fun _ _ (a b : Bool) => a = b) m)
abbrev SA (X : Cx) (W : WX) (e : List Expr) (m : MA) : Prop := PA X e (Sim X.K X.gw W (RVs X.K X.gw) m)
def mV (i : Nat) : ME := fun ms h => match ms[i]? with
  | some (some d) => .ok d h
  | _ => .bad
def mC (d : D) : ME := fun _ h => .ok d h
section
variable {X : Cx} {W : WX}
theorem s_var0 {i : Nat} {x : Str} {pos : Pos} (hN : X.N[i]? = some x) (hv : Vis X.env.scope x) (hd : (x == ("__debug__" : Str)) = false) (hcd : (x == ("__classdict__" : Str)) = false) : SE X W (.Name x pos) (mV i) := by
  refine peImp (pe_var hN hv hd hcd) fun σ H Q h => ?_
  obtain ⟨r, ms, mh, rs, rh, p⟩ := h
  unfold mV at p
  cases e : ms[i]? with
  | none => rw [e] at p; exact p.elim
  | some o =>
    rw [e] at p
    cases o with
    | none => exact p.elim
    | some d =>
      obtain ⟨v, e1, q⟩ := rs.2 i d e
      exact ⟨v, e1, p r H v .refl rh q⟩
theorem s_var {i : Nat} {x : Str} {pos : Pos} (hv : X.env.scope.names.lookup x = some .local := by kernel_rfl) (hN : X.N[i]? = some x := by kernel_rfl) (hd : (x == ("__debug__" : Str)) = false := by kernel_rfl) (hcd : (x == ("__classdict__" : Str)) = false := by kernel_rfl) : SE X W (.Name x pos) (mV i) := s_var0 hN (.inl hv) hd hcd
theorem s_varC {i : Nat} {x : Str} {pos : Pos} (hv : X.env.scope.names.lookup x = some .cell := by kernel_rfl) (hN : X.N[i]? = some x := by kernel_rfl) (hd : (x == ("__debug__" : Str)) = false := by kernel_rfl) (hcd : (x == ("__classdict__" : Str)) = false := by kernel_rfl) : SE X W (.Name x pos) (mV i) := s_var0 hN (.inr (.inl hv)) hd hcd
theorem s_varF {i : Nat} {x : Str} {pos : Pos} (hv : X.env.scope.names.lookup x = some .free := by kernel_rfl) (hN : X.N[i]? = some x := by kernel_rfl) (hd : (x == ("__debug__" : Str)) = false := by kernel_rfl) (hcd : (x == ("__classdict__" : Str)) = false := by kernel_rfl) : SE X W (.Name x pos) (mV i) := s_var0 hN (.inr (.inr hv)) hd hcd
/-- a value that is the same everywhere -/
theorem s_const {e : Expr} {d : D} {v : V} (h : PE X e (tC v)) (q : ∀ H r, RV X.K X.gw H r d v) : SE X W e (mC d) := by
  refine peImp h fun σ H Q h => ?_
  obtain ⟨r, ms, mh, rs, rh, p⟩ := h
  exact p r H v .refl rh (q _ _)
theorem s_int {i j pos} : SE X W (.Constant (.int i) j pos) (mC (.int i)) := s_const pe_int fun _ _ => .int i
theorem s_bl {b j pos} : SE X W (.Constant (.bool b) j pos) (mC (.bl b)) := s_const pe_bl fun _ _ => .bl b
theorem s_non {j pos} : SE X W (.Constant .none j pos) (mC .non) := s_const pe_non fun _ _ => .non
theorem s_str {x j pos} : SE X W (.Constant (.str x) j pos) (mC (.str x)) := s_const pe_str fun _ _ => .str x
end
def aNil : MA := fun _ h => .ok [] h
def aCons (m : ME) (n : MA) : MA := fun ms h => (m ms h).bind fun d h1 => (n ms h1).bind fun ds h2 => .ok (d :: ds) h2
def mTup (n : MA) : ME := fun ms h => (n ms h).bind fun ds h1 => if ds.length ≤ sizeLine then .ok (.tup ds) h1 else .bad
def mLst (n : MA) : ME := fun ms h => (n ms h).bind fun ds h1 => if ds.length ≤ sizeLine then .ok (.ref h1.length) (h1 ++ [.lst ds]) else .bad
section
variable {X : Cx} {W : WX} {m m1 m2 : ME} {n : MA} {e a b : Expr} {es : List Expr} {pos : Pos}
theorem sa_nil : SA X W [] aNil := paImp pa_nil fun σ H Q ⟨r, ms, mh, rs, rh, p⟩ => p r H [] .refl rh .nil
theorem sa_cons (he : SE X W e m) (hr : SA X W es n) (hs : starEach (e :: es) X.env = (false, eval e X.env) :: starEach es X.env := by kernel_rfl) : SA X W (e :: es) (aCons m n) := by
  refine paImp (pa_cons he hr hs) fun σ H Q ⟨r, ms, mh, rs, rh, p⟩ => ?_
  refine ⟨r, ms, mh, rs, rh, p.bind fun d h1 r1 H1 v st1 rh1 rv1 p1 => ?_⟩
  refine ⟨r1, ms, h1, rs.mono st1, rh1, p1.bind fun ds h2 r2 H2 vs st2 rh2 rvs p2 => ?_⟩
  exact p2 r2 H2 (v :: vs) .refl rh2 (.cons (rv1.mono st2) rvs)
theorem s_tup {x1} (h : SA X W es n) : SE X W (.Tuple es x1 pos) (mTup n) := by
  refine peImp (pe_tupN h) fun σ H Q ⟨r, ms, mh, rs, rh, p⟩ => ?_
  refine ⟨r, ms, mh, rs, rh, p.bind fun ds h1 r1 H1 vs st1 rh1 rvs p1 => ?_⟩
  split at p1
  · rename_i hz
    refine ⟨by rw [← rvs.len]; exact hz, fun q o hq ho => ?_⟩
    exact p1 r1 _ (.ref q) (stp_new hq) (rh1.other hq) (rv_newT hq ho rvs)
  · exact p1.elim
theorem ref_new {H : Hp} {r : List Addr} {mh : MH} {p : Addr} (K : PySem.W.Frag) (mg : NW) (hl : r.length = mh.length) : RV K mg H (r ++ [p]) (.ref mh.length) (.ref p) := .ref (by
  rw [← hl, List.getElem?_append_right (Nat.le_refl _), Nat.sub_self]; rfl)
/-- a new list -/
theorem lst_new {K : PySem.W.Frag} {mg : NW} {H : Hp} {r : List Addr} {mh : MH} {p : Addr} {ds : List D} {vs : List V} (rh : RH K mg r mh H) (hp : H p = none) (q : RVs K mg H r ds vs) :
    Stp r H (r ++ [p]) (upd H p (.lst vs)) ∧ RH K mg (r ++ [p]) (mh ++ [.lst ds]) (upd H p (.lst vs)) ∧ RV K mg (upd H p (.lst vs)) (r ++ [p]) (.ref mh.length) (.ref p) := by
  have st : Stp r H (r ++ [p]) (upd H p (.lst vs)) := (stp_new hp).trans (stp_ext ⟨[p], rfl⟩)
  exact ⟨st, rh.new hp ⟨vs, upd_same, q.mono st⟩, ref_new K mg rh.len⟩
theorem s_lst (h : SA X W es n) : SE X W (.List es pos) (mLst n) := by
  refine peImp (pe_lst h) fun σ H Q ⟨r, ms, mh, rs, rh, p⟩ => ?_
  refine ⟨r, ms, mh, rs, rh, p.bind fun ds h1 r1 H1 vs st1 rh1 rvs p1 => ?_⟩
  split at p1
  · rename_i hz
    refine ⟨by rw [← rvs.len]; exact hz, fun q hq => ?_⟩
    obtain ⟨z1, z2, z3⟩ := lst_new rh1 hq rvs
    exact p1 _ _ (.ref q) z1 z2 z3
  · exact p1.elim
end
abbrev MO2 := D → D → MH → Out D
abbrev MO1 := D → MH → Out D
def m2 (g : MO2) (a b : ME) : ME := fun ms h => (a ms h).bind fun d1 h1 => (b ms h1).bind fun d2 h2 => g d1 d2 h2
def m1 (g : MO1) (a : ME) : ME := fun ms h => (a ms h).bind fun d1 h1 => g d1 h1
/-- the rule rel asks what the mirror's g has -/
def Op2 (K : PySem.W.Frag) (mg : NW) (rel : R2) (g : MO2) : Prop :=
  ∀ (W : WX) (r : List Addr) (H : Hp) (mh : MH) (σ : L2.St) (d1 d2 : D) (x y : V) (Q : VK), RH K mg r mh H → RV K mg H r d1 x → RV K mg H r d2 y → Post K mg W (RV K mg) r H σ (g d1 d2 mh) Q → rel x y H Q
def Op1 (K : PySem.W.Frag) (mg : NW) (rel : V → Hp → VK → Prop) (g : MO1) : Prop :=
  ∀ (W : WX) (r : List Addr) (H : Hp) (mh : MH) (σ : L2.St) (d1 : D) (x : V) (Q : VK), RH K mg r mh H → RV K mg H r d1 x → Post K mg W (RV K mg) r H σ (g d1 mh) Q → rel x H Q
section
variable {X : Cx} {W : WX} {ma mb mc : ME} {e a b c : Expr} {es : List Expr} {pos : Pos} {rel rel' : R2} {g g' : MO2}
theorem op2_run (hs : Op2 X.K X.gw rel g) {σ : L2.St} {H : Hp} {Q : VK} (h : Sim X.K X.gw W (RV X.K X.gw) (m2 g ma mb) σ H Q) : tOp rel (Sim X.K X.gw W (RV X.K X.gw) ma) (Sim X.K X.gw W (RV X.K X.gw) mb) σ H Q := by
  obtain ⟨r, ms, mh, rs, rh, p⟩ := h
  refine ⟨r, ms, mh, rs, rh, p.bind fun d1 h1 r1 H1 x st1 rh1 rv1 p1 => ?_⟩
  refine ⟨r1, ms, h1, rs.mono st1, rh1, p1.bind fun d2 h2 r2 H2 y st2 rh2 rv2 p2 => ?_⟩
  exact hs W r2 H2 h2 σ d1 d2 x y Q rh2 (rv1.mono st2) rv2 p2
theorem s_bin {op : Operator} (ho : OpR X (binaryOp op) rel) (hs : Op2 X.K X.gw rel g) (ha : SE X W a ma) (hb : SE X W b mb) : SE X W (.BinOp a op b pos) (m2 g ma mb) :=
  peImp (pe_op ho ha hb) fun _ _ _ h => op2_run hs h
theorem s_cmp {op : CmpOp} (ho : OpR X (compareOp op) rel) (hs : Op2 X.K X.gw rel g) (ha : SE X W a ma) (hb : SE X W b mb) (hm : behindInMarks op b = false := by kernel_rfl) : SE X W (.Compare a [op] [b] pos) (m2 g ma mb) :=
  peImp (pe_cmpR ho ha hb hm) fun _ _ _ h => op2_run hs h
theorem s_ix (ho : IxR X rel) (hs : Op2 X.K X.gw rel g) (ha : SE X W a ma) (hb : SE X W b mb) (hp : PlainIx b := by intro _ _; kernel_rfl) : SE X W (.Subscript a b pos) (m2 g ma mb) :=
  peImp (pe_ix ho ha hb hp) fun _ _ _ h => op2_run hs h
theorem s_un {op : UnaryOp} {rel : V → Hp → VK → Prop} {g : MO1} (ho : UnR X (unaryOp op) rel) (hs : Op1 X.K X.gw rel g) (ha : SE X W a ma) : SE X W (.UnaryOp op a pos) (m1 g ma) := by
  refine peImp (pe_un ho ha) fun σ H Q ⟨r, ms, mh, rs, rh, p⟩ => ?_
  refine ⟨r, ms, mh, rs, rh, p.bind fun d1 h1 r1 H1 x st1 rh1 rv1 p1 => ?_⟩
  exact hs W r1 H1 h1 σ d1 x Q rh1 rv1 p1
def dB : D → MH → Out Bool := fun d h => match d with
  | .bl b => .ok b h
  | _ => .bad
def mTest (m : ME) : MT := fun ms h => (m ms h).bind dB
theorem sim_test {m : ME} {σ : L2.St} {H : Hp} {Q : Bool → Hp → Prop} (h : Sim X.K X.gw W (fun _ _ (a b : Bool) => a = b) (mTest m) σ H Q) : Sim X.K X.gw W (RV X.K X.gw) m σ H fun x H' => ∃ k, x = .bl k ∧ Q k H' := by
  obtain ⟨r, ms, mh, rs, rh, p⟩ := h
  refine ⟨r, ms, mh, rs, rh, p.bind fun d h1 r1 H1 x st1 rh1 rv1 p1 => ?_⟩
  cases rv1 with
  | bl b => exact ⟨b, rfl, p1 r1 H1 b .refl rh1 rfl⟩
  | _ => exact p1.elim
theorem t_val {m : ME} (h : SE X W e m) (he : ∀ whole, isTrue e X.env whole = (do let v ← whole; standAt e.pos; holding [v] (truthy v)) := by intro _; kernel_rfl) : ST X W e (mTest m) :=
  ptImp (pt_val h he) fun _ _ _ h => sim_test h
theorem t_cmp {op : CmpOp} (ho : OpR X (compareOp op) rel) (hs : Op2 X.K X.gw rel g) (ha : SE X W a ma) (hb : SE X W b mb) (hm : behindInMarks op b = false := by kernel_rfl) : ST X W (.Compare a [op] [b] pos) (mTest (m2 g ma mb)) := by
  refine ptImp (pt_cmpR ho ha hb hm) fun σ H Q h => ?_
  exact op2_run hs (sim_test h)
def mNotT (t : MT) : MT := fun ms h => (t ms h).bind fun b h1 => .ok (!b) h1
def mAndT (t u : MT) : MT := fun ms h => (t ms h).bind fun b h1 => if b = true then u ms h1 else .ok false h1
def mOrT (t u : MT) : MT := fun ms h => (t ms h).bind fun b h1 => if b = true then .ok true h1 else u ms h1
def mIfE (t : MT) (a b : ME) : ME := fun ms h => (t ms h).bind fun c h1 => if c = true then a ms h1 else b ms h1
theorem t_not {t : MT} (h : ST X W a t) : ST X W (.UnaryOp .Not a pos) (mNotT t) := by
  refine ptImp (pt_not h) fun σ H Q ⟨r, ms, mh, rs, rh, p⟩ => ?_
  refine ⟨r, ms, mh, rs, rh, p.bind fun d h1 r1 H1 x st1 rh1 rv1 p1 => ?_⟩
  subst rv1
  exact p1 r1 H1 _ .refl rh1 rfl
abbrev SW (X : Cx) (W : WX) (e : Expr) (m : MT) : Prop := PW X e (Sim X.K X.gw W (fun _ _ (a b : Bool) => a = b) m)
theorem pwImp {e : Expr} {t t' : TT} (h : PW X e t) (w : ∀ σ H Q, t' σ H Q → t σ H Q) : PW X e t' := ⟨fun wh pins s σ H Q I q => h.run wh pins s σ H Q I (w σ H Q q)⟩
theorem w_and1 {t : MT} (h : ST X W a t) : SW X W (.BoolOp .And [a] pos) t := pw_and1 h
theorem w_or1 {t : MT} (h : ST X W a t) : SW X W (.BoolOp .Or [a] pos) t := pw_or1 h
theorem w_and {t u : MT} {rest : List Expr} (h : ST X W a t) (hr : SW X W (.BoolOp .And (b :: rest) pos) u) : SW X W (.BoolOp .And (a :: b :: rest) pos) (mAndT t u) := by
  refine pwImp (pw_and h hr) fun σ H Q ⟨r, ms, mh, rs, rh, p⟩ => ?_
  refine ⟨r, ms, mh, rs, rh, p.bind fun d h1 r1 H1 x st1 rh1 rv1 p1 => ?_⟩
  subst rv1
  cases d with
  | true => exact ⟨r1, ms, h1, rs.mono st1, rh1, p1⟩
  | false => exact p1 r1 H1 _ .refl rh1 rfl
theorem w_or {t u : MT} {rest : List Expr} (h : ST X W a t) (hr : SW X W (.BoolOp .Or (b :: rest) pos) u) : SW X W (.BoolOp .Or (a :: b :: rest) pos) (mOrT t u) := by
  refine pwImp (pw_or h hr) fun σ H Q ⟨r, ms, mh, rs, rh, p⟩ => ?_
  refine ⟨r, ms, mh, rs, rh, p.bind fun d h1 r1 H1 x st1 rh1 rv1 p1 => ?_⟩
  subst rv1
  cases d with
  | false => exact ⟨r1, ms, h1, rs.mono st1, rh1, p1⟩
  | true => exact p1 r1 H1 _ .refl rh1 rfl
theorem t_w {t : MT} (h : SW X W a t) : ST X W a t := h.pt
/-- and, or as values: all but the last are True or False -/
def mAndV (a b : ME) : ME := fun ms h => (mTest a ms h).bind fun c h1 => if c = true then b ms h1 else .ok (.bl false) h1
def mOrV (a b : ME) : ME := fun ms h => (mTest a ms h).bind fun c h1 => if c = true then .ok (.bl true) h1 else b ms h1
def mNotV (a : ME) : ME := fun ms h => (mTest a ms h).bind fun c h1 => .ok (.bl (!c)) h1
theorem s_one {op} {m : ME} (h : SE X W a m) : SE X W (.BoolOp op [a] pos) m := pe_one h
theorem mTest_bind {γ : Type} (m : ME) (f : Bool → MH → Out γ) (ms : MS) (h : MH) : (mTest m ms h).bind f = (m ms h).bind fun d h1 => (dB d h1).bind f := by
  unfold mTest
  cases m ms h <;> rfl
theorem s_and {rest : List Expr} (ha : SE X W a ma) (hb : SE X W (.BoolOp .And (b :: rest) pos) mb) : SE X W (.BoolOp .And (a :: b :: rest) pos) (mAndV ma mb) := by
  refine peImp (pe_and ha hb) fun σ H Q ⟨r, ms, mh, rs, rh, p⟩ => ?_
  unfold mAndV at p
  rw [mTest_bind] at p
  refine ⟨r, ms, mh, rs, rh, p.bind fun d h1 r1 H1 x st1 rh1 rv1 p1 => ?_⟩
  cases rv1 with
  | bl c =>
    refine ⟨c, rfl, ?_⟩
    cases c with
    | true => exact ⟨r1, ms, h1, rs.mono st1, rh1, p1⟩
    | false => exact p1 r1 H1 _ .refl rh1 (.bl _)
  | _ => exact p1.elim
theorem s_or {rest : List Expr} (ha : SE X W a ma) (hb : SE X W (.BoolOp .Or (b :: rest) pos) mb) : SE X W (.BoolOp .Or (a :: b :: rest) pos) (mOrV ma mb) := by
  refine peImp (pe_or ha hb) fun σ H Q ⟨r, ms, mh, rs, rh, p⟩ => ?_
  unfold mOrV at p
  rw [mTest_bind] at p
  refine ⟨r, ms, mh, rs, rh, p.bind fun d h1 r1 H1 x st1 rh1 rv1 p1 => ?_⟩
  cases rv1 with
  | bl c =>
    refine ⟨c, rfl, ?_⟩
    cases c with
    | false => exact ⟨r1, ms, h1, rs.mono st1, rh1, p1⟩
    | true => exact p1 r1 H1 _ .refl rh1 (.bl _)
  | _ => exact p1.elim
theorem s_not (ha : SE X W a ma) : SE X W (.UnaryOp .Not a pos) (mNotV ma) := by
  refine peImp (pe_not ha) fun σ H Q ⟨r, ms, mh, rs, rh, p⟩ => ?_
  unfold mNotV at p
  rw [mTest_bind] at p
  refine ⟨r, ms, mh, rs, rh, p.bind fun d h1 r1 H1 x st1 rh1 rv1 p1 => ?_⟩
  cases rv1 with
  | bl c => exact ⟨c, rfl, p1 r1 H1 _ .refl rh1 (.bl _)⟩
  | _ => exact p1.elim
theorem s_ifE {t : MT} (hc : ST X W c t) (ha : SE X W a ma) (hb : SE X W b mb) : SE X W (.IfExp c a b pos) (mIfE t ma mb) := by
  refine peImp (pe_ifExp hc ha hb) fun σ H Q ⟨r, ms, mh, rs, rh, p⟩ => ?_
  refine ⟨r, ms, mh, rs, rh, p.bind fun d h1 r1 H1 x st1 rh1 rv1 p1 => ?_⟩
  subst rv1
  cases d with
  | true => exact ⟨r1, ms, h1, rs.mono st1, rh1, p1⟩
  | false => exact ⟨r1, ms, h1, rs.mono st1, rh1, p1⟩
/-- a < b < c -/
def mChain (g g' : MO2) (a b c : ME) : ME := fun ms h => (a ms h).bind fun d1 h1 => (b ms h1).bind fun d2 h2 => (g d1 d2 h2).bind fun z h3 => (dB z h3).bind fun k h4 => if k = true then (c ms h4).bind fun d3 h5 => g' d2 d3 h5 else .ok (.bl false) h4
theorem chain_run {σ : L2.St} {H : Hp} {Q : VK} (hs : Op2 X.K X.gw rel g) (hs' : Op2 X.K X.gw rel' g') (h : Sim X.K X.gw W (RV X.K X.gw) (mChain g g' ma mb mc) σ H Q) :
    tChain rel rel' (Sim X.K X.gw W (RV X.K X.gw) ma) (Sim X.K X.gw W (RV X.K X.gw) mb) (Sim X.K X.gw W (RV X.K X.gw) mc) σ H Q := by
  obtain ⟨r, ms, mh, rs, rh, p⟩ := h
  refine ⟨r, ms, mh, rs, rh, p.bind fun d1 h1 r1 H1 x st1 rh1 rv1 p1 => ?_⟩
  refine ⟨r1, ms, h1, rs.mono st1, rh1, p1.bind fun d2 h2 r2 H2 y st2 rh2 rv2 p2 => ?_⟩
  refine hs W r2 H2 h2 σ d1 d2 x y _ rh2 (rv1.mono st2) rv2 (p2.bind fun z h3 r3 H3 zv st3 rh3 rv3 p3 => ?_)
  cases rv3 with
  | bl k =>
    refine ⟨k, rfl, ?_⟩
    cases k with
    | true =>
      refine ⟨r3, ms, h3, rs.mono (st1.trans (st2.trans st3)), rh3, Post.bind (RR := RV X.K X.gw) p3 fun d3 h5 r5 H5 w st5 rh5 rv5 p5 => ?_⟩
      exact hs' W r5 H5 h5 σ d2 d3 y w Q rh5 (rv2.mono (st3.trans st5)) rv5 p5
    | false => exact p3 r3 H3 _ .refl rh3 (.bl _)
  | _ => exact p3.elim
theorem s_chain {op op' : CmpOp} (ho : OpR X (compareOp op) rel) (ho' : OpR X (compareOp op') rel') (hs : Op2 X.K X.gw rel g) (hs' : Op2 X.K X.gw rel' g') (ha : SE X W a ma) (hb : SE X W b mb) (hc : SE X W c mc)
    (hm : lastMarks [op, op'] [b, c] = false := by kernel_rfl) : SE X W (.Compare a [op, op'] [b, c] pos) (mChain g g' ma mb mc) :=
  peImp (pe_chain ho ho' ha hb hc hm) fun _ _ _ h => chain_run hs hs' h
end
end Sm
namespace Sm
open PySem PySem.Spec PyProof.Rows L2
section
variable {X : Cx} {K : PySem.W.Frag} {mg : NW} {r : List Addr} {H : Hp} {mh : MH}
theorem RH.lstAt (rh : RH K mg r mh H) {n : Nat} {a : Addr} {xs : List D} (e : r[n]? = some a) (m : mh[n]? = some (.lst xs)) : ∃ vs, H a = some (.lst vs) ∧ RVs K mg H r xs vs := rh.at_ n _ a m e
theorem RoL.sq {a : Addr} {vs : List V} (h : RoL K H a vs) : SqL K H a vs := by
  rcases h with ⟨o, h⟩ | h
  · exact .inl (.inr ⟨o, h⟩)
  · exact .inr h
/-- a list, to be read -/
def lsAt (mh : MH) (n : Nat) : Option (List D) := match mh[n]? with
  | some (.lst xs) => some xs
  | some (.ro xs) => some xs
  | _ => none
theorem RH.lsAt (rh : RH K mg r mh H) {n : Nat} {a : Addr} {xs : List D} (e : r[n]? = some a) (m : lsAt mh n = some xs) : ∃ vs, SqL K H a vs ∧ RVs K mg H r xs vs := by
  unfold Sm.lsAt at m
  split at m
  · rename_i q
    cases m
    obtain ⟨vs, h1, h2⟩ := rh.at_ n _ a q e
    exact ⟨vs, .of h1, h2⟩
  · rename_i q
    cases m
    obtain ⟨vs, h1, h2⟩ := rh.at_ n _ a q e
    exact ⟨vs, h1.sq, h2⟩
  · cases m
end
def gAdd : MO2
  | .int i, .int j, h => .ok (.int (i + j)) h
  | .str a, .str b, h => if a.length + b.length ≤ sizeLine then .ok (.str (a ++ b)) h else .bad
  | .tup a, .tup b, h => if a.length + b.length ≤ sizeLine then .ok (.tup (a ++ b)) h else .bad
  | .ref a, .ref b, h => match h[a]?, h[b]? with
    | some (.lst xs), some (.lst ys) => if xs.length + ys.length ≤ sizeLine then .ok (.ref h.length) (h ++ [.lst (xs ++ ys)]) else .bad
    | _, _ => .bad
  | _, _, _ => .bad
def rAddS : R2 := fun x y H Q => ∃ i j, x = .str i ∧ y = .str j ∧ i.length + j.length ≤ sizeLine ∧ Q (.str (i ++ j)) H
def rAddA (K : PySem.W.Frag) : R2 := fun x y H Q => rI0 (fun i j => .int (i + j)) x y H Q ∨ rAddS x y H Q ∨ rCatN K x y H Q ∨ rCat x y H Q
theorem op_addA {X : Cx} : OpR X (binaryOp .Add) (rAddA X.K) := op_add.or (op_add_str.or (op_catN.or op_cat))
theorem gAdd_ok {K : PySem.W.Frag} {mg : NW} : Op2 K mg (rAddA K) gAdd := by
  intro W r H mh σ d1 d2 x y Q rh q1 q2 p
  cases q1 with
  | int i =>
    cases q2 with
    | int j => exact .inl ⟨i, j, rfl, rfl, p r H _ .refl rh (.int _)⟩
    | _ => exact p.elim
  | str i =>
    cases q2 with
    | str j =>
      simp only [gAdd] at p
      split at p
      · rename_i hz
        exact .inr (.inl ⟨i, j, rfl, rfl, hz, p r H _ .refl rh (.str _)⟩)
      · exact p.elim
    | _ => exact p.elim
  | @tup ds a vs h1 d1 h2 =>
    cases q2 with
    | @tup es b ws h3 d3 h4 =>
      simp only [gAdd] at p
      split at p
      · rename_i hz
        refine .inr (.inr (.inl ⟨a, b, vs, ws, rfl, rfl, h1, h3, by rw [← h2.len, ← h4.len]; exact hz, fun e => ?_, fun e1 e2 => ?_, fun e1 e2 q o hq ho => ?_⟩))
        · subst e; cases h2; exact p r H _ .refl rh (.tup h3 d3 h4)
        · subst e2; cases h4; rw [List.append_nil] at p; exact p r H _ .refl rh (.tup h1 d1 h2)
        · exact p r _ _ (stp_new hq) (rh.other hq) (rv_newT hq ho (h2.app h4))
      · exact p.elim
    | _ => exact p.elim
  | @ref n a e1 =>
    cases q2 with
    | @ref k b e2 =>
      simp only [gAdd] at p
      split at p
      · rename_i xs ys m1 m2
        obtain ⟨vs, h1, h2⟩ := rh.lstAt e1 m1
        obtain ⟨ws, h3, h4⟩ := rh.lstAt e2 m2
        split at p
        · rename_i hz
          refine .inr (.inr (.inr ⟨a, b, vs, ws, rfl, rfl, h1, h3, by rw [← h2.len, ← h4.len]; exact hz, fun q hq => ?_⟩))
          obtain ⟨z1, z2, z3⟩ := lst_new rh hq (h2.app h4)
          exact p _ _ _ z1 z2 z3
        · exact p.elim
      · exact p.elim
    | _ => exact p.elim
  | _ => exact p.elim
def gI (C : Int → Int → Bool) (f : Int → Int → D) : MO2
  | .int i, .int j, h => if C i j = true then .ok (f i j) h else .bad
  | _, _, _ => .bad
def gI0 (f : Int → Int → D) : MO2
  | .int i, .int j, h => .ok (f i j) h
  | _, _, _ => .bad
theorem gI_ok {K : PySem.W.Frag} {mg : NW} {C : Int → Int → Bool} {C' : Int → Int → Prop} {f : Int → Int → D} {f' : Int → Int → V} (hC : ∀ i j, C i j = true → C' i j) (hf : ∀ i j H r, RV K mg H r (f i j) (f' i j)) : Op2 K mg (rI C' f') (gI C f) := by
  intro W r H mh σ d1 d2 x y Q rh q1 q2 p
  cases q1 with
  | int i =>
    cases q2 with
    | int j =>
      simp only [gI] at p
      split at p
      · rename_i hc
        exact ⟨i, j, rfl, rfl, hC i j hc, p r H _ .refl rh (hf _ _ _ _)⟩
      · exact p.elim
    | _ => exact p.elim
  | _ => exact p.elim
theorem gI0_ok {K : PySem.W.Frag} {mg : NW} {f : Int → Int → D} {f' : Int → Int → V} (hf : ∀ i j H r, RV K mg H r (f i j) (f' i j)) : Op2 K mg (rI0 f') (gI0 f) := by
  intro W r H mh σ d1 d2 x y Q rh q1 q2 p
  cases q1 with
  | int i =>
    cases q2 with
    | int j => exact ⟨i, j, rfl, rfl, p r H _ .refl rh (hf _ _ _ _)⟩
    | _ => exact p.elim
  | _ => exact p.elim
def gSub : MO2 := gI0 fun i j => .int (i - j)
theorem gSub_ok {K : PySem.W.Frag} {mg : NW} : Op2 K mg (rI0 fun i j => .int (i - j)) gSub := gI0_ok fun _ _ _ _ => .int _
def cMul (i j : Int) : Bool := decide (i.natAbs.log2 + j.natAbs.log2 < 1000000)
/-- int * int, list * int -/
def gMul : MO2
  | .int i, .int j, h => if cMul i j = true then .ok (.int (i * j)) h else .bad
  | .ref a, .int k, h => match h[a]? with
    | some (.lst xs) => if xs.length * k.toNat ≤ sizeLine ∧ -(2 ^ 63) ≤ k ∧ k < 2 ^ 63 then .ok (.ref h.length) (h ++ [.lst (List.replicate k.toNat xs).flatten]) else .bad
    | _ => .bad
  | _, _, _ => .bad
def rMulA : R2 := fun x y H Q => rI CMulW (fun i j => .int (i * j)) x y H Q ∨ rRep x y H Q
theorem op_mulA {X : Cx} : OpR X (binaryOp .Mult) rMulA := op_mulW.or op_rep
theorem RVs.rep {K : PySem.W.Frag} {mg : NW} {r : List Addr} {H : Hp} {xs : List D} {vs : List V} (h : RVs K mg H r xs vs) : ∀ k, RVs K mg H r (List.replicate k xs).flatten (List.replicate k vs).flatten
  | 0 => .nil
  | k + 1 => by
    rw [List.replicate_succ, List.replicate_succ, List.flatten_cons, List.flatten_cons]
    exact h.app (RVs.rep h k)
theorem gMul_ok {K : PySem.W.Frag} {mg : NW} : Op2 K mg rMulA gMul := by
  intro W r H mh σ d1 d2 x y Q rh q1 q2 p
  cases q1 with
  | int i =>
    cases q2 with
    | int j =>
      simp only [gMul] at p
      split at p
      · rename_i hc
        exact .inl ⟨i, j, rfl, rfl, (of_decide_eq_true hc : i.natAbs.log2 + j.natAbs.log2 < 1000000), p r H _ .refl rh (.int _)⟩
      · exact p.elim
    | _ => exact p.elim
  | @ref n a e1 =>
    cases q2 with
    | int k =>
      simp only [gMul] at p
      split at p
      · rename_i xs m1
        obtain ⟨vs, h1, h2⟩ := rh.lstAt e1 m1
        split at p
        · rename_i hz
          refine .inr ⟨a, k, vs, rfl, rfl, h1, hz.2.1, hz.2.2, by rw [← h2.len]; exact hz.1, fun q hq => ?_⟩
          obtain ⟨z1, z2, z3⟩ := lst_new rh hq (h2.rep k.toNat)
          exact p _ _ _ z1 z2 z3
        · exact p.elim
      · exact p.elim
    | _ => exact p.elim
  | _ => exact p.elim
def gDiv : MO2 := gI (fun i j => decide (0 < j) && decide (j.natAbs.log2 < 9000)) fun i j => .int (i / j)
theorem gDiv_ok {K : PySem.W.Frag} {mg : NW} : Op2 K mg (rI CDivW fun i j => .int (i / j)) gDiv := gI_ok (fun i j h => by
  rw [Bool.and_eq_true, decide_eq_true_eq, decide_eq_true_eq] at h; exact h) fun _ _ _ _ => .int _
def gMod : MO2 := gI (fun i j => decide (0 < j)) fun i j => .int (i % j)
theorem gMod_ok {K : PySem.W.Frag} {mg : NW} : Op2 K mg (rI (fun _ j => 0 < j) fun i j => .int (i % j)) gMod := gI_ok (fun i j h => of_decide_eq_true h) fun _ _ _ _ => .int _
def gPow : MO2 := gI (fun i j => decide (0 ≤ j) && decide (j ≤ 1000000) && decide (i.natAbs < 2 ^ 64)) fun i j => .int (i ^ j.toNat)
theorem gPow_ok {K : PySem.W.Frag} {mg : NW} : Op2 K mg (rI CPow fun i j => .int (i ^ j.toNat)) gPow := gI_ok (fun i j h => by
  rw [Bool.and_eq_true, Bool.and_eq_true, decide_eq_true_eq, decide_eq_true_eq, decide_eq_true_eq] at h; exact ⟨h.1.1, h.1.2, h.2⟩) fun _ _ _ _ => .int _
def gLt : MO2 := gI0 fun i j => .bl (decide (i < j))
def gLe : MO2 := gI0 fun i j => .bl (decide (i ≤ j))
def gGt : MO2 := gI0 fun i j => .bl (decide (j < i))
def gGe : MO2 := gI0 fun i j => .bl (decide (j ≤ i))
theorem gLt_ok {K : PySem.W.Frag} {mg : NW} : Op2 K mg (rI0 fun i j => .bl (decide (i < j))) gLt := gI0_ok fun _ _ _ _ => .bl _
theorem gLe_ok {K : PySem.W.Frag} {mg : NW} : Op2 K mg (rI0 fun i j => .bl (decide (i ≤ j))) gLe := gI0_ok fun _ _ _ _ => .bl _
theorem gGt_ok {K : PySem.W.Frag} {mg : NW} : Op2 K mg (rI0 fun i j => .bl (decide (j < i))) gGt := gI0_ok fun _ _ _ _ => .bl _
theorem gGe_ok {K : PySem.W.Frag} {mg : NW} : Op2 K mg (rI0 fun i j => .bl (decide (j ≤ i))) gGe := gI0_ok fun _ _ _ _ => .bl _
def gNeg : MO1
  | .int i, h => .ok (.int (-i)) h
  | _, _ => .bad
theorem gNeg_ok {K : PySem.W.Frag} {mg : NW} : Op1 K mg (rU fun i => .int (-i)) gNeg := by
  intro W r H mh σ d1 x Q rh q1 p
  cases q1 with
  | int i => exact ⟨i, rfl, p r H _ .refl rh (.int _)⟩
  | _ => exact p.elim
def mapO {α β : Type} (f : α → Option β) : List α → Option (List β)
  | [] => some []
  | a :: r => match f a, mapO f r with
    | some b, some bs => some (b :: bs)
    | _, _ => none
/-- a value with what its lists hold, as data -/
def pd (mh : MH) : Nat → D → Option PyData
  | 0, _ => none
  | n + 1, d => match d with
    | .non => some .none
    | .bl b => some (.bool b)
    | .int i => some (.int i)
    | .str x => some (.str x)
    | .tup ds => (mapO (pd mh n) ds).map .tuple
    | .ref k => match lsAt mh k with
      | some xs => (mapO (pd mh n) xs).map .list
      | none => none
    | .ty _ => none
    | .glo _ => none
theorem pd_ok {K : PySem.W.Frag} {mg : NW} {r : List Addr} {H : Hp} {mh : MH} (rh : RH K mg r mh H) : ∀ (n : Nat) (d : D) (p : PyData) (v : V), pd mh n d = some p → RV K mg H r d v → Dp K H v p := by
  intro n
  induction n with
  | zero => intro d p v e; cases e
  | succ n ih =>
    have all : ∀ (ds : List D) (ps : List PyData) (vs : List V), mapO (pd mh n) ds = some ps → RVs K mg H r ds vs → DpAll K H vs ps := by
      intro ds
      induction ds with
      | nil => intro ps vs e q; cases q; cases e; exact .nil
      | cons d ds ih2 =>
        intro ps vs e q
        cases q with
        | cons q qs =>
          unfold mapO at e
          split at e
          · rename_i b bs e1 e2
            cases e
            exact .cons (ih _ _ _ e1 q) (ih2 _ _ e2 qs)
          · cases e
    intro d p v e q
    unfold pd at e
    cases q with
    | non => cases e; exact .non
    | bl b => cases e; exact .bl b
    | int i => cases e; exact .int i
    | str x => cases e; exact .str x
    | @tup ds a vs h1 _ h2 =>
      simp only [] at e
      cases e1 : mapO (pd mh n) ds with
      | none => rw [e1] at e; cases e
      | some ps => rw [e1] at e; cases e; exact .tup h1 (all _ _ _ e1 h2)
    | @ref k a h1 =>
      simp only [] at e
      cases e0 : lsAt mh k with
      | none => rw [e0] at e; cases e
      | some xs =>
        rw [e0] at e
        simp only [] at e
        obtain ⟨vs, z1, z2⟩ := rh.lsAt h1 e0
        cases e1 : mapO (pd mh n) xs with
        | none => rw [e1] at e; cases e
        | some ps => rw [e1] at e; cases e; exact .lst z1 (all _ _ _ e1 z2)
    | ty n => cases e
    | glo h => cases e
/-- a == b; the two flat kinds first -/
def eqD (mh : MH) (a b : D) : Option Bool := match a, b with
  | .int i, .int j => some (decide (i = j))
  | .str x, .str y => some (decide (x = y))
  | .bl x, .bl y => some (decide (x = y))
  | a, b => match pd mh 65 a, pd mh 65 b with
    | some p, some q => if SeqAt.shaped p = true ∧ SeqAt.shaped q = true then some (PyData.eqv p q) else none
    | _, _ => none
def gEq : MO2 := fun a b h => match eqD h a b with
  | some c => .ok (.bl c) h
  | none => .bad
def gNe : MO2 := fun a b h => match eqD h a b with
  | some c => .ok (.bl (!c)) h
  | none => .bad
def rEqA (K : PySem.W.Frag) : R2 := fun x y H Q => rEq x y H Q ∨ rEqD K x y H Q
def rNeA (K : PySem.W.Frag) : R2 := fun x y H Q => rNe x y H Q ∨ rNeD K x y H Q
theorem op_eqA {X : Cx} (hu : X.A.units + 64 < cLine) : OpR X (compareOp .Eq) (rEqA X.K) := op_eq.or (op_eqD hu)
theorem op_neA {X : Cx} (hu : X.A.units + 64 < cLine) : OpR X (compareOp .NotEq) (rNeA X.K) := op_ne.or (op_neD hu)
theorem eqD_ok {K : PySem.W.Frag} {mg : NW} {r : List Addr} {H : Hp} {mh : MH} (rh : RH K mg r mh H) {a b : D} {x y : V} {c : Bool} (e : eqD mh a b = some c) (q1 : RV K mg H r a x) (q2 : RV K mg H r b y) :
    (scal x y = true ∧ c = decide (x = y)) ∨ ∃ d e, Dp K H x d ∧ Dp K H y e ∧ SeqAt.shaped d = true ∧ SeqAt.shaped e = true ∧ c = PyData.eqv d e := by
  have deep : ∀ (a b : D), RV K mg H r a x → RV K mg H r b y → (match pd mh 65 a, pd mh 65 b with
    | some p, some q => if SeqAt.shaped p = true ∧ SeqAt.shaped q = true then some (PyData.eqv p q) else none
    | _, _ => none) = some c → ∃ d e, Dp K H x d ∧ Dp K H y e ∧ SeqAt.shaped d = true ∧ SeqAt.shaped e = true ∧ c = PyData.eqv d e := by
    intro a b q1 q2 e
    split at e
    · rename_i p q e1 e2
      split at e
      · rename_i hs
        cases e
        exact ⟨p, q, pd_ok rh _ _ _ _ e1 q1, pd_ok rh _ _ _ _ e2 q2, hs.1, hs.2, rfl⟩
      · cases e
    · cases e
  unfold eqD at e
  split at e
  · cases q1; cases q2; cases e
    exact .inl ⟨rfl, by rw [dec_int, Bool.beq_eq_decide_eq]⟩
  · cases q1; cases q2; cases e
    exact .inl ⟨rfl, by rw [dec_str, Bool.beq_eq_decide_eq]⟩
  · cases q1; cases q2; cases e
    exact .inl ⟨rfl, by rw [dec_bl, Bool.beq_eq_decide_eq]⟩
  · exact .inr (deep _ _ q1 q2 e)
theorem gEq_ok {K : PySem.W.Frag} {mg : NW} : Op2 K mg (rEqA K) gEq := by
  intro W r H mh σ d1 d2 x y Q rh q1 q2 p
  unfold gEq at p
  split at p
  · rename_i c e
    rcases eqD_ok rh e q1 q2 with ⟨h1, h2⟩ | ⟨d, e', h1, h2, h3, h4, h5⟩
    · exact .inl ⟨h1, by rw [← h2]; exact p r H _ .refl rh (.bl _)⟩
    · exact .inr ⟨d, e', h1, h2, h3, h4, by rw [← h5]; exact p r H _ .refl rh (.bl _)⟩
  · exact p.elim
theorem gNe_ok {K : PySem.W.Frag} {mg : NW} : Op2 K mg (rNeA K) gNe := by
  intro W r H mh σ d1 d2 x y Q rh q1 q2 p
  unfold gNe at p
  split at p
  · rename_i c e
    rcases eqD_ok rh e q1 q2 with ⟨h1, h2⟩ | ⟨d, e', h1, h2, h3, h4, h5⟩
    · exact .inl ⟨h1, by rw [← h2]; exact p r H _ .refl rh (.bl _)⟩
    · exact .inr ⟨d, e', h1, h2, h3, h4, by rw [← h5]; exact p r H _ .refl rh (.bl _)⟩
  · exact p.elim
def rIsA : R2 := fun x y H Q => rIsB x y H Q ∨ (y = .non ∧ Q (.bl (decide (x = .non))) H)
theorem op_isA {X : Cx} : OpR X (compareOp .Is) rIsA := op_isBl.or op_isN
def isD : D → D → Option Bool
  | a, .non => some (match a with
    | .non => true
    | _ => false)
  | .bl a, .bl b => some (decide (a = b))
  | _, _ => none
def gIsY : MO2 := fun a b h => match isD a b with
  | some c => .ok (.bl c) h
  | none => .bad
def gIsN : MO2 := fun a b h => match isD a b with
  | some c => .ok (.bl (!c)) h
  | none => .bad
theorem isD_ok {K : PySem.W.Frag} {mg : NW} {r : List Addr} {H : Hp} {a b : D} {x y : V} {c : Bool} (e : isD a b = some c) (q1 : RV K mg H r a x) (q2 : RV K mg H r b y) :
    (∃ i j, x = .bl i ∧ y = .bl j ∧ c = decide (i = j)) ∨ (y = .non ∧ c = decide (x = .non)) := by
  cases q2 with
  | non =>
    right
    cases q1 <;> (cases e; exact ⟨rfl, rfl⟩)
  | bl j =>
    left
    cases q1 <;> first | (cases e; exact ⟨_, _, rfl, rfl, rfl⟩) | cases e
  | _ => cases q1 <;> cases e
theorem gIsY_ok {K : PySem.W.Frag} {mg : NW} : Op2 K mg rIsA gIsY := by
  intro W r H mh σ d1 d2 x y Q rh q1 q2 p
  unfold gIsY at p
  split at p
  · rename_i c e
    rcases isD_ok e q1 q2 with ⟨i, j, h1, h2, h3⟩ | ⟨h1, h2⟩
    · exact .inl ⟨i, j, h1, h2, by rw [← h3]; exact p r H _ .refl rh (.bl _)⟩
    · exact .inr ⟨h1, by rw [← h2]; exact p r H _ .refl rh (.bl _)⟩
  · exact p.elim
end Sm
namespace Sm
open PySem PySem.Spec PyProof.Rows L2
def rInT (K : PySem.W.Frag) : R2 := fun x y H Q => ∃ d ds, Dp K H x d ∧ Dp K H y (.tuple ds) ∧ SeqAt.shaped d = true ∧ SeqAt.shaped (.tuple ds) = true ∧ Q (.bl (ds.any fun z => PyData.eqv z d)) H
theorem op_inT {X : Cx} (hu : X.A.units + 65 < cLine) : OpR X (compareOp .In) (rInT X.K) := by
  intro pins s σ H x y v u Q I rx ry h
  obtain ⟨d, ds, hd, he, sd, se, q⟩ := h
  obtain ⟨as, r1⟩ := Dp.reads I d x v hd rx
  obtain ⟨bs, r2⟩ := Dp.reads I (.tuple ds) y u he ry
  exact SeqAt.in_tuple_reads r2 r1 (SeqAt.canLay_of_shaped se) (SeqAt.canLay_of_shaped sd) (room_in_shaped sd hu) ⟨.bl _, H, I, rfl, q⟩
def rInDc : R2 := fun y x H Q => ∃ a o, x = .ref a ∧ DGet H a y o ∧ Q (.bl o.isSome) H
theorem op_inDc {X : Cx} (hu : X.A.units + 1 < cLine) : OpR X (compareOp .In) rInDc := by
  intro pins s σ H y x v u Q I ry rx h
  obtain ⟨a, o, rfl, g, q⟩ := h
  cases rx
  exact d_in hu I g ry fun s3 I3 => ⟨.bl o.isSome, H, I3, rfl, q⟩
def lookD (kvs : List (D × D)) (k : Key) : Option D := match kvs with
  | [] => none
  | (a, d) :: r => if keyD a = some k then some d else lookD r k
theorem RK.look {K : PySem.W.Frag} {mg : NW} {r : List Addr} {H : Hp} (k : Key) : ∀ {kvs : List (D × D)} {vs : List (Key × V)}, RK K mg H r kvs vs →
    (lookD kvs k = none ∧ valV vs k = none) ∨ ∃ d v, lookD kvs k = some d ∧ valV vs k = some v ∧ RV K mg H r d v
  | _, _, .nil => .inl ⟨rfl, rfl⟩
  | _, _, .cons (c := c) (d := d) (v := v) e q qs => by
    by_cases h : c = k
    · right
      refine ⟨d, v, ?_, valV_pos h, q⟩
      unfold lookD
      rw [if_pos (by rw [e, h])]
    · have h2 : ¬ some c = some k := fun z => h (Option.some.inj z)
      rw [valV_neg h]
      unfold lookD
      rw [if_neg (by rw [e]; exact h2)]
      exact RK.look k qs
/-- a dict, to be read -/
def dcAt (mh : MH) (n : Nat) : Option (List (D × D)) := match mh[n]? with
  | some (.dic kvs) => some kvs
  | some (.fdi kvs) => some kvs
  | _ => none
theorem RH.dcAt {K : PySem.W.Frag} {mg : NW} {r : List Addr} {H : Hp} {mh : MH} (rh : RH K mg r mh H) {n : Nat} {a : Addr} {kvs : List (D × D)} (e : r[n]? = some a) (m : dcAt mh n = some kvs) : ∃ vs, Rd H a (.dK vs) ∧ RK K mg H r kvs vs := by
  unfold Sm.dcAt at m
  split at m
  · rename_i q
    cases m
    obtain ⟨vs, h1, h2⟩ := rh.at_ n _ a q e
    exact ⟨vs, .inl h1, h2⟩
  · rename_i q
    cases m
    obtain ⟨o, vs, h1, h2⟩ := rh.at_ n _ a q e
    exact ⟨vs, .inr ⟨o, h1⟩, h2⟩
  · cases m
theorem keyD_V {K : PySem.W.Frag} {mg : NW} {r : List Addr} {H : Hp} {d : D} {v : V} {k : Key} (e : keyD d = some k) (q : RV K mg H r d v) : v = kV k := by
  cases q with
  | int i => cases e; rfl
  | str x => cases e; rfl
  | _ => cases e
def inD (mh : MH) (a b : D) : Option Bool := match b with
  | .str z => match a with
    | .str x => match x.cps.toList with
      | [c] => some (decide (c ∈ z.cps.toList))
      | _ => some (!(Builtin.Str.occurrences z x 0 z.length 1).isEmpty)
    | _ => none
  | .tup ds => match pd mh 65 a, mapO (pd mh 64) ds with
    | some p, some qs => if SeqAt.shaped p = true ∧ SeqAt.shaped (.tuple qs) = true then some (qs.any fun z => PyData.eqv z p) else none
    | _, _ => none
  | .ref n => match dcAt mh n with
    | some kvs => match keyD a with
      | some k => some (lookD kvs k).isSome
      | none => none
    | none => match lsAt mh n with
      | some ds => match pd mh 65 a, mapO (pd mh 64) ds with
        | some p, some qs => if SeqAt.shaped p = true ∧ SeqAt.shaped (.list qs) = true then some (qs.any fun z => PyData.eqv z p) else none
        | _, _ => none
      | none => none
  | _ => none
def gIn : MO2 := fun a b h => match inD h a b with
  | some c => .ok (.bl c) h
  | none => .bad
def gNotIn : MO2 := fun a b h => match inD h a b with
  | some c => .ok (.bl (!c)) h
  | none => .bad
def rInS : R2 := fun x y H Q => ∃ i j, x = .str i ∧ y = .str j ∧ Q (.bl (!(Builtin.Str.occurrences j i 0 j.length 1).isEmpty)) H
def rInC : R2 := fun x y H Q => ∃ (c : Nat) (z : Str), x = .str ⟨#[c]⟩ ∧ y = .str z ∧ Q (.bl (decide (c ∈ z.cps.toList))) H
def rInA (K : PySem.W.Frag) : R2 := fun x y H Q => rInC x y H Q ∨ rInS x y H Q ∨ rInT K x y H Q ∨ rInDc x y H Q ∨ rInD K x y H Q
theorem op_inA {X : Cx} (hu : X.A.units + 65 < cLine) : OpR X (compareOp .In) (rInA X.K) := op_in_sign.or (op_in_str.or ((op_inT hu).or ((op_inDc (by omega)).or (op_inD hu))))
theorem inD_ok {K : PySem.W.Frag} {mg : NW} {r : List Addr} {H : Hp} {mh : MH} (rh : RH K mg r mh H) {a b : D} {x y : V} {c : Bool} (e : inD mh a b = some c) (q1 : RV K mg H r a x) (q2 : RV K mg H r b y) :
    (∃ (i : Nat) (z : Str), x = .str ⟨#[i]⟩ ∧ y = .str z ∧ c = decide (i ∈ z.cps.toList)) ∨ (∃ i j, x = .str i ∧ y = .str j ∧ c = !(Builtin.Str.occurrences j i 0 j.length 1).isEmpty) ∨
    (∃ d ds, Dp K H x d ∧ Dp K H y (.tuple ds) ∧ SeqAt.shaped d = true ∧ SeqAt.shaped (.tuple ds) = true ∧ c = ds.any fun z => PyData.eqv z d) ∨
    (∃ p o, y = .ref p ∧ DGet H p x o ∧ c = o.isSome) ∨ ∃ d ds, Dp K H x d ∧ Dp K H y (.list ds) ∧ SeqAt.shaped d = true ∧ SeqAt.shaped (.list ds) = true ∧ c = ds.any fun z => PyData.eqv z d := by
  unfold inD at e
  cases q2 with
  | str z =>
    simp only [] at e
    cases q1 with
    | str w =>
      simp only [] at e
      split at e
      · rename_i c' hc
        cases e
        have hw : w = ⟨#[c']⟩ := by
          have : w.cps = #[c'] := by rw [← Array.toList_inj]; exact hc
          cases w; cases this; rfl
        exact .inl ⟨c', z, by rw [hw], rfl, rfl⟩
      · cases e
        exact .inr (.inl ⟨w, z, rfl, rfl, rfl⟩)
    | _ => cases e
  | @tup ds t vs h1 hd h2 =>
    simp only [] at e
    split at e
    · rename_i p qs e1 e2
      split at e
      · rename_i hs
        cases e
        have hp : pd mh 65 (.tup ds) = some (.tuple qs) := by unfold pd; simp only []; rw [e2]; rfl
        exact .inr (.inr (.inl ⟨p, qs, pd_ok rh _ _ _ _ e1 q1, pd_ok rh _ _ _ _ hp (.tup h1 hd h2), hs.1, hs.2, rfl⟩))
      · cases e
    · cases e
  | @ref n t h1 =>
    simp only [] at e
    split at e
    · rename_i kvs e0
      obtain ⟨vs, z1, z2⟩ := rh.dcAt h1 e0
      split at e
      · rename_i k ek
        cases e
        refine .inr (.inr (.inr (.inl ⟨t, valV vs k, rfl, .inl ⟨vs, k, z1, keyD_V ek q1, rfl⟩, ?_⟩)))
        rcases z2.look k with ⟨l1, l2⟩ | ⟨d, v, l1, l2, _⟩ <;> rw [l1, l2] <;> rfl
      · cases e
    · split at e
      · rename_i ds el
        split at e
        · rename_i p qs e1 e2
          split at e
          · rename_i hs
            cases e
            have hp : pd mh 65 (.ref n) = some (.list qs) := by unfold pd; simp only []; rw [el]; simp only []; rw [e2]; rfl
            exact .inr (.inr (.inr (.inr ⟨p, qs, pd_ok rh _ _ _ _ e1 q1, pd_ok rh _ _ _ _ hp (.ref h1), hs.1, hs.2, rfl⟩)))
          · cases e
        · cases e
      · cases e
  | _ => cases e
theorem gIn_ok {K : PySem.W.Frag} {mg : NW} : Op2 K mg (rInA K) gIn := by
  intro W r H mh σ d1 d2 x y Q rh q1 q2 p
  unfold gIn at p
  split at p
  · rename_i c e
    have hq : Q (.bl c) H := p r H _ .refl rh (.bl _)
    rcases inD_ok rh e q1 q2 with ⟨i, z, h1, h2, h3⟩ | ⟨i, j, h1, h2, h3⟩ | ⟨d, ds, h1, h2, h3, h4, h5⟩ | ⟨a, o, h1, h2, h3⟩ | ⟨d, ds, h1, h2, h3, h4, h5⟩
    · exact .inl ⟨i, z, h1, h2, by rw [← h3]; exact hq⟩
    · exact .inr (.inl ⟨i, j, h1, h2, by rw [← h3]; exact hq⟩)
    · exact .inr (.inr (.inl ⟨d, ds, h1, h2, h3, h4, by rw [← h5]; exact hq⟩))
    · exact .inr (.inr (.inr (.inl ⟨a, o, h1, h2, by rw [← h3]; exact hq⟩)))
    · exact .inr (.inr (.inr (.inr ⟨d, ds, h1, h2, h3, h4, by rw [← h5]; exact hq⟩)))
  · exact p.elim
def rIxDc : R2 := fun x y H Q => ∃ a v, x = .ref a ∧ DGet H a y (some v) ∧ Q v H
theorem ix_dc {X : Cx} (hu : X.A.units + 1 < cLine) : IxR X rIxDc := by
  intro value slice pins s σ H x y v u Q I rx ry h hs
  obtain ⟨a, z, rfl, g, q⟩ := h
  cases rx
  have hT := dict_typeIs I g
  have h2 : wpAny (model X.prog X.w) X.A (getItem (.ref a) u) (EP X pins σ Q) X.xe s := d_getItem hu I g ry fun w' s3 I3 rw' => ⟨z, H, I3, rw', q⟩
  unfold subscriptTail
  refine wpAny_bind ?_
  rw [getitemInPython_of_ne hT.not_modules]
  refine wpAny_bind (wpAny_specialOf hT PySem.F.slot_dict_getitem.lookup ?_)
  have fin : wpAny (model X.prog X.w) X.A (subscripted slice false (.ref a) u) (fun r s₃ => wpAny (model X.prog X.w) X.A (letTemporaryGo value (.ref a) r >>= fun _ => pure r) (EP X pins σ Q) X.xe s₃) X.xe s := by
    rw [hs]
    exact wpAny_operating (wpAny_mono h2 (fun r s₃ h₃ => wpAny_bind (wpAny_letTemporaryGo (wpAny_pure h₃))) fun _ _ x => x)
  first
    | exact wpAny_pure (wpAny_bind fin)
    | exact wpAny_bind (wpAny_pure (wpAny_bind fin))
    | exact wpAny_bind fin
def rIxA (K : PySem.W.Frag) : R2 := fun x y H Q => rIx K x y H Q ∨ rIxDc x y H Q
theorem ix_A {X : Cx} (hu : X.A.units + 1 < cLine) : IxR X (rIxA X.K) := ix_seq.or (ix_dc hu)
def gIx : MO2 := fun a b h => match a with
  | .tup ds => match b with
    | .int i => match atI ds i with
      | some d => .ok d h
      | none => .bad
    | _ => .bad
  | .str z => match b with
    | .int i => if z.length ≤ sizeLine then match atI z.cps.toList i with
      | some c => .ok (.str ⟨#[c]⟩) h
      | none => .bad
      else .bad
    | _ => .bad
  | .ref n => match dcAt h n with
    | some kvs => match keyD b with
      | some k => match lookD kvs k with
        | some d => .ok d h
        | none => .bad
      | none => .bad
    | none => match lsAt h n with
      | some ds => match b with
        | .int i => match atI ds i with
          | some d => .ok d h
          | none => .bad
        | _ => .bad
      | none => .bad
  | _ => .bad
theorem RVs.atI {K : PySem.W.Frag} {mg : NW} {r : List Addr} {H : Hp} {ds : List D} {vs : List V} {i : Int} {d : D} (h : RVs K mg H r ds vs) (e : atI ds i = some d) : ∃ v, atI vs i = some v ∧ RV K mg H r d v := by
  unfold L2.atI at e ⊢
  rw [h.len] at e
  cases z : ixN vs.length i with
  | none => rw [z] at e; cases e
  | some j => rw [z] at e; exact h.get e
theorem gIx_ok {K : PySem.W.Frag} {mg : NW} : Op2 K mg (rIxA K) gIx := by
  intro W r H mh σ d1 d2 x y Q rh q1 q2 p
  unfold gIx at p
  cases q1 with
  | @tup ds a vs h1 _ h2 =>
    simp only [] at p
    cases q2 with
    | int i =>
      simp only [] at p
      split at p
      · rename_i d e
        obtain ⟨v, z1, z2⟩ := h2.atI e
        exact .inl (.inr (.inl ⟨a, vs, i, v, rfl, rfl, h1, z1, p r H _ .refl rh z2⟩))
      · exact p.elim
    | _ => exact p.elim
  | str z =>
    simp only [] at p
    cases q2 with
    | int i =>
      simp only [] at p
      split at p
      · rename_i hz
        split at p
        · rename_i c e
          exact .inl (.inr (.inr ⟨z, i, c, rfl, rfl, hz, e, p r H _ .refl rh (.str _)⟩))
        · exact p.elim
      · exact p.elim
    | _ => exact p.elim
  | @ref n a e1 =>
    simp only [] at p
    split at p
    · rename_i kvs e0
      obtain ⟨vs, z1, z2⟩ := rh.dcAt e1 e0
      split at p
      · rename_i k ek
        split at p
        · rename_i d el
          rcases z2.look k with ⟨l1, l2⟩ | ⟨d', v, l1, l2, l3⟩
          · rw [l1] at el; cases el
          · rw [l1] at el; cases el
            exact .inr ⟨a, v, rfl, .inl ⟨vs, k, z1, keyD_V ek q2, l2.symm⟩, p r H _ .refl rh l3⟩
        · exact p.elim
      · exact p.elim
    · split at p
      · rename_i ds el
        obtain ⟨vs, z1, z2⟩ := rh.lsAt e1 el
        cases q2 with
        | int i =>
          simp only [] at p
          split at p
          · rename_i d e
            obtain ⟨v, y1, y2⟩ := z2.atI e
            exact .inl (.inl ⟨a, vs, i, v, rfl, rfl, z1, y1, p r H _ .refl rh y2⟩)
          · exact p.elim
        | _ => exact p.elim
      · exact p.elim
  | _ => exact p.elim
end Sm
namespace Sm
open PySem PySem.Spec PyProof.Rows L2
abbrev MP := MS → MH → Out (Option Int)
def pNo : MP := fun _ h => .ok none h
def pAt (m : ME) : MP := fun ms h => (m ms h).bind fun d h1 => match d with
  | .int i => .ok (some i) h1
  | _ => .bad
abbrev SPo (X : Cx) (W : WX) (e : Option Expr) (m : MP) : Prop := PO X e (Sim X.K X.gw W (fun _ _ (a b : Option Int) => a = b) m)
section
variable {X : Cx} {W : WX} {m : ME} {e : Expr} {lo hi : Option Expr} {ml mu : MP} {pos p2 : Pos}
theorem sp_no : SPo X W none pNo := ⟨fun pins s σ H Q I ⟨r, ms, mh, rs, rh, p⟩ => po_none.run pins s σ H Q I (p r H none .refl rh rfl)⟩
theorem sp_at (h : SE X W e m) : SPo X W (some e) (pAt m) := ⟨fun pins s σ H Q I ⟨r, ms, mh, rs, rh, p⟩ => by
  refine (po_some h).run pins s σ H Q I ⟨r, ms, mh, rs, rh, p.bind fun d h1 r1 H1 x st1 rh1 rv1 p1 => ?_⟩
  cases rv1 with
  | int i => exact ⟨i, rfl, p1 r1 H1 _ .refl rh1 rfl⟩
  | _ => exact p1.elim⟩
def cutL (xs : List D) (lo hi : Option Int) : List D := (xs.drop (HT.sIx xs.length 0 lo)).take (HT.sIx xs.length xs.length hi - HT.sIx xs.length 0 lo)
theorem RVs.cut {K : PySem.W.Frag} {mg : NW} {r : List Addr} {H : Hp} {xs : List D} {vs : List V} (h : RVs K mg H r xs vs) (lo hi : Option Int) : RVs K mg H r (cutL xs lo hi) (cutV vs lo hi) := by
  unfold cutL cutV
  rw [h.len]
  exact (h.drop _).take _
theorem cutL_whole {xs : List D} {lo hi : Option Int} (h : HT.sIx xs.length 0 lo = 0 ∧ HT.sIx xs.length xs.length hi = xs.length) : cutL xs lo hi = xs := by
  unfold cutL
  rw [h.1, h.2, Nat.sub_zero, List.drop_zero, List.take_length]
def rSlX (K : PySem.W.Frag) : V → Option Int → Option Int → Hp → VK → Prop := fun x lo hi H Q => rSlL K x lo hi H Q ∨ rSlN K x lo hi H Q ∨ rSlS x lo hi H Q
theorem sl_X {X : Cx} : SlR X (rSlX X.K) := sl_list.or (sl_tupN.or sl_str)
def gSl (d : D) (lo hi : Option Int) (h : MH) : Out D := match d with
  | .tup ds => .ok (.tup (cutL ds lo hi)) h
  | .str z => if z.length ≤ sizeLine then .ok (.str (cutS z lo hi)) h else .bad
  | .ref n => match lsAt h n with
    | some ds => .ok (.ref h.length) (h ++ [.lst (cutL ds lo hi)])
    | none => .bad
  | _ => .bad
def mSl (m : ME) (ml mu : MP) : ME := fun ms h => (m ms h).bind fun d h1 => (ml ms h1).bind fun lo h2 => (mu ms h2).bind fun hi h3 => gSl d lo hi h3
theorem s_slice (he : SE X W e m) (hl : SPo X W lo ml) (hu : SPo X W hi mu) : SE X W (.Subscript e (.Slice lo hi none p2) pos) (mSl m ml mu) := by
  refine peImp (pe_slice sl_X he hl hu) fun σ H Q ⟨r, ms, mh, rs, rh, p⟩ => ?_
  refine ⟨r, ms, mh, rs, rh, p.bind fun d h1 r1 H1 x st1 rh1 rv1 p1 => ?_⟩
  refine ⟨r1, ms, h1, rs.mono st1, rh1, p1.bind fun lo h2 r2 H2 lo' st2 rh2 e2 p2 => ?_⟩
  refine ⟨r2, ms, h2, rs.mono (st1.trans st2), rh2, p2.bind fun hi h3 r3 H3 hi' st3 rh3 e3 p3 => ?_⟩
  subst e2 e3
  have rv := rv1.mono (st2.trans st3)
  unfold gSl at p3
  cases rv with
  | @tup ds a vs z1 d1 z2 =>
    refine .inr (.inl ⟨a, vs, rfl, z1, fun w => ?_, fun w q o hq ho => ?_⟩)
    · rw [← z2.len] at w
      simp only [cutL_whole w] at p3
      exact p3 r3 H3 _ .refl rh3 (.tup z1 d1 z2)
    · exact p3 r3 _ _ (stp_new hq) (rh3.other hq) (rv_newT hq ho (z2.cut lo hi))
  | str z =>
    simp only [] at p3
    split at p3
    · rename_i hz
      exact .inr (.inr ⟨z, rfl, hz, p3 r3 H3 _ .refl rh3 (.str _)⟩)
    · exact p3.elim
  | @ref n a e1 =>
    simp only [] at p3
    split at p3
    · rename_i ds el
      obtain ⟨vs, z1, z2⟩ := rh3.lsAt e1 el
      refine .inl ⟨a, vs, rfl, z1, fun q hq => ?_⟩
      obtain ⟨y1, y2, y3⟩ := lst_new rh3 hq (z2.cut lo hi)
      exact p3 _ _ _ y1 y2 y3
    · exact p3.elim
  | _ => exact p3.elim
end
theorem neq_of {x y : Str} (h : (x == y) = false) : x ≠ y := fun e => by rw [e, beq_self_eq_true] at h; cases h
abbrev MF := List D → MH → Out D
def mCall (f : MF) (n : MA) : ME := fun ms h => (n ms h).bind fun ds h1 => f ds h1
def OpC (K : PySem.W.Frag) (mg : NW) (rel : List V → Hp → VK → Prop) (f : MF) : Prop :=
  ∀ (W : WX) (r : List Addr) (H : Hp) (mh : MH) (σ : L2.St) (ds : List D) (vs : List V) (Q : VK), RH K mg r mh H → RVs K mg H r ds vs → Post K mg W (RV K mg) r H σ (f ds mh) Q → rel vs H Q
section
variable {X : Cx} {W : WX} {n : MA} {e o : Expr} {es : List Expr} {pos p apos cpos : Pos} {x : Str} {id T : String} {f : MF} {rel : List V → Hp → VK → Prop}
theorem call_run (hs : OpC X.K X.gw rel f) {σ : L2.St} {H : Hp} {Q : VK} (h : Sim X.K X.gw W (RV X.K X.gw) (mCall f n) σ H Q) : tCB rel (Sim X.K X.gw W (RVs X.K X.gw) n) σ H Q := by
  obtain ⟨r, ms, mh, rs, rh, p⟩ := h
  refine ⟨r, ms, mh, rs, rh, p.bind fun ds h1 r1 H1 vs st1 rh1 rvs p1 => ?_⟩
  exact hs W r1 H1 h1 σ ds vs Q rh1 rvs p1
theorem s_callB (hc : CallR X (.builtin id) rel) (hs : OpC X.K X.gw rel f) (hm : X.mg x = none) (ha : SA X W (e :: es) n) (hg : X.env.kindOf x = some .globalImplicit := by kernel_rfl) (hv : bootBuiltins x = some (.builtin id) := by decide +kernel) (hn : (x == ("__name__" : Str)) = false := by kernel_rfl) (hdb : (x == ("__debug__" : Str)) = false := by kernel_rfl)
    (he : starEach (e :: es) X.env = (false, eval e X.env) :: starEach es X.env := by kernel_rfl) (hpl : (backTo pos (starEach es X.env)).any (·.1) = false := by kernel_rfl) : SE X W (.Call (.Name x p) (e :: es) [] pos) (mCall f n) :=
  peImp (pe_callB hc hg hm hv ha (neq_of hn) hdb he hpl) fun _ _ _ h => call_run hs h
theorem s_callT (hc : CallR X (.type T) rel) (hs : OpC X.K X.gw rel f) (hm : X.mg x = none) (ha : SA X W (e :: es) n) (hg : X.env.kindOf x = some .globalImplicit := by kernel_rfl) (hv : bootBuiltins x = some (.type T) := by decide +kernel) (hn : (x == ("__name__" : Str)) = false := by kernel_rfl) (hdb : (x == ("__debug__" : Str)) = false := by kernel_rfl)
    (he : starEach (e :: es) X.env = (false, eval e X.env) :: starEach es X.env := by kernel_rfl) (hpl : (backTo pos (starEach es X.env)).any (·.1) = false := by kernel_rfl) : SE X W (.Call (.Name x p) (e :: es) [] pos) (mCall f n) :=
  peImp (pe_callTy hc hg hm hv ha (neq_of hn) hdb he hpl) fun _ _ _ h => call_run hs h
def isTy (T : String) (h : MH) (d : D) : Bool := match d with
  | .str _ => T == "str"
  | .ref n => (T == "list" && (lsAt h n).isSome) || (T == "dict" && match h[n]? with
    | some (.dic _) => true
    | _ => false)
  | _ => false
abbrev MM := D → List D → MH → Out D
def mMeth (T : String) (g : MM) (o : ME) (n : MA) : ME := fun ms h => (o ms h).bind fun d h1 => if isTy T h1 d = true then (n ms h1).bind fun ds h2 => g d ds h2 else .bad
def OpM (K : PySem.W.Frag) (mg : NW) (rel : V → List V → Hp → VK → Prop) (g : MM) : Prop :=
  ∀ (W : WX) (r : List Addr) (H : Hp) (mh : MH) (σ : L2.St) (d : D) (x : V) (ds : List D) (vs : List V) (Q : VK), RH K mg r mh H → RV K mg H r d x → RVs K mg H r ds vs → Post K mg W (RV K mg) r H σ (g d ds mh) Q → rel x vs H Q
theorem isTy_ok {K : PySem.W.Frag} {mg : NW} {r : List Addr} {H : Hp} {mh : MH} {d : D} {v : V} (rh : RH K mg r mh H) (q : RV K mg H r d v) (h : isTy T mh d = true) : tyV K T v H := by
  cases q with
  | str z => exact eq_of_beq h
  | @ref n a e =>
    unfold isTy at h
    rcases Bool.or_eq_true_iff.mp h with h | h
    · obtain ⟨h1, h2⟩ := Bool.and_eq_true_iff.mp h
      cases el : lsAt mh n with
      | none => rw [el] at h2; cases h2
      | some xs =>
        obtain ⟨vs, z1, z2⟩ := rh.lsAt e el
        exact .inl ⟨eq_of_beq h1, vs, z1⟩
    · obtain ⟨h1, h2⟩ := Bool.and_eq_true_iff.mp h
      split at h2
      · rename_i kvs ed
        obtain ⟨vs, z1, z2⟩ := rh.at_ n _ a ed e
        exact .inr (.inr (.inl ⟨eq_of_beq h1, .inl ⟨vs, z1⟩⟩))
      · cases h2
  | _ => cases h
theorem s_meth {name : Str} {mo : ME} {g : MM} {rel : V → List V → Hp → VK → Prop} (pa : PlainAttrs T) (slot : Slot T name id) (hty : typeOf (.builtin id) = pure (.type "method_descriptor")) (hm : MtR X id rel) (hs : OpM X.K X.gw rel g) (ho : SE X W o mo) (ha : SA X W (e :: es) n)
    (hbase : attributeBase o name X.env (eval o X.env) = eval o X.env := by kernel_rfl)
    (hfew : ((backTo cpos (starEach (e :: es) X.env)).all (fun x => !x.1) && (backToKw cpos (keywordEach [] X.env)).all (fun x => x.1.isSome)
      && decide ((e :: es).length + ([] : List Keyword).length + (if ([] : List Keyword).isEmpty then 0 else 1) < 30)) = true := by kernel_rfl)
    (hline : (apos.endLine == cpos.line) = true := by kernel_rfl) (hst : starEach (e :: es) X.env = (false, eval e X.env) :: starEach es X.env := by kernel_rfl) (hplain : (backTo cpos (starEach es X.env)).any (·.1) = false := by kernel_rfl) :
    SE X W (.Call (.Attribute o name apos) (e :: es) [] cpos) (mMeth T g mo n) := by
  refine peImp (pe_bm pa slot hty hm ho ha hbase hfew hline hst hplain) fun σ H Q ⟨r, ms, mh, rs, rh, p⟩ => ?_
  refine ⟨r, ms, mh, rs, rh, p.bind fun d h1 r1 H1 x st1 rh1 rv1 p1 => ?_⟩
  split at p1
  · rename_i ht
    refine ⟨isTy_ok rh1 rv1 ht, ?_⟩
    refine ⟨r1, ms, h1, rs.mono st1, rh1, p1.bind fun ds h2 r2 H2 vs st2 rh2 rvs p2 => ?_⟩
    exact hs W r2 H2 h2 σ d x ds vs Q rh2 (rv1.mono st2) rvs p2
  · exact p1.elim
end
end Sm
namespace Sm
open PySem PySem.Spec PyProof.Rows L2
section
variable {K : PySem.W.Frag} {mg : NW} {r : List Addr} {H : Hp} {mh : MH}
theorem RVs.one {d : D} {vs : List V} (h : RVs K mg H r [d] vs) : ∃ v, vs = [v] ∧ RV K mg H r d v := by
  cases h with | cons h1 h2 => cases h2; exact ⟨_, rfl, h1⟩
theorem RVs.two {d e : D} {vs : List V} (h : RVs K mg H r [d, e] vs) : ∃ v w, vs = [v, w] ∧ RV K mg H r d v ∧ RV K mg H r e w := by
  cases h with | cons h1 h2 => cases h2 with | cons h2 h3 => cases h3; exact ⟨_, _, rfl, h1, h2⟩
def intsD : List D → Option (List Int)
  | [] => some []
  | .int i :: r => (intsD r).map (i :: ·)
  | _ :: _ => none
def blsD : List D → Option (List Bool)
  | [] => some []
  | .bl i :: r => (blsD r).map (i :: ·)
  | _ :: _ => none
theorem intsD_eq : ∀ {ds : List D} {ns : List Int}, intsD ds = some ns → ds = ns.map D.int
  | [], ns, h => by cases h; rfl
  | .int i :: r, ns, h => by
    unfold intsD at h
    cases e : intsD r with
    | none => rw [e] at h; cases h
    | some ks => rw [e] at h; cases h; rw [List.map_cons, intsD_eq e]
  | .non :: _, _, h | .bl _ :: _, _, h | .str _ :: _, _, h | .tup _ :: _, _, h | .ref _ :: _, _, h | .ty _ :: _, _, h | .glo _ :: _, _, h => by cases h
theorem blsD_eq : ∀ {ds : List D} {ns : List Bool}, blsD ds = some ns → ds = ns.map D.bl
  | [], ns, h => by cases h; rfl
  | .bl i :: r, ns, h => by
    unfold blsD at h
    cases e : blsD r with
    | none => rw [e] at h; cases h
    | some ks => rw [e] at h; cases h; rw [List.map_cons, blsD_eq e]
  | .non :: _, _, h | .str _ :: _, _, h | .int _ :: _, _, h | .tup _ :: _, _, h | .ref _ :: _, _, h | .ty _ :: _, _, h | .glo _ :: _, _, h => by cases h
theorem intsD_map : ∀ ns : List Int, intsD (ns.map D.int) = some ns
  | [] => rfl
  | i :: r => by rw [List.map_cons]; unfold intsD; rw [intsD_map r]; rfl
theorem blsD_map : ∀ ns : List Bool, blsD (ns.map D.bl) = some ns
  | [] => rfl
  | i :: r => by rw [List.map_cons]; unfold blsD; rw [blsD_map r]; rfl
theorem RVs.ints : ∀ {ns : List Int} {vs : List V}, RVs K mg H r (ns.map D.int) vs → vs = ns.map V.int
  | [], _, h => by cases h; rfl
  | i :: ns, _, h => by cases h with | cons h1 h2 => cases h1; rw [RVs.ints h2]; rfl
theorem RVs.bls : ∀ {ns : List Bool} {vs : List V}, RVs K mg H r (ns.map D.bl) vs → vs = ns.map V.bl
  | [], _, h => by cases h; rfl
  | i :: ns, _, h => by cases h with | cons h1 h2 => cases h1; rw [RVs.bls h2]; rfl
end
/-- the items of a list or a tuple -/
def sqD (h : MH) (d : D) : Option (List D) := match d with
  | .tup ds => some ds
  | .ref n => lsAt h n
  | _ => none
theorem sqD_ok {K : PySem.W.Frag} {mg : NW} {r : List Addr} {H : Hp} {mh : MH} {d : D} {v : V} {ds : List D} (rh : RH K mg r mh H) (q : RV K mg H r d v) (e : sqD mh d = some ds) :
    ∃ p vs, v = .ref p ∧ (SqL K H p vs ∨ SqT K H p vs) ∧ RVs K mg H r ds vs := by
  cases q with
  | @tup es a vs h1 _ h2 => cases e; exact ⟨a, vs, rfl, .inr h1, h2⟩
  | @ref n a h1 =>
    obtain ⟨vs, z1, z2⟩ := rh.lsAt h1 e
    exact ⟨a, vs, rfl, .inl z1, z2⟩
  | _ => cases e
def fLen : MF := fun ds h => match ds with
  | [d] => match d with
    | .str z => if z.length ≤ sizeLine then .ok (.int z.length) h else .bad
    | d => match sqD h d with
      | some xs => .ok (.int xs.length) h
      | none => match d with
        | .ref n => match dcAt h n with
          | some kvs => .ok (.int kvs.length) h
          | none => .bad
        | _ => .bad
  | _ => .bad
def rLenDc : List V → Hp → VK → Prop := fun xs H Q => ∃ a kvs, xs = [V.ref a] ∧ Rd H a (.dK kvs) ∧ Q (.int kvs.length) H
theorem call_lenDc {X : Cx} : CallR X (.builtin "len") rLenDc := by
  intro pins s σ H xs us Q I r h
  obtain ⟨a, kvs, rfl, ha, q⟩ := h
  obtain ⟨u, rfl, ru⟩ := vals1 r
  cases ru
  exact d_len I ha fun t s' I' => ⟨V.int kvs.length, H, I', ⟨t, rfl⟩, q⟩
def rLenQ (K : PySem.W.Frag) : List V → Hp → VK → Prop := fun xs H Q => ∃ p ys, xs = [.ref p] ∧ (SqL K H p ys ∨ SqT K H p ys) ∧ Q (.int ys.length) H
def rLenX : List V → Hp → VK → Prop := fun xs H Q => ∃ z, xs = [.str z] ∧ z.length ≤ sizeLine ∧ Q (.int z.length) H
def rLenA (K : PySem.W.Frag) : List V → Hp → VK → Prop := fun xs H Q => rLenQ K xs H Q ∨ rLenX xs H Q ∨ rLenDc xs H Q
theorem c_len {X : Cx} : CallR X (.builtin "len") (rLenA X.K) := CallR.or call_len_seq (CallR.or call_len_str call_lenDc)
theorem RK.len {K : PySem.W.Frag} {mg : NW} {r : List Addr} {H : Hp} : ∀ {ds : List (D × D)} {vs : List (Key × V)}, RK K mg H r ds vs → ds.length = vs.length
  | _, _, .nil => rfl
  | _, _, .cons _ _ hs => by rw [List.length_cons, List.length_cons, RK.len hs]
theorem fLen_ok {K : PySem.W.Frag} {mg : NW} : OpC K mg (rLenA K) fLen := by
  intro W r H mh σ ds vs Q rh q p
  unfold fLen at p
  split at p
  · rename_i d
    obtain ⟨v, rfl, qq⟩ := q.one
    split at p
    · rename_i z
      split at p
      · rename_i hz
        cases qq
        exact .inr (.inl ⟨z, rfl, hz, p r H _ .refl rh (.int _)⟩)
      · exact p.elim
    · split at p
      · rename_i xs e
        obtain ⟨a, ws, rfl, h1, h2⟩ := sqD_ok rh qq e
        exact .inl ⟨a, ws, rfl, h1, by rw [← h2.len]; exact p r H _ .refl rh (.int _)⟩
      · split at p
        · rename_i n _ _
          split at p
          · rename_i kvs e
            cases qq with
            | ref h1 =>
              obtain ⟨ws, z1, z2⟩ := rh.dcAt h1 e
              exact .inr (.inr ⟨_, ws, rfl, z1, by rw [← z2.len]; exact p r H _ .refl rh (.int _)⟩)
          · exact p.elim
        · exact p.elim
  · exact p.elim
theorem RK.keys {K : PySem.W.Frag} {mg : NW} {r : List Addr} {H : Hp} : ∀ {ds : List (D × D)} {vs : List (Key × V)}, RK K mg H r ds vs → RVs K mg H r (ds.map (·.1)) (vs.map fun kv => kV kv.1)
  | _, _, .nil => .nil
  | _, _, .cons (k := k) (c := c) e _ hs => by
    refine .cons ?_ (RK.keys hs)
    cases k with
    | int i => cases e; exact .int i
    | str x => cases e; exact .str x
    | _ => cases e
def fTuple : MF := fun ds h => match ds with
  | [.tup ds] => .ok (.tup ds) h
  | [.ref n] => match lsAt h n with
    | some xs => .ok (.tup xs) h
    | none => .bad
  | _ => .bad
abbrev rTupQ (K : PySem.W.Frag) : List V → Hp → VK → Prop := rTupN K
theorem c_tuple {X : Cx} : CallR X (.type "tuple") (rTupQ X.K) := c_tupleN
theorem fTuple_ok {K : PySem.W.Frag} {mg : NW} : OpC K mg (rTupQ K) fTuple := by
  intro W r H mh σ ds vs Q rh q p
  unfold fTuple at p
  split at p
  · obtain ⟨v, rfl, qq⟩ := q.one
    cases qq with
    | tup h1 hd h2 => exact ⟨_, _, rfl, .inr ⟨h1, p r H _ .refl rh (.tup h1 hd h2)⟩⟩
  · obtain ⟨v, rfl, qq⟩ := q.one
    split at p
    · rename_i xs e
      cases qq with
      | ref h1 =>
        obtain ⟨ws, z1, z2⟩ := rh.lsAt h1 e
        exact ⟨_, ws, rfl, .inl ⟨z1, fun l o hl ho => p r _ _ (stp_new hl) (rh.other hl) (rv_newT hl ho z2)⟩⟩
    · exact p.elim
  · exact p.elim
def fInt : MF := fun ds h => match ds with
  | [.int i] => .ok (.int i) h
  | [.bl b] => .ok (.int (if b then 1 else 0)) h
  | _ => .bad
def rInt1 : List V → Hp → VK → Prop := fun xs H Q => (∃ i, xs = [.int i] ∧ Q (.int i) H) ∨ ∃ k, xs = [.bl k] ∧ Q (.int (if k then 1 else 0)) H
theorem c_int {X : Cx} : CallR X (.type "int") rInt1 := call_int1
theorem fInt_ok {K : PySem.W.Frag} {mg : NW} : OpC K mg rInt1 fInt := by
  intro W r H mh σ ds vs Q rh q p
  unfold fInt at p
  split at p
  · obtain ⟨v, rfl, qq⟩ := q.one
    cases qq
    exact .inl ⟨_, rfl, p r H _ .refl rh (.int _)⟩
  · obtain ⟨v, rfl, qq⟩ := q.one
    cases qq
    exact .inr ⟨_, rfl, p r H _ .refl rh (.int _)⟩
  · exact p.elim
def fAbs : MF := fun ds h => match ds with
  | [.int i] => .ok (.int (if i < 0 then -i else i)) h
  | _ => .bad
def rAbs1 : List V → Hp → VK → Prop := fun xs H Q => ∃ i, xs = [.int i] ∧ Q (.int (if i < 0 then -i else i)) H
theorem c_abs {X : Cx} : CallR X (.builtin "abs") rAbs1 := call_abs
theorem fAbs_ok {K : PySem.W.Frag} {mg : NW} : OpC K mg rAbs1 fAbs := by
  intro W r H mh σ ds vs Q rh q p
  unfold fAbs at p
  split at p
  · obtain ⟨v, rfl, qq⟩ := q.one
    cases qq
    exact ⟨_, rfl, p r H _ .refl rh (.int _)⟩
  · exact p.elim
def minI : Int → List Int → Int
  | m, [] => m
  | m, x :: r => minI (if x < m then x else m) r
theorem minI_spec : ∀ (r : List Int) (m : Int), (minI m r = m ∨ minI m r ∈ r) ∧ minI m r ≤ m ∧ ∀ y ∈ r, minI m r ≤ y
  | [], m => ⟨.inl rfl, Int.le_refl _, fun _ h => nomatch h⟩
  | x :: r, m => by
    unfold minI
    obtain ⟨h1, h2, h3⟩ := minI_spec r (if x < m then x else m)
    split at h1 <;> split at h2 <;> rename_i c1 c2 <;> try contradiction
    all_goals simp only [c1, if_true, if_false] at h1 h2 h3 ⊢
    · refine ⟨.inr (by rcases h1 with h1 | h1; rw [h1]; exact List.mem_cons_self; exact List.mem_cons_of_mem _ h1), by omega, fun y hy => ?_⟩
      rcases List.mem_cons.mp hy with rfl | hy
      · exact h2
      · exact h3 y hy
    · refine ⟨by rcases h1 with h1 | h1; exact .inl h1; exact .inr (List.mem_cons_of_mem _ h1), h2, fun y hy => ?_⟩
      rcases List.mem_cons.mp hy with rfl | hy
      · omega
      · exact h3 y hy
/-- min, max of a list of ints, or of two -/
def fMin : MF := fun ds h => match ds with
  | [.int i, .int j] => .ok (.int (if j < i then j else i)) h
  | [.ref n] => match lsAt h n with
    | some xs => match intsD xs with
      | some (i :: r) => .ok (.int (minI i r)) h
      | _ => .bad
    | none => .bad
  | _ => .bad
def rMinA (K : PySem.W.Frag) : List V → Hp → VK → Prop := fun xs H Q => (∃ i j, xs = [.int i, .int j] ∧ Q (.int (if j < i then j else i)) H) ∨ rMin K xs H Q
theorem c_min {X : Cx} (hc : X.calm = true) : CallR X (.builtin "min") (rMinA X.K) := CallR.or (call_min2 hc) (cr_min hc)
theorem fMin_ok {K : PySem.W.Frag} {mg : NW} : OpC K mg (rMinA K) fMin := by
  intro W r H mh σ ds vs Q rh q p
  unfold fMin at p
  split at p
  · obtain ⟨v, w, rfl, q1, q2⟩ := q.two
    cases q1; cases q2
    exact .inl ⟨_, _, rfl, p r H _ .refl rh (.int _)⟩
  · obtain ⟨v, rfl, qq⟩ := q.one
    split at p
    · rename_i xs e
      split at p
      · rename_i i rr e2
        cases qq with
        | ref h1 =>
          obtain ⟨ws, z1, z2⟩ := rh.lsAt h1 e
          rw [intsD_eq e2] at z2
          rw [z2.ints] at z1
          refine .inr ⟨_, i :: rr, rfl, z1, by simp, fun m hm hl => ?_⟩
          obtain ⟨h1, h2, h3⟩ := minI_spec rr i
          have hh : m = minI i rr := by
            have a1 : m ≤ minI i rr := by
              rcases h1 with h1 | h1
              · rw [h1]; exact hl _ List.mem_cons_self
              · exact hl _ (List.mem_cons_of_mem _ h1)
            have a2 : minI i rr ≤ m := by
              rcases List.mem_cons.mp hm with rfl | hm
              · exact h2
              · exact h3 _ hm
            omega
          rw [hh]
          exact p r H _ .refl rh (.int _)
      · exact p.elim
    · exact p.elim
  · exact p.elim
def onL (h : MH) (ds : List D) : Option (List D) := match ds with
  | [.ref n] => lsAt h n
  | _ => none
theorem onL_ok {K : PySem.W.Frag} {mg : NW} {r : List Addr} {H : Hp} {mh : MH} {ds xs : List D} {vs : List V} (rh : RH K mg r mh H) (q : RVs K mg H r ds vs) (e : onL mh ds = some xs) : ∃ a ws, vs = [V.ref a] ∧ SqL K H a ws ∧ RVs K mg H r xs ws := by
  unfold onL at e
  split at e
  · obtain ⟨v, rfl, qq⟩ := q.one
    cases qq with
    | ref h1 =>
      obtain ⟨ws, z1, z2⟩ := rh.lsAt h1 e
      exact ⟨_, ws, rfl, z1, z2⟩
  · cases e
def fAll : MF := fun ds h => match (onL h ds).bind blsD with
  | some bs => .ok (.bl (bs.all id)) h
  | none => .bad
theorem bindO {α β : Type} {o : Option α} {f : α → Option β} {b : β} (h : o.bind f = some b) : ∃ a, o = some a ∧ f a = some b := by
  cases o with
  | none => cases h
  | some a => exact ⟨a, rfl, h⟩
theorem fAll_ok {K : PySem.W.Frag} {mg : NW} : OpC K mg (rAll K) fAll := by
  intro W r H mh σ ds vs Q rh q p
  unfold fAll at p
  split at p
  · rename_i ns e
    obtain ⟨xs, e1, e2⟩ := bindO e
    obtain ⟨a, ws, rfl, z1, z2⟩ := onL_ok rh q e1
    rw [blsD_eq e2] at z2
    rw [z2.bls] at z1
    exact ⟨a, ns, rfl, z1, p r H _ .refl rh (.bl _)⟩
  · exact p.elim
end Sm
namespace Sm
open PySem PySem.Spec PyProof.Rows L2
/-- a list is written -/
theorem lst_set {K : PySem.W.Frag} {mg : NW} {r : List Addr} {H : Hp} {mh : MH} {n : Nat} {a : Addr} {xs ys : List D} {vs ws : List V} (rh : RH K mg r mh H) (e : r[n]? = some a) (m : mh[n]? = some (.lst xs)) (h : H a = some (.lst vs)) (q : RVs K mg H r ys ws) :
    Stp r H r (upd H a (.lst ws)) ∧ RH K mg r (mh.set n (.lst ys)) (upd H a (.lst ws)) := by
  have st : Stp r H r (upd H a (.lst ws)) := stp_set h (fun _ z => nomatch z) (fun _ _ z => nomatch z)
  exact ⟨st, rh.set m e rfl h (fun _ z => nomatch z) (fun _ _ z => nomatch z) (fun _ _ z => nomatch z) rfl ⟨ws, upd_same, q.mono st⟩⟩
def gAppend : MM := fun d ds h => match d, ds with
  | .ref n, [y] => match h[n]? with
    | some (.lst xs) => if xs.length < sizeLine then .ok .non (h.set n (.lst (xs ++ [y]))) else .bad
    | _ => .bad
  | _, _ => .bad
theorem gAppend_ok {K : PySem.W.Frag} {mg : NW} : OpM K mg rAppend gAppend := by
  intro W r H mh σ d x ds vs Q rh q1 qs p
  unfold gAppend at p
  split at p
  · rename_i n y
    obtain ⟨v, rfl, q2⟩ := qs.one
    cases q1 with
    | ref e =>
      split at p
      · rename_i xs m
        obtain ⟨ws, h1, h2⟩ := rh.lstAt e m
        split at p
        · rename_i hz
          obtain ⟨y1, y2⟩ := lst_set rh e m h1 (h2.app (.cons q2 .nil))
          exact ⟨_, ws, v, rfl, rfl, h1, by rw [← h2.len]; exact hz, p _ _ _ y1 y2 .non⟩
        · exact p.elim
      · exact p.elim
  · exact p.elim
def gExtend : MM := fun d ds h => match d, ds with
  | .ref n, [.ref k] => match h[n]?, h[k]? with
    | some (.lst xs), some (.lst ys) => if xs.length + ys.length ≤ sizeLine then .ok .non (h.set n (.lst (xs ++ ys))) else .bad
    | _, _ => .bad
  | _, _ => .bad
theorem gExtend_ok {K : PySem.W.Frag} {mg : NW} : OpM K mg rExtend gExtend := by
  intro W r H mh σ d x ds vs Q rh q1 qs p
  unfold gExtend at p
  split at p
  · rename_i n k
    obtain ⟨v, rfl, q2⟩ := qs.one
    cases q1 with
    | ref e =>
      cases q2 with
      | ref e2 =>
        split at p
        · rename_i xs ys m m2
          obtain ⟨ws, h1, h2⟩ := rh.lstAt e m
          obtain ⟨zs, h3, h4⟩ := rh.lstAt e2 m2
          split at p
          · rename_i hz
            obtain ⟨y1, y2⟩ := lst_set rh e m h1 (h2.app h4)
            exact ⟨_, _, ws, zs, rfl, rfl, h1, h3, by rw [← h2.len, ← h4.len]; exact hz, p _ _ _ y1 y2 .non⟩
          · exact p.elim
        · exact p.elim
  · exact p.elim
/-- {}, a display, d[k] = v, dict(pairs) -/
def putD (kvs : List (D × D)) (c : Key) (k v : D) : List (D × D) :=
  if (kvs.any fun kv => decide (keyD kv.1 = some c)) = true then kvs.map (fun kv => if keyD kv.1 = some c then (kv.1, v) else kv) else kvs ++ [(k, v)]
theorem RK.app {K : PySem.W.Frag} {mg : NW} {r : List Addr} {H : Hp} : ∀ {ds es : List (D × D)} {vs ws : List (Key × V)}, RK K mg H r ds vs → RK K mg H r es ws → RK K mg H r (ds ++ es) (vs ++ ws)
  | _, _, _, _, .nil, q => q
  | _, _, _, _, .cons e h hs, q => .cons e h (RK.app hs q)
theorem RK.put {K : PySem.W.Frag} {mg : NW} {r : List Addr} {H : Hp} {ds : List (D × D)} {vs : List (Key × V)} {c : Key} {k d : D} {v : V} (h : RK K mg H r ds vs) (e : keyD k = some c) (q : RV K mg H r d v) : RK K mg H r (putD ds c k d) (putK vs c v) := by
  have h1 : (ds.any fun kv => decide (keyD kv.1 = some c)) = vs.any fun kv => decide (kv.1 = c) := by
    induction h with
    | nil => rfl
    | @cons k' c' d' v' ds vs e' q' h ih =>
      rw [List.any_cons, List.any_cons, ih]
      congr 1
      show decide (keyD k' = some c) = decide (c' = c)
      rw [e']
      by_cases hc : c' = c
      · rw [hc]; simp
      · rw [decide_eq_false hc, decide_eq_false fun z => hc (Option.some.inj z)]
  unfold putD putK
  rw [h1]
  split
  · rename_i hx
    clear h1 hx
    induction h with
    | nil => exact .nil
    | @cons k' c' d' v' ds vs e' q' h ih =>
      rw [List.map_cons, List.map_cons]
      by_cases hc : c' = c
      · subst hc
        simp only [e', if_true]
        exact .cons e' q ih
      · have hn : ¬ (some c' = some c) := fun z => hc (Option.some.inj z)
        simp only [e', hn, hc, if_false]
        exact .cons e' q' ih
  · exact h.app (.cons e q .nil)
def tyN (h : MH) : D → Option String
  | .non => some "NoneType"
  | .bl _ => some "bool"
  | .int _ => some "int"
  | .str _ => some "str"
  | .tup _ => some "tuple"
  | .ref n => match h[n]? with
    | some (.lst _) => some "list"
    | some (.ro _) => some "list"
    | some (.dic _) => some "dict"
    | some (.fdi _) => some "dict"
    | _ => none
  | _ => none
def isiNames : List String := ["NoneType", "bool", "int", "str", "tuple", "list", "dict"]
def isiT (a b : String) : Option Bool := if isiNames.contains a && isiNames.contains b then some (a == b || (a == "bool" && b == "int")) else none
theorem isiT_all : (isiNames.all fun a => isiNames.all fun b => isiT a b == kitB a b) = true := by decide +kernel
theorem isiT_ok {a b : String} {c : Bool} (h : isiT a b = some c) : kitB a b = some c := by
  have ha : isiNames.contains a = true ∧ isiNames.contains b = true := by
    unfold isiT at h
    split at h
    · rename_i e; exact Bool.and_eq_true_iff.mp e
    · cases h
  have h1 := List.all_eq_true.mp isiT_all a (List.contains_iff_mem.mp ha.1)
  have h2 := List.all_eq_true.mp h1 b (List.contains_iff_mem.mp ha.2)
  rw [← eq_of_beq h2]; exact h
theorem tyN_ok {K : PySem.W.Frag} {mg : NW} {r : List Addr} {H : Hp} {mh : MH} {d : D} {v : V} {n : String} (rh : RH K mg r mh H) (q : RV K mg H r d v) (e : tyN mh d = some n) : TyX K H v (.type n) := by
  cases q with
  | non => cases e; exact .base .non
  | bl b => cases e; exact .base (.bl b)
  | int i => cases e; exact .base (.int i)
  | str x => cases e; exact .base (.str x)
  | tup h1 _ h2 =>
    cases e
    rcases h1 with (h1 | ⟨o, h1⟩) | ⟨o, its, n, k1, k2, k3⟩
    · exact .base (.tup h1)
    · exact .fTuple h1
    · exact .kTuple k1 k2
  | @ref k a h1 =>
    have e' : (match mh[k]? with
      | some (.lst _) => some "list"
      | some (.ro _) => some "list"
      | some (.dic _) => some "dict"
      | some (.fdi _) => some "dict"
      | _ => none) = some n := e
    clear e
    split at e' <;> rename_i m <;> cases e'
    · obtain ⟨vs, z, _⟩ := rh.at_ _ _ _ m h1
      exact .base (.lst z)
    · obtain ⟨vs, z, _⟩ := rh.at_ _ _ _ m h1
      rcases z with ⟨o, z⟩ | ⟨o, its, n, k1, k2, k3⟩
      · exact .base (.frz z)
      · exact .kList k1 k2
    · obtain ⟨vs, z, _⟩ := rh.at_ _ _ _ m h1
      exact .base (.dK z)
    · obtain ⟨o, vs, z, _⟩ := rh.at_ _ _ _ m h1
      exact .fDict z
  | _ => cases e
def anyT (a : String) : List D → Option Bool
  | [] => some false
  | .ty b :: r => match isiT a b, anyT a r with
    | some true, some _ => some true
    | some false, some c => some c
    | _, _ => none
  | _ :: _ => none
def fIsi : MF := fun ds h => match ds with
  | [d, .ty b] => match (tyN h d).bind fun a => isiT a b with
    | some c => .ok (.bl c) h
    | none => .bad
  | [d, .tup bs] => match (tyN h d).bind fun a => anyT a bs with
    | some c => .ok (.bl c) h
    | none => .bad
  | _ => .bad
def rIsiS (K : PySem.W.Frag) : List V → Hp → VK → Prop := fun xs H Q => ∃ (x : V) (tp : Addr) (cs : List V) (t : Value) (us : List Value) (b : Bool), xs = [x, .ref tp] ∧ SqT K H tp cs ∧ Paired ClsV cs us ∧ TyX K H x t ∧ PySem.W.kitAny K t us = some b ∧ Q (.bl b) H
theorem call_isiS {X : Cx} : CallR X (.builtin "isinstance") (rIsiS X.K) := by
  intro pins s σ H xs us Q I r h
  obtain ⟨x, tp, cs, t, ws, b, rfl, hT, k, ty, e, q⟩ := h
  obtain ⟨u1, u2, rfl, r1, r2⟩ := vals2 r
  cases r2
  obtain ⟨P, Z, p, hx⟩ := kit_of I r1 ty
  obtain ⟨its, rv, ⟨o, h1, h2, n, h3⟩, _⟩ := I.tuple hT
  have e3 := ClsV.all k rv
  subst e3
  obtain ⟨oc, od, dt, sl⟩ := o
  simp only at h2 h3
  subst h2 h3
  exact PySem.W.kia_tup Z I.kIn p h1 e hx fun tk => ⟨.bl b, H, I.tok tk, rfl, q⟩
def rIsiA (K : PySem.W.Frag) : List V → Hp → VK → Prop := fun xs H Q => rIsi K xs H Q ∨ rIsiS K xs H Q
theorem c_isi {X : Cx} : CallR X (.builtin "isinstance") (rIsiA X.K) := CallR.or call_isi call_isiS
theorem anyT_ok {K : PySem.W.Frag} {mg : NW} {r : List Addr} {H : Hp} {a : String} : ∀ {bs : List D} {vs : List V} {c : Bool}, anyT a bs = some c → RVs K mg H r bs vs → ∃ us, Paired ClsV vs us ∧ PySem.W.kitAny K (.type a) us = some c
  | [], vs, c, e, q => by cases q; cases e; exact ⟨[], .nil, kitAny_nil⟩
  | .ty b :: bs, vs, c, e, q => by
    cases q with
    | cons q qs =>
      cases q
      unfold anyT at e
      split at e
      · rename_i e1 e2
        cases e
        obtain ⟨us, h1, h2⟩ := anyT_ok e2 qs
        exact ⟨_, .cons (.ty b) h1, kitAny_cons (kit_ty (isiT_ok e1)) (fun z => nomatch z) fun _ => rfl⟩
      · rename_i e1 e2
        cases e
        obtain ⟨us, h1, h2⟩ := anyT_ok e2 qs
        exact ⟨_, .cons (.ty b) h1, kitAny_cons (kit_ty (isiT_ok e1)) (fun _ => h2) fun z => nomatch z⟩
      · cases e
  | .non :: _, _, _, e, _ | .bl _ :: _, _, _, e, _ | .str _ :: _, _, _, e, _ | .int _ :: _, _, _, e, _ | .tup _ :: _, _, _, e, _ | .ref _ :: _, _, _, e, _ | .glo _ :: _, _, _, e, _ => by cases e
theorem fIsi_ok {K : PySem.W.Frag} {mg : NW} : OpC K mg (rIsiA K) fIsi := by
  intro W r H mh σ ds vs Q rh q p
  unfold fIsi at p
  split at p
  · obtain ⟨v, w, rfl, q1, q2⟩ := q.two
    cases q2
    split at p
    · rename_i c e
      obtain ⟨a, e1, e2⟩ := bindO e
      exact .inl ⟨v, _, _, _, c, rfl, .ty _, tyN_ok rh q1 e1, kit_ty (isiT_ok e2), p r H _ .refl rh (.bl _)⟩
    · exact p.elim
  · obtain ⟨v, w, rfl, q1, q2⟩ := q.two
    cases q2 with
    | @tup _ ta cs h1 _ h2 =>
      split at p
      · rename_i c e
        obtain ⟨a, e1, e2⟩ := bindO e
        obtain ⟨us, h3, h4⟩ := anyT_ok e2 h2
        exact .inr ⟨v, ta, cs, _, us, c, rfl, h1, h3, tyN_ok rh q1 e1, h4, p r H _ .refl rh (.bl _)⟩
      · exact p.elim
  · exact p.elim
end Sm
namespace Sm
open PySem PySem.Spec PyProof.Rows L2
section
variable (K : PySem.W.Frag) (mg : NW) (W : WX)
def SPost (r : List Addr) (H : Hp) (o : OutS) (E : Ends) : Prop :=
  match o with
  | .nx s mh => ∀ r' H' σ', Stp r H r' H' → RH K mg r' mh H' → RS K mg H' r' s σ' → E.nx σ' H'
  | .bk s mh => ∀ r' H' σ', Stp r H r' H' → RH K mg r' mh H' → RS K mg H' r' s σ' → E.bk σ' H'
  | .ct s mh => ∀ r' H' σ', Stp r H r' H' → RH K mg r' mh H' → RS K mg H' r' s σ' → E.ct σ' H'
  | .rt d mh => ∀ r' H' v, Stp r H r' H' → RH K mg r' mh H' → RV K mg H' r' d v → E.rt v H'
  | .exc c fs s mh => ∀ r' H' σ' cv dx, Stp r H r' H' → RH K mg r' mh H' → RS K mg H' r' s σ' → RX K mg H' r' c fs cv dx → W cv dx σ' H'
  | .bad => False
def SimS (m : MSt) : TS := fun E σ H => ∃ r ms mh, RS K mg H r ms σ ∧ RH K mg r mh H ∧ SPost K mg W r H (m ms mh) E
end
def Out.toS {α : Type} (o : Out α) (ms : MS) (k : α → MH → OutS) : OutS := match o with
  | .ok a h => k a h
  | .exc c fs h => .exc c fs ms h
  | .bad => .bad
section
variable {K : PySem.W.Frag} {mg : NW} {W : WX} {α β : Type} {RR : Hp → List Addr → α → β → Prop} {r r' : List Addr} {H H' : Hp} {σ : L2.St}
theorem SPost.stp (a : Stp r H r' H') {o : OutS} {E : Ends} (h : SPost K mg W r H o E) : SPost K mg W r' H' o E := by
  cases o with
  | nx s mh => exact fun r2 H2 b st => h r2 H2 b (a.trans st)
  | bk s mh => exact fun r2 H2 b st => h r2 H2 b (a.trans st)
  | ct s mh => exact fun r2 H2 b st => h r2 H2 b (a.trans st)
  | rt s mh => exact fun r2 H2 b st => h r2 H2 b (a.trans st)
  | exc c fs s mh => exact fun r2 H2 b cv dx st => h r2 H2 b cv dx (a.trans st)
  | bad => exact h
theorem SPost.ofS {o : Out α} {ms : MS} {k : α → MH → OutS} {E : Ends} {R : β → Hp → Prop} (h : SPost K mg W r H (o.toS ms k) E) (rs : RS K mg H r ms σ)
    (hk : ∀ a mh' r' H' b, Stp r H r' H' → RH K mg r' mh' H' → RR H' r' a b → SPost K mg W r' H' (k a mh') E → R b H') : Post K mg W RR r H σ o R := by
  cases o with
  | ok x mh => exact fun r2 H2 b st rh rr => hk x mh r2 H2 b st rh rr (SPost.stp st h)
  | exc c fs mh => exact fun r2 H2 cv dx st rh rx => h r2 H2 σ cv dx st rh (rs.mono st) rx
  | bad => exact h
end
abbrev SS (X : Cx) (W : WX) (st : Stmt) (m : MSt) : Prop := PS X st (SimS X.K X.gw W m)
abbrev SSs (X : Cx) (W : WX) (st : List Stmt) (m : MSt) : Prop := PSs X st (SimS X.K X.gw W m)
def mNx : MSt := fun ms h => .nx ms h
def mSeq (a b : MSt) : MSt := fun ms h => match a ms h with
  | .nx ms1 h1 => b ms1 h1
  | o => o
def mExpr (m : ME) : MSt := fun ms h => (m ms h).toS ms fun _ h1 => .nx ms h1
def mRet (m : ME) : MSt := fun ms h => (m ms h).toS ms fun d h1 => .rt d h1
def mRetN : MSt := fun _ h => .rt .non h
def mBk : MSt := fun ms h => .bk ms h
def mCt : MSt := fun ms h => .ct ms h
def mIfS (t : MT) (a b : MSt) : MSt := fun ms h => (t ms h).toS ms fun c h1 => if c = true then a ms h1 else b ms h1
section
variable {X : Cx} {W : WX} {st : Stmt} {sts : List Stmt} {m : ME} {e : Expr} {ma mb : MSt} {pos : Pos}
theorem ss_nil : SSs X W [] mNx := pssImp pss_nil fun D σ H ⟨r, ms, mh, rs, rh, p⟩ => p r H σ .refl rh rs
theorem seq_run {D : Ends} {σ : L2.St} {H : Hp} (h : SimS X.K X.gw W (mSeq ma mb) D σ H) : SimS X.K X.gw W ma { D with nx := SimS X.K X.gw W mb D } σ H := by
  obtain ⟨r, ms, mh, rs, rh, p⟩ := h
  refine ⟨r, ms, mh, rs, rh, ?_⟩
  unfold mSeq at p
  cases e : ma ms mh with
  | nx s h1 =>
    rw [e] at p
    exact fun r' H' σ' st rh' rs' => ⟨r', s, h1, rs', rh', p.stp st⟩
  | bk s h1 => rw [e] at p; exact p
  | ct s h1 => rw [e] at p; exact p
  | rt s h1 => rw [e] at p; exact p
  | exc c fs s h1 => rw [e] at p; exact p
  | bad => rw [e] at p; exact p
theorem ss_cons (h1 : SS X W st ma) (h2 : SSs X W sts mb) : SSs X W (st :: sts) (mSeq ma mb) := pssImp (pss_cons h1 h2) fun _ _ _ h => seq_run h
theorem ss_one (h1 : SS X W st ma) : SSs X W [st] ma := pss_one h1
theorem s_expr (he : SE X W e m) (hs : swapsWith e none pos.line X.env = pure false := by kernel_rfl) : SS X W (.Expr e pos) (mExpr m) := by
  refine psImp (ps_expr he hs) fun D σ H ⟨r, ms, mh, rs, rh, p⟩ => ?_
  exact ⟨r, ms, mh, rs, rh, p.ofS rs fun d h1 r1 H1 v st1 rh1 rv1 p1 => p1 r1 H1 σ .refl rh1 (rs.mono st1)⟩
theorem s_ret (he : SE X W e m) : SS X W (.Return (some e) pos) (mRet m) := by
  refine psImp (ps_ret he) fun D σ H ⟨r, ms, mh, rs, rh, p⟩ => ?_
  exact ⟨r, ms, mh, rs, rh, p.ofS rs fun d h1 r1 H1 v st1 rh1 rv1 p1 => p1 r1 H1 v .refl rh1 rv1⟩
theorem s_if {c : Expr} {a b : List Stmt} {t : MT} (hc : ST X W c t) (ha : SSs X W a ma) (hb : SSs X W b mb) : SS X W (.If c a b pos) (mIfS t ma mb) := by
  refine psImp (ps_if hc ha hb) fun D σ H ⟨r, ms, mh, rs, rh, p⟩ => ?_
  refine ⟨r, ms, mh, rs, rh, p.ofS rs fun d h1 r1 H1 v st1 rh1 rv1 p1 => ?_⟩
  subst rv1
  cases d with
  | true => exact ⟨r1, ms, h1, rs.mono st1, rh1, p1⟩
  | false => exact ⟨r1, ms, h1, rs.mono st1, rh1, p1⟩
end
abbrev MG := D → MS → MH → OutS
abbrev MGs := List D → MS → MH → OutS
section
variable (K : PySem.W.Frag) (mg : NW) (W : WX)
/-- the slots vs alone change -/
def GPost (vs : List Nat) (σ : L2.St) (r : List Addr) (H : Hp) (o : OutS) (Q : L2.St → Hp → Prop) : Prop :=
  match o with
  | .nx s mh => ∀ r' H' σ', Stp r H r' H' → RH K mg r' mh H' → RS K mg H' r' s σ' → wipe σ' vs = wipe σ vs → Q σ' H'
  | .exc c fs s mh => ∀ r' H' σ' cv dx, Stp r H r' H' → RH K mg r' mh H' → RS K mg H' r' s σ' → RX K mg H' r' c fs cv dx → W cv dx σ' H'
  | _ => False
def SimG (vs : List Nat) (g : MG) : TG := fun v σ H Q => ∃ r ms mh d, RS K mg H r ms σ ∧ RH K mg r mh H ∧ RV K mg H r d v ∧ GPost K mg W vs σ r H (g d ms mh) Q
def SimGs (vs : List Nat) (g : MGs) : TGs := fun v σ H Q => ∃ r ms mh d, RS K mg H r ms σ ∧ RH K mg r mh H ∧ RVs K mg H r d v ∧ GPost K mg W vs σ r H (g d ms mh) Q
end
abbrev SG (X : Cx) (W : WX) (vs : List Nat) (tg : Expr) (g : MG) : Prop := PG X tg (SimG X.K X.gw W vs g)
abbrev SGs (X : Cx) (W : WX) (vs : List Nat) (tg : List Expr) (g : MGs) : Prop := PGs X tg (SimGs X.K X.gw W vs g)
theorem pgImp {X : Cx} {e : Expr} {t t' : TG} (h : PG X e t) (w : ∀ v σ H Q, t' v σ H Q → t v σ H Q) : PG X e t' := ⟨fun pins s σ H v u Q I r q => h.run pins s σ H v u Q I r (w v σ H Q q)⟩
theorem pgsImp {X : Cx} {e : List Expr} {t t' : TGs} (h : PGs X e t) (w : ∀ v σ H Q, t' v σ H Q → t v σ H Q) : PGs X e t' := ⟨fun pins s σ H v u Q I r q => h.run pins s σ H v u Q I r (w v σ H Q q)⟩
def gN (i : Nat) : MG := fun d ms h => .nx (ms.set i (some d)) h
def gsNil : MGs := fun ds ms h => match ds with
  | [] => .nx ms h
  | _ => .bad
def gsCons (g : MG) (gs : MGs) : MGs := fun ds ms h => match ds with
  | [] => .bad
  | d :: r => match g d ms h with
    | .nx ms1 h1 => gs r ms1 h1
    | o => o
/-- (a, b, ..) = a tuple, or a list -/
def gTup (n : Nat) (gs : MGs) : MG := fun d ms h => match d with
  | .tup ds => if ds.length = n then gs ds ms h else .bad
  | _ => .bad
theorem wipe_set {σ : L2.St} {i : Nat} {x : Option V} : ∀ {vs : List Nat}, i ∈ vs → wipe (σ.set i x) vs = wipe σ vs
  | [], h => nomatch h
  | v :: vs, h => by
    unfold wipe
    by_cases e : i ∈ vs
    · rw [wipe_set e]
    · have hv : i = v := by rcases List.mem_cons.mp h with h | h; exact h; exact absurd h e
      subst hv
      have go : ∀ (ws : List Nat) (τ : L2.St), i ∉ ws → (wipe (τ.set i x) ws).set i none = (wipe τ ws).set i none := by
        intro ws
        induction ws with
        | nil => intro τ _; show (τ.set i x).set i none = τ.set i none; rw [List.set_set]
        | cons w ws ih =>
          intro τ hn
          have h1 : i ≠ w := fun z => hn (by rw [z]; exact List.mem_cons_self)
          have h2 : i ∉ ws := fun z => hn (List.mem_cons_of_mem _ z)
          show ((wipe (τ.set i x) ws).set w none).set i none = ((wipe τ ws).set w none).set i none
          rw [List.set_comm _ _ (Ne.symm h1), ih τ h2, List.set_comm _ _ h1]
      exact go vs σ e
theorem RS.set {K : PySem.W.Frag} {mg : NW} {r : List Addr} {H : Hp} {ms : MS} {σ : L2.St} {i : Nat} {d : D} {v : V} (rs : RS K mg H r ms σ) (q : RV K mg H r d v) : RS K mg H r (ms.set i (some d)) (σ.set i (some v)) := by
  refine ⟨by rw [List.length_set, List.length_set]; exact rs.1, fun j e h => ?_⟩
  by_cases hj : i = j
  · subst hj
    have hi : i < ms.length := by
      have := (List.getElem?_eq_some_iff.mp h).1
      rw [List.length_set] at this; exact this
    rw [List.getElem?_set_self hi] at h
    cases h
    exact ⟨v, List.getElem?_set_self (by rw [← rs.1]; exact hi), q⟩
  · rw [List.getElem?_set_ne hj] at h
    rw [List.getElem?_set_ne hj]
    exact rs.2 j e h
section
variable {X : Cx} {W : WX} {vs : List Nat} {e tg : Expr} {es : List Expr} {pos tpos : Pos} {g : MG} {gs : MGs}
theorem sg_name0 {i : Nat} {x : Str} (hN : X.N.Nodup) (hi : X.N[i]? = some x) (hx : Loc X.env.scope x) (hv : i ∈ vs) (hf : X.fn x = true ∨ X.env.scope.names.lookup x = some .local) : SG X W vs (.Name x pos) (gN i) := by
  refine pgImp (pg_name hN hi hx hf) fun v σ H Q ⟨r, ms, mh, d, rs, rh, q, p⟩ => ?_
  exact p r H _ .refl rh (rs.set q) (wipe_set hv)
theorem sg_name {i : Nat} {x : Str} (hN : X.N.Nodup) (hx : X.env.scope.names.lookup x = some .local := by kernel_rfl) (hi : X.N[i]? = some x := by kernel_rfl) (hv : i ∈ vs := by decide) : SG X W vs (.Name x pos) (gN i) := sg_name0 hN hi (.inl hx) hv (.inr hx)
theorem sgs_nil : SGs X W vs [] gsNil := by
  refine pgsImp pgs_nil fun v σ H Q ⟨r, ms, mh, d, rs, rh, q, p⟩ => ?_
  cases q with
  | nil => exact ⟨rfl, p r H σ .refl rh rs rfl⟩
  | cons q qs => exact p.elim
theorem sgs_cons (h1 : SG X W vs e g) (h2 : SGs X W vs es gs) (hs : (assignEach (e :: es) X.env).map (·.2) = assign e X.env :: (assignEach es X.env).map (·.2) := by kernel_rfl) : SGs X W vs (e :: es) (gsCons g gs) := by
  refine pgsImp (pgs_cons h1 h2 hs) fun v σ H Q ⟨r, ms, mh, d, rs, rh, q, p⟩ => ?_
  cases q with
  | nil => exact p.elim
  | @cons d ds v vs' q qs =>
    refine ⟨v, vs', rfl, r, ms, mh, d, rs, rh, q, ?_⟩
    unfold gsCons at p
    simp only [] at p
    cases eg : g d ms mh with
    | nx s h1 =>
      rw [eg] at p
      refine fun r' H' σ' st rh' rs' hw => ⟨r', s, h1, ds, rs', rh', qs.mono st, ?_⟩
      simp only [] at p
      cases eg2 : gs ds s h1 with
      | nx s2 h2 =>
        rw [eg2] at p
        exact fun r2 H2 σ2 st2 rh2 rs2 hw2 => p r2 H2 σ2 (st.trans st2) rh2 rs2 (hw2.trans hw)
      | exc c fs s2 h2 =>
        rw [eg2] at p
        exact fun r2 H2 σ2 cv dx st2 => p r2 H2 σ2 cv dx (st.trans st2)
      | bk _ _ => rw [eg2] at p; exact p
      | ct _ _ => rw [eg2] at p; exact p
      | rt _ _ => rw [eg2] at p; exact p
      | bad => rw [eg2] at p; exact p
    | exc c fs s h1 => rw [eg] at p; exact p
    | bk _ _ => rw [eg] at p; exact p
    | ct _ _ => rw [eg] at p; exact p
    | rt _ _ => rw [eg] at p; exact p
    | bad => rw [eg] at p; exact p
theorem sg_tup {k n : Nat} (h : SGs X W vs es gs) (hc : X.calm = true := by kernel_rfl) (hn : (assignEach es X.env).length = n := by kernel_rfl) (hst : (assignEach es X.env).findIdx? (·.1) = none := by kernel_rfl) : SG X W vs (.Tuple es k pos) (gTup n gs) := by
  refine pgImp (pg_tup hc h hn hst) fun v σ H Q ⟨r, ms, mh, d, rs, rh, q, p⟩ => ?_
  unfold gTup at p
  cases q with
  | @tup ds a xs h1 _ h2 =>
    simp only [] at p
    split at p
    · rename_i hl
      exact ⟨a, xs, rfl, h1, by rw [← h2.len]; exact hl, r, ms, mh, ds, rs, rh, h2, p⟩
    · exact p.elim
  | _ => exact p.elim
/-- o[i] = v by values -/
abbrev MSet := D → D → D → MH → Option MH
def gIt (mo mi : ME) (t : MSet) : MG := fun d ms h => (mo ms h).toS ms fun o h1 => (mi ms h1).toS ms fun i h2 => match t o i d h2 with
  | some h3 => .nx ms h3
  | none => .bad
def OpSet (K : PySem.W.Frag) (mg : NW) (rel : TSet) (t : MSet) : Prop :=
  ∀ (r : List Addr) (H : Hp) (mh mh' : MH) (d1 d2 d3 : D) (x y z : V) (Q : Hp → Prop), RH K mg r mh H → RV K mg H r d1 x → RV K mg H r d2 y → RV K mg H r d3 z → t d1 d2 d3 mh = some mh' →
    (∀ r' H', Stp r H r' H' → RH K mg r' mh' H' → Q H') → rel x y z H Q
theorem GPost.ofS {K : PySem.W.Frag} {mg : NW} {α β : Type} {RR : Hp → List Addr → α → β → Prop} {r : List Addr} {H : Hp} {σ : L2.St} {o : Out α} {ms : MS} {k : α → MH → OutS} {E : L2.St → Hp → Prop} {R : β → Hp → Prop} (h : GPost K mg W vs σ r H (o.toS ms k) E) (rs : RS K mg H r ms σ)
    (hk : ∀ a mh' r' H' b, Stp r H r' H' → RH K mg r' mh' H' → RR H' r' a b → GPost K mg W vs σ r' H' (k a mh') E → R b H') : Post K mg W RR r H σ o R := by
  cases o with
  | ok x mh =>
    refine fun r2 H2 b st rh rr => hk x mh r2 H2 b st rh rr ?_
    have h' : GPost K mg W vs σ r H (k x mh) E := h
    cases ek : k x mh with
    | nx s h1 => rw [ek] at h'; exact fun r3 H3 σ3 st3 => h' r3 H3 σ3 (st.trans st3)
    | exc c fs s h1 => rw [ek] at h'; exact fun r3 H3 σ3 cv dx st3 => h' r3 H3 σ3 cv dx (st.trans st3)
    | bk _ _ => rw [ek] at h'; exact h'
    | ct _ _ => rw [ek] at h'; exact h'
    | rt _ _ => rw [ek] at h'; exact h'
    | bad => rw [ek] at h'; exact h'
  | exc c fs mh => exact fun r2 H2 cv dx st rh rx => h r2 H2 σ cv dx st rh (rs.mono st) rx
  | bad => exact h
theorem sg_sub {o i : Expr} {mo mi : ME} {rel : TSet} {t : MSet} (hs : PSet X rel) (ht : OpSet X.K X.gw rel t) (ho : SE X W o mo) (hi : SE X W i mi)
    (ha : ∀ v, assign (.Subscript o i pos) X.env v = (do
      let ov ← holding [v] (eval o X.env); let iv ← holding [v, ov] (eval i X.env); standAt pos; holding [v, ov, iv] (setItem ov iv v); release [v, ov, iv] []) := by intro _; kernel_rfl) : SG X W vs (.Subscript o i pos) (gIt mo mi t) := by
  refine pgImp (pg_sub ho hi hs ha) fun v σ H Q ⟨r, ms, mh, d, rs, rh, q, p⟩ => ?_
  refine ⟨r, ms, mh, rs, rh, GPost.ofS p rs fun o h1 r1 H1 x st1 rh1 rv1 p1 => ?_⟩
  refine ⟨r1, ms, h1, rs.mono st1, rh1, GPost.ofS p1 (rs.mono st1) fun i h2 r2 H2 y st2 rh2 rv2 p2 => ?_⟩
  split at p2
  · rename_i h3 e3
    exact ht r2 H2 h2 h3 o i d x y v _ rh2 (rv1.mono st2) rv2 (q.mono (st1.trans st2)) e3 fun r3 H3 st3 rh3 => p2 r3 H3 σ st3 rh3 (rs.mono (st1.trans (st2.trans st3))) rfl
  · exact p2.elim
end
def setA : MSet := fun o i d h => match o with
  | .ref n => match h[n]? with
    | some (.lst xs) => match i with
      | .int k => match ixN xs.length k with
        | some j => some (h.set n (.lst (xs.set j d)))
        | none => none
      | _ => none
    | some (.dic kvs) => match keyD i with
      | some c => if kvs.length < sizeLine then some (h.set n (.dic (putD kvs c i d))) else none
      | none => none
    | _ => none
  | _ => none
def rSetDc : V → V → V → Hp → (Hp → Prop) → Prop := fun o i v H Q => ∃ a kvs k, o = .ref a ∧ i = kV k ∧ H a = some (.dK kvs) ∧ kvs.length < sizeLine ∧ Q (upd H a (.dK (putK kvs k v)))
theorem set_dc {X : Cx} (hu : X.A.units + 1 < cLine) : PSet X rSetDc := by
  intro pins s σ H o i v ov iv u Q I ro ri rv h
  obtain ⟨a, kvs, k, rfl, rfl, e, hz, q⟩ := h
  cases ro
  exact d_setItem hu I (.k e hz) ri rv fun s' I' => ⟨_, I', q⟩
def rSetA : V → V → V → Hp → (Hp → Prop) → Prop := fun o i v H Q => rSetL o i v H Q ∨ rSetDc o i v H Q
theorem set_A {X : Cx} (hu : X.A.units + 1 < cLine) : PSet X rSetA := by
  intro pins s σ H o i v ov iv u Q I ro ri rv h
  rcases h with h | h
  · exact set_list pins s σ H o i v ov iv u Q I ro ri rv h
  · exact set_dc hu pins s σ H o i v ov iv u Q I ro ri rv h
theorem setA_ok {K : PySem.W.Frag} {mg : NW} : OpSet K mg rSetA setA := by
  intro r H mh mh' d1 d2 d3 x y z Q rh q1 q2 q3 e h
  unfold setA at e
  split at e
  · cases q1 with
    | ref e1 =>
      split at e
      · rename_i xs m
        obtain ⟨vs, h1, h2⟩ := rh.lstAt e1 m
        split at e
        · cases q2
          split at e
          · rename_i j ej
            cases e
            obtain ⟨y1, y2⟩ := lst_set rh e1 m h1 (h2.set q3 j)
            exact .inl ⟨_, vs, _, j, rfl, rfl, h1, by rw [← h2.len]; exact ej, h _ _ y1 y2⟩
          · cases e
        · cases e
      · rename_i kvs m
        obtain ⟨vs, h1, h2⟩ := rh.at_ _ _ _ m e1
        split at e
        · rename_i c ec
          split at e
          · rename_i hz
            cases e
            have st : Stp r H r (upd H _ (.dK (putK vs c z))) := stp_set h1 (fun _ z => nomatch z) (fun _ _ z => nomatch z)
            have y2 := rh.set (w := .dic (putD kvs c d2 d3)) (o := .dK (putK vs c z)) m e1 rfl h1 (fun _ z => nomatch z) (fun _ _ z => nomatch z) (fun _ _ z => nomatch z) rfl ⟨_, upd_same, (h2.put ec q3).mono st⟩
            exact .inr ⟨_, vs, c, rfl, keyD_V ec q2, h1, by rw [← h2.len]; exact hz, h _ _ st y2⟩
          · cases e
        · cases e
      · cases e
  · cases e
end Sm
namespace Sm
open PySem PySem.Spec PyProof.Rows L2
def mAsg (m : ME) (g : MG) : MSt := fun ms h => (m ms h).toS ms fun d h1 => g d ms h1
section
variable {X : Cx} {W : WX} {vs : List Nat} {e tg : Expr} {pos : Pos} {g : MG} {m : ME}
theorem GPost.toS {K : PySem.W.Frag} {mg : NW} {r : List Addr} {H : Hp} {σ : L2.St} {o : OutS} {E : Ends} (h : SPost K mg W r H o E) (hg : ∀ s mh, o ≠ .bk s mh ∧ o ≠ .ct s mh) (hr : ∀ d mh, o ≠ .rt d mh) : GPost K mg W vs σ r H o E.nx := by
  cases o with
  | nx s mh => exact fun r' H' σ' st rh rs _ => h r' H' σ' st rh rs
  | exc c fs s mh => exact h
  | bk s mh => exact absurd rfl (hg s mh).1
  | ct s mh => exact absurd rfl (hg s mh).2
  | rt d mh => exact absurd rfl (hr d mh)
  | bad => exact h
/-- a target's mirror only goes on, or raises -/
def GOk (g : MG) : Prop := ∀ d ms h, (∀ s mh, g d ms h ≠ .bk s mh ∧ g d ms h ≠ .ct s mh) ∧ ∀ x mh, g d ms h ≠ .rt x mh
/-- only that part of an answer -/
def onlyG (o : OutS) : OutS := match o with
  | .nx s h => .nx s h
  | .exc c fs s h => .exc c fs s h
  | _ => .bad
theorem SPost.onlyG {K : PySem.W.Frag} {mg : NW} {r : List Addr} {H : Hp} {σ : L2.St} {o : OutS} {E : Ends} (h : SPost K mg W r H (Sm.onlyG o) E) : GPost K mg W vs σ r H o E.nx := by
  cases o with
  | nx s mh => exact fun r' H' σ' st rh rs _ => h r' H' σ' st rh rs
  | exc c fs s mh => exact h
  | bk s mh => exact h.elim
  | ct s mh => exact h.elim
  | rt d mh => exact h.elim
  | bad => exact h.elim
theorem s_asg (he : SE X W e m) (hg : SG X W vs tg g) (hs : swapsWithSole [tg] e pos.line X.env = pure false := by kernel_rfl) (hw : swappedStores [tg] e X.env = pure none := by kernel_rfl)
    (h1 : (assignEach [tg] X.env).map (·.2) = [assign tg X.env] := by kernel_rfl) : SS X W (.Assign [tg] e pos) (mAsg m fun d ms h => onlyG (g d ms h)) := by
  refine psImp (ps_asg he hg hs hw h1) fun D σ H ⟨r, ms, mh, rs, rh, p⟩ => ?_
  refine ⟨r, ms, mh, rs, rh, p.ofS rs fun d h1 r1 H1 v st1 rh1 rv1 p1 => ?_⟩
  exact ⟨r1, ms, h1, d, rs.mono st1, rh1, rv1, p1.onlyG⟩
/-- x = e, x a name -/
def mSet (i : Nat) (m : ME) : MSt := fun ms h => (m ms h).toS ms fun d h1 => .nx (ms.set i (some d)) h1
theorem s_set0 {i : Nat} {x : Str} {pos' : Pos} (hN : X.N.Nodup) (he : SE X W e m) (hi : X.N[i]? = some x) (hx : Loc X.env.scope x) (hs : swapsWith e (some (.Name x pos')) pos.line X.env = pure false) (hf : X.fn x = true ∨ X.env.scope.names.lookup x = some .local) : SS X W (.Assign [.Name x pos'] e pos) (mSet i m) := by
  refine psImp (ps_set hN hi hx he hs hf) fun D σ H ⟨r, ms, mh, rs, rh, p⟩ => ?_
  refine ⟨r, ms, mh, rs, rh, p.ofS rs fun d h1 r1 H1 v st1 rh1 rv1 p1 => ?_⟩
  exact p1 r1 H1 _ .refl rh1 ((rs.mono st1).set rv1)
theorem s_set {i : Nat} {x : Str} {pos' : Pos} (hN : X.N.Nodup) (he : SE X W e m) (hx : X.env.scope.names.lookup x = some .local := by kernel_rfl) (hi : X.N[i]? = some x := by kernel_rfl) (hs : swapsWith e (some (.Name x pos')) pos.line X.env = pure false := by kernel_rfl) : SS X W (.Assign [.Name x pos'] e pos) (mSet i m) := s_set0 hN he hi (.inl hx) hs (.inr hx)
theorem s_setC {i : Nat} {x : Str} {pos' : Pos} (hN : X.N.Nodup) (he : SE X W e m) (hx : X.env.scope.names.lookup x = some .cell := by kernel_rfl) (hi : X.N[i]? = some x := by kernel_rfl) (hs : swapsWith e (some (.Name x pos')) pos.line X.env = pure false := by kernel_rfl) (hf : X.fn x = true := by kernel_rfl) : SS X W (.Assign [.Name x pos'] e pos) (mSet i m) := s_set0 hN he hi (.inr hx) hs (.inl hf)
/-- a, b = e1, e2 of plain local names -/
def mPar (i j : Nat) (n : MA) : MSt := fun ms h => (n ms h).toS ms fun ds h1 => match ds with
  | [d1, d2] => .nx ((ms.set i (some d1)).set j (some d2)) h1
  | _ => .bad
/-- x op= e -/
def mAug (i : Nat) (gg : MO2) (m : ME) : MSt := fun ms h => match ms[i]? with
  | some (some x) => (m ms h).toS ms fun d h1 => (gg x d h1).toS ms fun z h2 => .nx (ms.set i (some z)) h2
  | _ => .bad
theorem s_aug0 {i : Nat} {x : Str} {op : Operator} {pos' : Pos} {rel : R2} {gg : MO2} (hN : X.N.Nodup) (ho : OpR X (inplaceOp op) rel) (hs : Op2 X.K X.gw rel gg) (he : SE X W e m) (hi : X.N[i]? = some x) (hx : Loc X.env.scope x)
    (hf : X.fn x = true ∨ X.env.scope.names.lookup x = some .local) : SS X W (.AugAssign (.Name x pos') op e pos) (mAug i gg m) := by
  refine psImp (ps_aug (ti := rel) hN hi hx he ho hf) fun D σ H ⟨r, ms, mh, rs, rh, p⟩ => ?_
  unfold mAug at p
  split at p
  · rename_i d0 e0
    obtain ⟨v0, e1, q0⟩ := rs.2 i d0 e0
    refine ⟨v0, e1, r, ms, mh, rs, rh, p.ofS rs fun d h1 r1 H1 v st1 rh1 rv1 p1 => ?_⟩
    refine hs W r1 H1 h1 σ d0 d v0 v _ rh1 (q0.mono st1) rv1 (p1.ofS (rs.mono st1) fun z h2 r2 H2 w st2 rh2 rv2 p2 => ?_)
    exact p2 r2 H2 _ .refl rh2 ((rs.mono (st1.trans st2)).set rv2)
  · exact p.elim
end
section
variable {X : Cx} {W : WX} {e : Expr} {pos : Pos} {m : ME}
theorem s_aug {i : Nat} {x : Str} {op : Operator} {pos' : Pos} {rel : R2} {gg : MO2} (hN : X.N.Nodup) (ho : OpR X (inplaceOp op) rel) (hs : Op2 X.K X.gw rel gg) (he : SE X W e m) (hx : X.env.scope.names.lookup x = some .local := by kernel_rfl) (hi : X.N[i]? = some x := by kernel_rfl) : SS X W (.AugAssign (.Name x pos') op e pos) (mAug i gg m) := s_aug0 hN ho hs he hi (.inl hx) (.inr hx)
end
def giAdd : MO2 := gI0 fun i j => .int (i + j)
theorem giAdd_ok {K : PySem.W.Frag} {mg : NW} : Op2 K mg (rI0 fun i j => .int (i + j)) giAdd := gI0_ok fun _ _ _ _ => .int _
def mWh (t : MT) (b : MSt) : Nat → MSt
  | 0, _, _ => .bad
  | n + 1, ms, h => (t ms h).toS ms fun c h1 => if c = true then match b ms h1 with
      | .nx ms2 h2 => mWh t b n ms2 h2
      | .ct ms2 h2 => mWh t b n ms2 h2
      | .bk ms2 h2 => .nx ms2 h2
      | .rt d h2 => .rt d h2
      | .exc c fs ms2 h2 => .exc c fs ms2 h2
      | .bad => .bad
    else .nx ms h1
open Classical in
noncomputable def mWhile (t : MT) (b : MSt) : MSt := fun ms h => if hx : ∃ n, mWh t b n ms h ≠ .bad then mWh t b (choose hx) ms h else .bad
theorem mWh_succ (t : MT) (b : MSt) : ∀ n ms h, mWh t b n ms h ≠ .bad → mWh t b (n + 1) ms h = mWh t b n ms h
  | 0, _, _, q => absurd rfl q
  | n + 1, ms, h, q => by
    have e : mWh t b (n + 1) ms h = (t ms h).toS ms fun c h1 => if c = true then match b ms h1 with
      | .nx ms2 h2 => mWh t b n ms2 h2
      | .ct ms2 h2 => mWh t b n ms2 h2
      | .bk ms2 h2 => .nx ms2 h2
      | .rt d h2 => .rt d h2
      | .exc c fs ms2 h2 => .exc c fs ms2 h2
      | .bad => .bad
    else .nx ms h1 := rfl
    have e2 : mWh t b (n + 2) ms h = (t ms h).toS ms fun c h1 => if c = true then match b ms h1 with
      | .nx ms2 h2 => mWh t b (n + 1) ms2 h2
      | .ct ms2 h2 => mWh t b (n + 1) ms2 h2
      | .bk ms2 h2 => .nx ms2 h2
      | .rt d h2 => .rt d h2
      | .exc c fs ms2 h2 => .exc c fs ms2 h2
      | .bad => .bad
    else .nx ms h1 := rfl
    rw [e] at q
    rw [e, e2]
    cases ht : t ms h with
    | bad => rfl
    | exc c fs h1 => rfl
    | ok c h1 =>
      rw [ht] at q
      unfold Out.toS at q ⊢
      simp only [] at q ⊢
      by_cases hc : c = true
      · rw [if_pos hc] at q
        rw [if_pos hc, if_pos hc]
        cases hb : b ms h1 with
        | nx ms2 h2 => rw [hb] at q; exact mWh_succ t b n ms2 h2 q
        | ct ms2 h2 => rw [hb] at q; exact mWh_succ t b n ms2 h2 q
        | bk ms2 h2 => rfl
        | rt d h2 => rfl
        | exc c fs ms2 h2 => rfl
        | bad => rfl
      · rw [if_neg hc, if_neg hc]
theorem mWh_add {t : MT} {b : MSt} {n ms h} (q : mWh t b n ms h ≠ .bad) : ∀ k, mWh t b (n + k) ms h = mWh t b n ms h
  | 0 => rfl
  | k + 1 => by
    have ih := mWh_add q k
    rw [← Nat.add_assoc, mWh_succ t b (n + k) ms h (by rw [ih]; exact q), ih]
theorem mWhile_of {t : MT} {b : MSt} {n ms h o} (e : mWh t b n ms h = o) (q : o ≠ .bad) : mWhile t b ms h = o := by
  have hx : ∃ n, mWh t b n ms h ≠ .bad := ⟨n, by rw [e]; exact q⟩
  unfold mWhile
  rw [dif_pos hx]
  have q2 := Classical.choose_spec hx
  rcases Nat.le_total n (Classical.choose hx) with l | l
  · obtain ⟨k, ek⟩ := Nat.exists_eq_add_of_le l
    rw [ek, mWh_add (by rw [e]; exact q) k]; exact e
  · obtain ⟨k, ek⟩ := Nat.exists_eq_add_of_le l
    rw [← mWh_add q2 k, ← ek]; exact e
section
variable {X : Cx} {W : WX} {pos : Pos}
theorem s_while {c : Expr} {body : List Stmt} {t : MT} {b : MSt} (hc : ST X W c t) (hb : SSs X W body b) (hp : PassesOwn (model X.prog X.w) X.A X.env X.xe) : SS X W (.While c body [] pos) (mWhile t b) := by
  refine psImp (ps_while hp hc hb) fun D σ H ⟨r, ms, mh, rs, rh, p⟩ => ?_
  refine ⟨fun n σ H => ∃ r ms mh, RS X.K X.gw H r ms σ ∧ RH X.K X.gw r mh H ∧ SPost X.K X.gw W r H (mWh t b n ms mh) D, ?_, ?_⟩
  · unfold mWhile at p
    split at p
    · rename_i hx
      exact ⟨Classical.choose hx, r, ms, mh, rs, rh, p⟩
    · exact p.elim
  · rintro n σ H ⟨r, ms, mh, rs, rh, p⟩
    cases n with
    | zero => exact p.elim
    | succ n =>
      refine ⟨r, ms, mh, rs, rh, SPost.ofS p rs fun c h1 r1 H1 v st1 rh1 rv1 p1 => ?_⟩
      subst rv1
      cases c with
      | false => exact p1 r1 H1 σ .refl rh1 (rs.mono st1)
      | true =>
        rw [if_pos rfl] at p1 ⊢
        refine ⟨fun σ H => ∃ r ms mh, RS X.K X.gw H r ms σ ∧ RH X.K X.gw r mh H ∧ SPost X.K X.gw W r H (mWh t b n ms mh) D, fun σ' H' h => ⟨n, Nat.lt_succ_self n, h⟩, r1, ms, h1, rs.mono st1, rh1, ?_⟩
        cases hb : b ms h1 with
        | nx ms2 h2 => rw [hb] at p1; exact fun r' H' σ' st rh' rs' => ⟨r', ms2, h2, rs', rh', p1.stp st⟩
        | ct ms2 h2 => rw [hb] at p1; exact fun r' H' σ' st rh' rs' => ⟨r', ms2, h2, rs', rh', p1.stp st⟩
        | bk ms2 h2 => rw [hb] at p1; exact p1
        | rt d h2 => rw [hb] at p1; exact p1
        | exc c fs ms2 h2 => rw [hb] at p1; exact p1
        | bad => rw [hb] at p1; exact p1
end
abbrev MI := MS → MH → Out (List D × (MH → Prop))
def Walks (K : PySem.W.Frag) (mg : NW) (r0 : List Addr) (H0 : Hp) (a : List D × (MH → Prop)) (J : It) : Prop :=
  ∀ (i : Nat) (r : List Addr) (H : Hp) (mh : MH), Stp r0 H0 r H → RH K mg r mh H → a.2 mh →
    (∀ d, a.1[i]? = some d → J.go i H ∧ ∀ x H', J.yld i H x H' → RH K mg r mh H' ∧ RV K mg H' r d x ∧ Stp r H r H') ∧ (i = a.1.length → J.stop i H)
abbrev SI (X : Cx) (W : WX) (tg iter : Expr) (m : MI) : Prop := PI X tg iter (Sim X.K X.gw W (fun H r a J => Walks X.K X.gw r H a J) m)
theorem piImp {X : Cx} {tg e : Expr} {t t' : TI} (h : PI X tg e t) (w : ∀ σ H R, t' σ H R → t σ H R) : PI X tg e t' := ⟨fun pins s σ H R I q => h.run pins s σ H R I (w σ H R q)⟩
open Classical in
noncomputable def mLoop (chk : MH → Prop) (g : MG) (b : MSt) : List D → MSt
  | [], ms, h => if chk h then .nx ms h else .bad
  | d :: ds, ms, h => if chk h then (match g d ms h with
      | .nx ms1 h1 => (match b ms1 h1 with
        | .nx ms2 h2 => mLoop chk g b ds ms2 h2
        | .ct ms2 h2 => mLoop chk g b ds ms2 h2
        | .bk ms2 h2 => .nx ms2 h2
        | .rt d h2 => .rt d h2
        | .exc c fs ms2 h2 => .exc c fs ms2 h2
        | .bad => .bad)
      | .exc c fs ms1 h1 => .exc c fs ms1 h1
      | _ => .bad) else .bad
noncomputable def mFor (src : MI) (g : MG) (b : MSt) : MSt := fun ms h => (src ms h).toS ms fun a h1 => mLoop a.2 g b a.1 ms h1
section
variable {X : Cx} {W : WX} {pos : Pos}
theorem s_for {iter tg : Expr} {body : List Stmt} {vs : List Nat} {src : MI} {g : MG} {b : MSt} (hi : SI X W tg iter src) (hg : SG X W vs tg g) (hb : SSs X W body b) (hp : PassesOwn (model X.prog X.w) X.A X.env X.xe) (hc : X.calm = true := by kernel_rfl)
    (hs : ∀ x, foldedSetIterable iter X.env x = pure x := by intro _; kernel_rfl) : SS X W (.For tg iter body [] pos) (mFor src g b) := by
  refine psImp (ps_for hp hc hi hg hb hs) fun D σ H ⟨r, ms, mh, rs, rh, p⟩ => ?_
  refine ⟨r, ms, mh, rs, rh, SPost.ofS p rs fun a h1 r1 H1 J st1 rh1 wk p1 => ?_⟩
  refine ⟨fun i n σ H => n = a.1.length - i ∧ i ≤ a.1.length ∧ ∃ r ms mh, Stp r1 H1 r H ∧ RS X.K X.gw H r ms σ ∧ RH X.K X.gw r mh H ∧ SPost X.K X.gw W r H (mLoop a.2 g b (a.1.drop i) ms mh) D, ⟨_, rfl, Nat.zero_le _, r1, ms, h1, .refl, rs.mono st1, rh1, p1⟩, ?_⟩
  rintro i n σ H ⟨rfl, hle, r, ms, mh, st, rs, rh, p⟩
  by_cases hi : i < a.1.length
  · right
    rw [List.drop_eq_getElem_cons hi] at p
    unfold mLoop at p
    split at p
    · rename_i hchk
      obtain ⟨w1, w2⟩ := wk i r H mh st rh hchk
      obtain ⟨go, yl⟩ := w1 _ (List.getElem?_eq_getElem hi)
      refine ⟨go, fun σ' H' => i + 1 ≤ a.1.length ∧ ∃ r ms mh, Stp r1 H1 r H' ∧ RS X.K X.gw H' r ms σ' ∧ RH X.K X.gw r mh H' ∧ SPost X.K X.gw W r H' (mLoop a.2 g b (a.1.drop (i + 1)) ms mh) D, fun σ' H' h => ⟨_, by omega, rfl, h⟩, fun x H' hy => ?_⟩
      obtain ⟨y1, y2, y3⟩ := yl x H' hy
      refine ⟨r, ms, mh, _, rs.mono y3, y1, y2, ?_⟩
      cases eg : g a.1[i] ms mh with
      | nx ms1 h1 =>
        rw [eg] at p
        simp only [] at p
        refine fun r2 H2 σ2 st2 rh2 rs2 _ => ⟨r2, ms1, h1, rs2, rh2, ?_⟩
        cases eb : b ms1 h1 with
        | nx ms2 h2 => rw [eb] at p; exact fun r3 H3 σ3 st3 rh3 rs3 => ⟨hi, r3, ms2, h2, st.trans (y3.trans (st2.trans st3)), rs3, rh3, p.stp (y3.trans (st2.trans st3))⟩
        | ct ms2 h2 => rw [eb] at p; exact fun r3 H3 σ3 st3 rh3 rs3 => ⟨hi, r3, ms2, h2, st.trans (y3.trans (st2.trans st3)), rs3, rh3, p.stp (y3.trans (st2.trans st3))⟩
        | bk ms2 h2 => rw [eb] at p; exact fun r3 H3 σ3 st3 => p r3 H3 σ3 (y3.trans (st2.trans st3))
        | rt d h2 => rw [eb] at p; exact fun r3 H3 v st3 => p r3 H3 v (y3.trans (st2.trans st3))
        | exc c fs ms2 h2 => rw [eb] at p; exact fun r3 H3 σ3 cv dx st3 => p r3 H3 σ3 cv dx (y3.trans (st2.trans st3))
        | bad => rw [eb] at p; exact p.elim
      | exc c fs ms1 h1 => rw [eg] at p; exact fun r3 H3 σ3 cv dx st3 => p r3 H3 σ3 cv dx (y3.trans st3)
      | bk _ _ => rw [eg] at p; exact p.elim
      | ct _ _ => rw [eg] at p; exact p.elim
      | rt _ _ => rw [eg] at p; exact p.elim
      | bad => rw [eg] at p; exact p.elim
    · exact p.elim
  · left
    have e0 : a.1.drop i = [] := List.drop_eq_nil_of_le (by omega)
    rw [e0] at p
    unfold mLoop at p
    split at p
    · rename_i hchk
      obtain ⟨w1, w2⟩ := wk i r H mh st rh hchk
      exact ⟨w2 (by omega), p r H σ .refl rh rs⟩
    · exact p.elim
end
end Sm
namespace Sm
open PySem PySem.Spec PyProof.Rows L2
theorem piOr {X : Cx} {tg e : Expr} {t t' : TI} (h : PI X tg e t) (h' : PI X tg e t') : PI X tg e (fun σ H R => t σ H R ∨ t' σ H R) :=
  ⟨fun pins s σ H R I q => q.elim (h.run pins s σ H R I) (h'.run pins s σ H R I)⟩
section
variable {K : PySem.W.Frag} {mg : NW} {r0 : List Addr} {H0 : Hp}
theorem RVs.pick {r : List Addr} {H : Hp} {ds : List D} {vs : List V} {i : Nat} {d : D} {x : V} (h : RVs K mg H r ds vs) (e : ds[i]? = some d) (e2 : vs[i]? = some x) : RV K mg H r d x := by
  obtain ⟨v, z1, z2⟩ := h.get e
  rw [e2] at z1; cases z1; exact z2
theorem walks_list {n : Nat} {a : Addr} {ds : List D} (e : r0[n]? = some a) : Walks K mg r0 H0 (ds, fun h => lsAt h n = some ds) (Itl K a) := by
  intro i r H mh st rh hc
  obtain ⟨vs, z1, z2⟩ := rh.lsAt (st.at_ e) hc
  refine ⟨fun d hd => ?_, fun hi => ⟨vs, z1, by rw [← z2.len]; exact Nat.le_of_eq hi.symm⟩⟩
  obtain ⟨v, y1, y2⟩ := z2.get hd
  refine ⟨⟨vs, v, z1, y1⟩, fun x H' hy => ?_⟩
  obtain ⟨rfl, hx⟩ := hy
  exact ⟨rh, z2.pick hd (hx vs z1), .refl⟩
theorem walks_tup {a : Addr} {ds : List D} {vs : List V} (h1 : SqT K H0 a vs) (h2 : RVs K mg H0 r0 ds vs) : Walks K mg r0 H0 (ds, fun _ => True) (Itt K a) := by
  intro i r H mh st rh _
  have z1 := st.sqT h1
  have z2 := h2.mono st
  refine ⟨fun d hd => ?_, fun hi => ⟨vs, z1, by rw [← z2.len]; exact Nat.le_of_eq hi.symm⟩⟩
  obtain ⟨v, y1, y2⟩ := z2.get hd
  refine ⟨⟨vs, v, z1, y1⟩, fun x H' hy => ?_⟩
  obtain ⟨rfl, hx⟩ := hy
  exact ⟨rh, z2.pick hd (hx vs z1), .refl⟩
def chrs (z : Str) : List D := z.cps.toList.map fun c => .str ⟨#[c]⟩
theorem walks_str {z : Str} : Walks K mg r0 H0 (chrs z, fun _ => True) (Its z) := by
  intro i r H mh st rh _
  refine ⟨fun d hd => ?_, fun hi => by unfold chrs at hi; rw [List.length_map, Array.length_toList] at hi; exact Nat.le_of_eq hi.symm⟩
  unfold chrs at hd
  rw [List.getElem?_map] at hd
  cases e : z.cps.toList[i]? with
  | none => rw [e] at hd; cases hd
  | some c =>
    rw [e] at hd
    cases hd
    have e2 : z.cps[i]? = some c := by rw [← Array.getElem?_toList]; exact e
    refine ⟨(Array.getElem?_eq_some_iff.mp e2).1, fun x H' hy => ?_⟩
    obtain ⟨rfl, c', ec, rfl⟩ := hy
    rw [e2] at ec; cases ec
    exact ⟨rh, .str _, .refl⟩
def rng (lo : Int) (n : Nat) : List D := (List.range n).map fun i => .int (lo + (i : Nat))
theorem walks_rng {lo : Int} {n : Nat} : Walks K mg r0 H0 (rng lo n, fun _ => True) (Itr lo n) := by
  intro i r H mh st rh _
  refine ⟨fun d hd => ?_, fun hi => by unfold rng at hi; rw [List.length_map, List.length_range] at hi; exact Nat.le_of_eq hi.symm⟩
  unfold rng at hd
  rw [List.getElem?_map] at hd
  cases e : (List.range n)[i]? with
  | none => rw [e] at hd; cases hd
  | some c =>
    rw [e] at hd
    cases hd
    have hn : i < n := by have := (List.getElem?_eq_some_iff.mp e).1; rw [List.length_range] at this; exact this
    have ei : c = i := by rw [List.getElem?_range hn] at e; cases e; rfl
    refine ⟨hn, fun x H' hy => ?_⟩
    obtain ⟨rfl, rfl⟩ := hy
    rw [ei]
    exact ⟨rh, .int _, .refl⟩
def enumD (ds : List D) : List D := (List.range ds.length).map fun i => .tup [.int (i : Nat), ds.getD i .non]
theorem enumD_at {ds : List D} {i : Nat} {d : D} (h : (enumD ds)[i]? = some d) : ∃ x, ds[i]? = some x ∧ d = .tup [.int (i : Nat), x] := by
  unfold enumD at h
  rw [List.getElem?_map] at h
  cases e : (List.range ds.length)[i]? with
  | none => rw [e] at h; cases h
  | some c =>
    rw [e] at h
    cases h
    have hn : i < ds.length := by have := (List.getElem?_eq_some_iff.mp e).1; rw [List.length_range] at this; exact this
    have ei : c = i := by rw [List.getElem?_range hn] at e; cases e; rfl
    subst ei
    exact ⟨ds[c], List.getElem?_eq_getElem hn, by show D.tup [D.int (c : Nat), ds.getD c .non] = _; rw [List.getD_eq_getElem?_getD, List.getElem?_eq_getElem hn]; rfl⟩
theorem enumD_len (ds : List D) : (enumD ds).length = ds.length := by unfold enumD; rw [List.length_map, List.length_range]
theorem walks_enum {n : Nat} {a : Addr} {ds : List D} (e : r0[n]? = some a) : Walks K mg r0 H0 (enumD ds, fun h => lsAt h n = some ds) (IteN K a) := by
  intro i r H mh st rh hc
  obtain ⟨vs, z1, z2⟩ := rh.lsAt (st.at_ e) hc
  refine ⟨fun d hd => ?_, fun hi => ⟨vs, z1, by rw [← z2.len, ← enumD_len]; exact Nat.le_of_eq hi.symm⟩⟩
  obtain ⟨x, hx, rfl⟩ := enumD_at hd
  obtain ⟨v, y1, y2⟩ := z2.get hx
  refine ⟨⟨vs, v, z1, y1⟩, fun w H' hy => ?_⟩
  obtain ⟨T, x', o, rfl, hT, ho, rfl, hxs⟩ := hy
  exact ⟨rh.other hT, rv_newT hT ho (.cons (.int _) (.cons (z2.pick hx (hxs vs z1)) .nil)), stp_new hT⟩
end
/-- a list, a tuple, a text -/
def iSeq (m : ME) : MI := fun ms h => (m ms h).bind fun d h1 => match d with
  | .tup ds => .ok (ds, fun _ => True) h1
  | .str z => .ok (chrs z, fun _ => True) h1
  | .ref n => match lsAt h1 n with
    | some ds => .ok (ds, fun h => lsAt h n = some ds) h1
    | none => .bad
  | _ => .bad
def iRange1 (n : MA) : MI := fun ms h => (n ms h).bind fun ds h1 => match ds with
  | [.int j] => if -(2 ^ 62) ≤ j ∧ j < 2 ^ 62 then .ok (rng 0 j.toNat, fun _ => True) h1 else .bad
  | _ => .bad
def iRange2 (n : MA) : MI := fun ms h => (n ms h).bind fun ds h1 => match ds with
  | [.int i, .int j] => if -(2 ^ 62) ≤ i ∧ i < 2 ^ 62 ∧ -(2 ^ 62) ≤ j ∧ j < 2 ^ 62 then .ok (rng i (j - i).toNat, fun _ => True) h1 else .bad
  | _ => .bad
section
variable {X : Cx} {W : WX} {tg e e2 : Expr} {m : ME} {n : MA} {p pos : Pos}
theorem si_seq (h : SE X W e m) : SI X W tg e (iSeq m) := by
  refine piImp (piOr (pi_list h) (piOr (pi_tup h) (pi_str h))) fun σ H R ⟨r, ms, mh, rs, rh, p⟩ => ?_
  unfold iSeq at p
  cases em : m ms mh with
  | bad => rw [em] at p; exact p.elim
  | exc c fs h1 =>
    rw [em] at p
    exact .inl ⟨r, ms, mh, rs, rh, by rw [em]; exact p⟩
  | ok d h1 =>
    rw [em] at p
    cases d with
    | tup ds =>
      refine .inr (.inl ⟨r, ms, mh, rs, rh, ?_⟩)
      rw [em]
      intro r1 H1 v st1 rh1 q
      cases q with
      | tup z1 _ z2 => exact ⟨_, rfl, ⟨_, z1⟩, p r1 H1 _ st1 rh1 (walks_tup z1 z2)⟩
    | str z =>
      refine .inr (.inr ⟨r, ms, mh, rs, rh, ?_⟩)
      rw [em]
      intro r1 H1 v st1 rh1 q
      cases q
      exact ⟨_, rfl, p r1 H1 _ st1 rh1 walks_str⟩
    | ref n =>
      have p2 : Post X.K X.gw W (fun H r a J => Walks X.K X.gw r H a J) r H σ (match lsAt h1 n with
        | some ds => Out.ok (ds, fun h => lsAt h n = some ds) h1
        | none => .bad) R := p
      clear p
      split at p2
      · rename_i ds el
        refine .inl ⟨r, ms, mh, rs, rh, ?_⟩
        rw [em]
        intro r1 H1 v st1 rh1 q
        cases q with
        | ref z1 =>
          obtain ⟨vs, y1, y2⟩ := rh1.lsAt z1 el
          exact ⟨_, rfl, ⟨vs, y1⟩, p2 r1 H1 _ st1 rh1 (walks_list z1)⟩
      · exact p2.elim
    | _ => exact p.elim
theorem si_range1 (hm : X.mg "range" = none) (ha : SA X W [e] n) (hg : X.env.kindOf "range" = some .globalImplicit := by kernel_rfl) (hs : starEach [e] X.env = [(false, eval e X.env)] := by kernel_rfl) : SI X W tg (.Call (.Name "range" p) [e] [] pos) (iRange1 n) := by
  refine piImp (pi_range1 hg hm ha hs) fun σ H R ⟨r, ms, mh, rs, rh, p⟩ => ?_
  refine ⟨r, ms, mh, rs, rh, p.bind fun ds h1 r1 H1 vs st1 rh1 rvs p1 => ?_⟩
  split at p1
  · obtain ⟨v, rfl, q⟩ := rvs.one
    cases q
    split at p1
    · rename_i hb
      exact ⟨_, rfl, hb.1, hb.2, p1 r1 H1 _ .refl rh1 walks_rng⟩
    · exact p1.elim
  · exact p1.elim
end
end Sm
namespace Sm
open PySem PySem.Spec PyProof.Rows L2
def wipeM (ms : MS) : List Nat → MS
  | [] => ms
  | v :: vs => (wipeM ms vs).set v none
theorem RS.wipe {K : PySem.W.Frag} {mg : NW} {r : List Addr} {H : Hp} {ms : MS} {σ : L2.St} (rs : RS K mg H r ms σ) : ∀ vs : List Nat, RS K mg H r (wipeM ms vs) (wipe σ vs)
  | [] => rs
  | v :: vs => by
    have ih := RS.wipe rs vs
    refine ⟨by unfold wipeM L2.wipe; rw [List.length_set, List.length_set]; exact ih.1, fun j d h => ?_⟩
    unfold wipeM at h
    unfold L2.wipe
    by_cases hj : v = j
    · subst hj
      by_cases hl : v < (wipeM ms vs).length
      · rw [List.getElem?_set_self hl] at h; cases h
      · rw [List.getElem?_eq_none_iff.mpr (by rw [List.length_set]; omega)] at h; cases h
    · rw [List.getElem?_set_ne hj] at h
      rw [List.getElem?_set_ne hj]
      exact ih.2 j d h
/-- behind an answer, in a comprehension: nothing raised -/
def W0 : WX := fun _ _ _ _ => False
open Classical in
noncomputable def lcLoop (chk : MH → Prop) (k : Nat) (vs : List Nat) (ms : MS) (g : MG) (t : MT) (m : ME) : List D → MH → Out Unit
  | [], h => if chk h then .ok () h else .bad
  | d :: ds, h => if chk h then (match g d (wipeM ms vs) h with
      | .nx ms1 h1 => (match t ms1 h1 with
        | .ok true h2 => (match m ms1 h2 with
          | .ok y h3 => (match h3[k]? with
            | some (.lst acc) => if acc.length < sizeLine then lcLoop chk k vs ms g t m ds (h3.set k (.lst (acc ++ [y]))) else .bad
            | _ => .bad)
          | _ => .bad)
        | .ok false h2 => lcLoop chk k vs ms g t m ds h2
        | _ => .bad)
      | _ => .bad) else .bad
noncomputable def mLc (src : MI) (vs : List Nat) (g : MG) (t : MT) (m : ME) : ME := fun ms h => (src ms h).bind fun a h1 => (lcLoop a.2 h1.length vs ms g t m a.1 (h1 ++ [.lst []])).bind fun _ h2 => .ok (.ref h1.length) h2
abbrev STs (X : Cx) (W : WX) (ifs : List Expr) (m : MT) : Prop := PTs X ifs (Sim X.K X.gw W (fun _ _ (a b : Bool) => a = b) m)
def mYes : MT := fun _ h => .ok true h
section
variable {X : Cx} {W : WX} {elt kx vx tg iter c : Expr} {ifs : List Expr} {scope : Scope} {own : List (Str × Nat)} {pos : Pos} {src : MI} {g : MG} {t : MT} {m mk mv : ME}
theorem sts_nil : STs X W [] mYes := ⟨fun pins s σ H Q I ⟨r, ms, mh, rs, rh, p⟩ => pts_nil.run pins s σ H Q I (p r H true .refl rh rfl)⟩
theorem sts_one (h : ST X W c t) : STs X W [c] t := pts_one h
/-- the block of a comprehension in X -/
abbrev Blk (X : Cx) (scope : Scope) (P : Cx → Prop) : Prop := ∀ (s : Shared) (H : Hp) (C : Addr) (cl : List (Str × Addr)) (fp : List Addr), P (X.blk s H scope (compEnvC scope cl C X.env) fp)
theorem dic_new {K : PySem.W.Frag} {mg : NW} {H : Hp} {r : List Addr} {mh : MH} {p : Addr} (rh : RH K mg r mh H) (hp : H p = none) :
    Stp r H (r ++ [p]) (upd H p (.dK [])) ∧ RH K mg (r ++ [p]) (mh ++ [.dic []]) (upd H p (.dK [])) ∧ RV K mg (upd H p (.dK [])) (r ++ [p]) (.ref mh.length) (.ref p) :=
  ⟨(stp_new hp).trans (stp_ext ⟨[p], rfl⟩), rh.new hp ⟨[], upd_same, .nil⟩, ref_new K mg rh.len⟩
theorem lc_run {σ : L2.St} {H : Hp} {Q : VK} (h : Sim X.K X.gw W (RV X.K X.gw) (mLc src (own.map (·.2)) g t m) σ H Q) :
    tLc (Sim X.K X.gw W (fun H r a J => Walks X.K X.gw r H a J) src) (SimG X.K X.gw W0 (own.map (·.2)) g) (Sim X.K X.gw W0 (fun _ _ (a b : Bool) => a = b) t) (Sim X.K X.gw W0 (RV X.K X.gw) m) (own.map (·.2)) σ H Q := by
  obtain ⟨r, ms, mh, rs, rh, p⟩ := h
  refine ⟨r, ms, mh, rs, rh, p.bind fun a h1 r1 H1 J st1 rh1 wk p1 => ?_⟩
  intro D hD
  obtain ⟨y1, y2, y3⟩ := lst_new rh1 hD (RVs.nil (K := X.K) (mg := X.gw) (H := H1) (r := r1))
  have rs1 : RS X.K X.gw (upd H1 D (.lst [])) (r1 ++ [D]) ms σ := rs.mono (st1.trans y1)
  refine ⟨fun i n H' => n = a.1.length - i ∧ i ≤ a.1.length ∧ ∃ r mh, Stp (r1 ++ [D]) (upd H1 D (.lst [])) r H' ∧ RH X.K X.gw r mh H' ∧
    Post X.K X.gw W (fun _ _ (_ _ : Unit) => True) r H' σ (lcLoop a.2 h1.length (own.map (·.2)) ms g t m (a.1.drop i) mh) (fun _ H2 => ∀ r2 mh2, Stp (r1 ++ [D]) (upd H1 D (.lst [])) r2 H2 → RH X.K X.gw r2 mh2 H2 → Q (.ref D) H2), ⟨_, rfl, Nat.zero_le _, _, _, .refl, y2, ?_⟩, ?_⟩
  · have p2 := Post.stp y1 p1
    cases el : lcLoop a.2 h1.length (own.map (·.2)) ms g t m a.1 (h1 ++ [.lst []]) with
    | ok u h2 =>
      rw [el] at p2
      show Post X.K X.gw W _ _ _ σ (lcLoop a.2 h1.length (own.map (·.2)) ms g t m a.1 (h1 ++ [.lst []])) _
      rw [el]
      intro r2 H2 b st2 rh2 _ r3 mh3 st3 rh3
      exact p2 r2 H2 (.ref D) st2 rh2 (y3.mono st2)
    | exc c fs h2 =>
      rw [el] at p2
      show Post X.K X.gw W _ _ _ σ (lcLoop a.2 h1.length (own.map (·.2)) ms g t m a.1 (h1 ++ [.lst []])) _
      rw [el]
      exact p2
    | bad => rw [el] at p2; exact p2.elim
  · rintro i n H' ⟨rfl, hle, r, mh, st, rh, p⟩
    have st0 : Stp r1 H1 r H' := y1.trans st
    have eD : r[h1.length]? = some D := by
      refine st.at_ ?_
      rw [← rh1.len, List.getElem?_append_right (Nat.le_refl _), Nat.sub_self]; rfl
    by_cases hi : i < a.1.length
    · right
      rw [List.drop_eq_getElem_cons hi] at p
      unfold lcLoop at p
      split at p
      · rename_i hchk
        obtain ⟨w1, w2⟩ := wk i r H' mh st0 rh hchk
        obtain ⟨go, yl⟩ := w1 _ (List.getElem?_eq_getElem hi)
        refine ⟨go, fun H' => i + 1 ≤ a.1.length ∧ ∃ r mh, Stp (r1 ++ [D]) (upd H1 D (.lst [])) r H' ∧ RH X.K X.gw r mh H' ∧
          Post X.K X.gw W (fun _ _ (_ _ : Unit) => True) r H' σ (lcLoop a.2 h1.length (own.map (·.2)) ms g t m (a.1.drop (i + 1)) mh) (fun _ H2 => ∀ r2 mh2, Stp (r1 ++ [D]) (upd H1 D (.lst [])) r2 H2 → RH X.K X.gw r2 mh2 H2 → Q (.ref D) H2), fun H' h => ⟨_, by omega, rfl, h⟩, fun x H2 hy => ?_⟩
        obtain ⟨z1, z2, z3⟩ := yl x H2 hy
        refine ⟨r, wipeM ms (own.map (·.2)), mh, _, (rs1.mono (st.trans z3)).wipe _, z1, z2, ?_⟩
        cases eg : g a.1[i] (wipeM ms (own.map (·.2))) mh with
        | nx ms1 h2 =>
          rw [eg] at p
          simp only [] at p
          intro r3 H3 σ3 st3 rh3 rs3 hw
          refine ⟨by
            rw [hw]
            have ww : ∀ (vs : List Nat) (τ : L2.St), wipe (wipe τ vs) vs = wipe τ vs := by
              intro vs τ
              apply List.ext_getElem?
              intro j
              have key : ∀ (us : List Nat) (τ : L2.St), (wipe τ us)[j]? = if j ∈ us then (if j < τ.length then some none else none) else τ[j]? := by
                intro us
                induction us with
                | nil => intro τ; show τ[j]? = _; rw [if_neg (by simp)]
                | cons u us ih =>
                  intro τ
                  show ((wipe τ us).set u none)[j]? = _
                  by_cases hj : u = j
                  · subst hj
                    rw [if_pos List.mem_cons_self]
                    by_cases hl : u < τ.length
                    · rw [if_pos hl, List.getElem?_set_self (by rw [wipe_length]; exact hl)]
                    · rw [if_neg hl, List.getElem?_eq_none_iff.mpr (by rw [List.length_set, wipe_length]; omega)]
                  · rw [List.getElem?_set_ne hj, ih τ]
                    by_cases hm : j ∈ us
                    · rw [if_pos hm, if_pos (List.mem_cons_of_mem _ hm)]
                    · rw [if_neg hm, if_neg (fun z => (List.mem_cons.mp z).elim (fun q => hj q.symm) hm)]
              rw [key vs (wipe τ vs), key vs τ, wipe_length]
              split <;> rfl
            exact ww _ _, ?_⟩
          refine ⟨r3, ms1, h2, rs3, rh3, ?_⟩
          cases et : t ms1 h2 with
          | bad => rw [et] at p; exact p.elim
          | exc c fs h3 => rw [et] at p; exact p.elim
          | ok b h3 =>
            rw [et] at p
            intro r4 H4 b4 st4 rh4 eb
            subst eb
            have S4 := z3.trans (st3.trans st4)
            cases b with
            | false =>
              simp only [] at p
              rw [if_neg Bool.false_ne_true]
              exact ⟨hi, r4, h3, st.trans S4, rh4, Post.stp S4 p⟩
            | true =>
              simp only [] at p
              rw [if_pos rfl]
              refine ⟨r4, ms1, h3, rs3.mono st4, rh4, ?_⟩
              cases em : m ms1 h3 with
              | bad => rw [em] at p; exact p.elim
              | exc c fs h4 => rw [em] at p; exact p.elim
              | ok y h4 =>
                rw [em] at p
                simp only [] at p
                intro r5 H5 yv st5 rh5 rvy
                have S5 := S4.trans st5
                cases ek : h4[h1.length]? with
                | none => rw [ek] at p; exact p.elim
                | some ok =>
                  rw [ek] at p
                  cases ok with
                  | lst acc =>
                    simp only [] at p
                    split at p
                    · rename_i hz
                      have eD5 := S5.at_ eD
                      obtain ⟨accv, q1, q2⟩ := rh5.lstAt eD5 ek
                      obtain ⟨u1, u2⟩ := lst_set rh5 eD5 ek q1 (q2.app (.cons rvy .nil))
                      exact ⟨accv, q1, by rw [← q2.len]; exact hz, hi, r5, _, st.trans (S5.trans u1), u2, Post.stp (S5.trans u1) p⟩
                    · exact p.elim
                  | _ => exact p.elim
        | exc c fs ms1 h2 => rw [eg] at p; exact p.elim
        | bk _ _ => rw [eg] at p; exact p.elim
        | ct _ _ => rw [eg] at p; exact p.elim
        | rt _ _ => rw [eg] at p; exact p.elim
        | bad => rw [eg] at p; exact p.elim
      · exact p.elim
    · left
      have e0 : a.1.drop i = [] := List.drop_eq_nil_of_le (by omega)
      rw [e0] at p
      unfold lcLoop at p
      split at p
      · rename_i hchk
        obtain ⟨w1, w2⟩ := wk i r H' mh st0 rh hchk
        exact ⟨w2 (by omega), p r H' () .refl rh trivial r mh st rh⟩
      · exact p.elim
end
end Sm
namespace Sm
open PySem PySem.Spec PyProof.Rows L2
section
variable {X : Cx} {W : WX} {elt kx vx tg iter c : Expr} {ifs : List Expr} {scope : Scope} {own : List (Str × Nat)} {pos : Pos} {src : MI} {g : MG} {t : MT} {m mk mv : ME}
theorem s_lc (hN : X.N.Nodup) (hi : SI X W tg iter src) (ok : blkC X.N X.env.scope scope own = true)
    (hg : Blk X scope fun Y => SG Y W0 (own.map (·.2)) tg g) (ht : Blk X scope fun Y => STs Y W0 ifs t) (he : Blk X scope fun Y => SE Y W0 elt m) (hc : X.calm = true := by kernel_rfl) (hs : ∀ x, foldedSetIterable iter X.env x = pure x := by intro _; kernel_rfl) :
    SE X W (.ListComp elt [⟨tg, iter, ifs, 0⟩] scope pos) (mLc src (own.map (·.2)) g t m) :=
  peImp (pe_lc hc hN hi (blkOk_by ok) hg ht he hs) fun _ _ _ h => lc_run h
end
def OutS.fin (o : OutS) : Out D := match o with
  | .nx _ h => .ok .non h
  | .rt d h => .ok d h
  | .exc c fs _ h => .exc c fs h
  | _ => .bad
/-- the promise of a def whose mirror is f -/
def spM (K : PySem.W.Frag) (mg : NW) (n : Nat) (f : MF) : Sp := fun vs H Q E => vs.length = n ∧ ∃ r ds mh, RVs K mg H r ds vs ∧ RH K mg r mh H ∧ Post K mg (fun c d _ H => E c d H) (RV K mg) r H [] (f ds mh) Q
/-- the def called x, of n parameters, has the mirror f at level k -/
def FnS (P : Program) (w : World) (K : PySem.W.Frag) (mg : Str → Option Value) (base : Heap) (k : Nat) (x : Str) (ps : List Str) (f : MF) : Prop :=
  ∃ (fa : Addr) (fd : FuncData), mg x = some (.ref fa) ∧ PySem.W.keepIn K (.ref fa) = true ∧ (∃ oc od osl, K.lookup fa = some ⟨oc, od, .func fd, osl⟩) ∧ (∀ (s : Shared) (us : List Value), us.length = ps.length → BindsTo s fd ⟨us, []⟩ (ps.zip us)) ∧ FnOk P w K mg base (L2.CX P w) k fa fd ps (spM K ⟨mg, w⟩ ps.length f)
theorem binds_n {K : PySem.W.Frag} {fd : FuncData} {ps : List Str} (h : ∀ (s : Shared) (us : List Value), us.length = ps.length → BindsTo s fd ⟨us, []⟩ (ps.zip us)) : Binds K fd ps [] := fun s us _ hl => by
  rw [List.append_nil] at hl ⊢
  exact h s us hl
def ALen (m : MA) (n : Nat) : Prop := ∀ ms h ds h', m ms h = .ok ds h' → ds.length = n
theorem alen_nil : ALen aNil 0 := fun ms h ds h' e => by cases e; rfl
theorem alen_cons {m : ME} {a : MA} {n : Nat} (h : ALen a n) : ALen (aCons m a) (n + 1) := fun ms h0 ds h' e => by
  unfold aCons at e
  cases e1 : m ms h0 with
  | ok d h1 =>
    rw [e1] at e
    change (a ms h1).bind (fun ds h2 => Out.ok (d :: ds) h2) = _ at e
    cases e2 : a ms h1 with
    | ok es h3 => rw [e2] at e; cases e; rw [List.length_cons, h ms h1 es _ e2]
    | exc c fs h2 => rw [e2] at e; cases e
    | bad => rw [e2] at e; cases e
  | exc c fs h1 => rw [e1] at e; cases e
  | bad => rw [e1] at e; cases e
theorem FnS.mono {P : Program} {w : World} {K : PySem.W.Frag} {mg : Str → Option Value} {base : Heap} {j k : Nat} {x : Str} {ps : List Str} {f : MF} (F : FnS P w K mg base j x ps f) (h : j ≤ k) : FnS P w K mg base k x ps f := by
  obtain ⟨fa, fd, h1, h2, h3, h4, h5⟩ := F
  exact ⟨fa, fd, h1, h2, h3, h4, h5.mono h⟩
section
variable {X : Cx} {W : WX} {e : Expr} {es : List Expr} {m : MA} {p pos : Pos} {x : Str} {k : Nat} {ps : List Str} {f : MF}
theorem Post.atE {K : PySem.W.Frag} {mg : NW} {α β : Type} {RR : Hp → List Addr → α → β → Prop} {r : List Addr} {H : Hp} {σ : L2.St} {o : Out α} {Q : β → Hp → Prop} (h : Post K mg W RR r H σ o Q) : Post K mg (fun c d _ H => W c d σ H) RR r H [] o Q := by
  cases o with
  | ok a h1 => exact h
  | exc c fs h1 => exact h
  | bad => exact h
theorem s_call (F : FnS X.prog X.w X.K X.mg X.base k x ps f) (hr : Room k X.A) (tk : Takes X W) (ha : SA X W (e :: es) m) (hl : ALen m ps.length) (hg : X.env.kindOf x = some .globalImplicit := by kernel_rfl) (hdb : (x == ("__debug__" : Str)) = false := by kernel_rfl)
    (he : starEach (e :: es) X.env = (false, eval e X.env) :: starEach es X.env := by kernel_rfl) (hpl : (backTo pos (starEach es X.env)).any (·.1) = false := by kernel_rfl) : SE X W (.Call (.Name x p) (e :: es) [] pos) (mCall f m) := by
  obtain ⟨fa, fd, h1, h2, h3, h4, h5⟩ := F
  have h4 := binds_n (K := X.K) h4
  refine peImp (pe_callSD h5 hr hg h1 h2 h4 .nil (fun σ => passAt tk σ) ha hdb he hpl) fun σ H Q ⟨r, ms, mh, rs, rh, q⟩ => ?_
  cases em : m ms mh with
  | bad =>
    have q' : Post X.K X.gw W (RV X.K X.gw) r H σ (mCall f m ms mh) Q := q
    unfold mCall at q'
    rw [em] at q'
    exact q'.elim
  | exc c fs h1' =>
    refine ⟨r, ms, mh, rs, rh, ?_⟩
    have q' : Post X.K X.gw W (RV X.K X.gw) r H σ (mCall f m ms mh) Q := q
    unfold mCall at q'
    rw [em] at q' ⊢
    exact q'
  | ok ds h1' =>
    refine ⟨r, ms, mh, rs, rh, ?_⟩
    have q' : Post X.K X.gw W (RV X.K X.gw) r H σ (mCall f m ms mh) Q := q
    unfold mCall at q'
    rw [em] at q' ⊢
    intro r1 H1 vs st1 rh1 rvs
    exact ⟨by rw [List.append_nil, ← rvs.len]; exact hl _ _ _ _ em, r1, ds, h1', by rw [List.append_nil]; exact rvs, rh1, (Post.stp st1 q').atE⟩
end
def mDef (nn : Nat) (b : MSt) : MF := fun ds h => (b (ds.map some ++ List.replicate (nn - ds.length) none) h).fin
section
variable {P : Program} {w : World} {K : PySem.W.Frag} {mg : Str → Option Value} {base : Heap} {x : Str} {st : Stmt} {fa : Addr} {fd : FuncData} {N ps : List Str} {k : Nat} {b : MSt}
theorem rs_start {mg : NW} {r : List Addr} {H : Hp} {ds : List D} {vs : List V} (h : RVs K mg H r ds vs) (n : Nat) : RS K mg H r (ds.map some ++ List.replicate (n - ds.length) none) (vs.map some ++ List.replicate (n - vs.length) none) := by
  have hl := h.len
  refine ⟨by simp [hl], fun i d e => ?_⟩
  by_cases hi : i < ds.length
  · rw [List.getElem?_append_left (by simpa using hi), List.getElem?_map] at e
    cases ed : ds[i]? with
    | none => rw [ed] at e; cases e
    | some d' =>
      rw [ed] at e
      cases e
      obtain ⟨v, z1, z2⟩ := h.get ed
      exact ⟨v, by rw [List.getElem?_append_left (by rw [List.length_map, ← hl]; exact hi), List.getElem?_map, z1]; rfl, z2⟩
  · rw [List.getElem?_append_right (by simpa using hi), List.getElem?_replicate] at e
    split at e <;> cases e
end
end Sm
namespace Sm
open PySem PySem.Spec PyProof.Rows L2
theorem bb_len : bootBuiltins "len" = some (.builtin "len") := by first | exact boot_len | decide +kernel
theorem bb_abs : bootBuiltins "abs" = some (.builtin "abs") := by first | exact boot_abs | decide +kernel
theorem bb_min : bootBuiltins "min" = some (.builtin "min") := by first | exact boot_min | decide +kernel
theorem bb_all : bootBuiltins "all" = some (.builtin "all") := by first | exact boot_all | decide +kernel
theorem bb_isinstance : bootBuiltins "isinstance" = some (.builtin "isinstance") := by first | exact boot_isinstance | decide +kernel
theorem bb_repr : bootBuiltins "repr" = some (.builtin "repr") := by first | exact boot_repr | decide +kernel
theorem bb_list : bootBuiltins "list" = some (.type "list") := by first | exact boot_list | decide +kernel
theorem bb_tuple : bootBuiltins "tuple" = some (.type "tuple") := by first | exact boot_tuple | decide +kernel
theorem bb_int : bootBuiltins "int" = some (.type "int") := by first | exact boot_int | decide +kernel
theorem bb_str : bootBuiltins "str" = some (.type "str") := by first | exact boot_str | decide +kernel
theorem bb_bool : bootBuiltins "bool" = some (.type "bool") := by first | exact boot_bool | decide +kernel
theorem hu64 {k : Nat} {A : Around} (hr : Room k A) : A.units + 64 < cLine := hr.units
theorem hu65 {k : Nat} {A : Around} (hr : Room k A) : A.units + 65 < cLine := by have := hr.un; omega
theorem hu1 {k : Nat} {A : Around} (hr : Room k A) : A.units + 1 < cLine := by have := hr.un; omega
section
variable {P : Program} {w : World} {K : PySem.W.Frag} {mg : Str → Option Value} {base : Heap} {nm x qual : Str} {st : Stmt} {fa : Addr} {fd : FuncData} {N ps : List Str} {k n : Nat} {b : MSt}
/-- a def of the text keeps the mirror of its body -/
theorem fn_ok (F : FunD K x qual (defArgs st) (defBody st) (defScope st) [] [] fa fd) (g : mg nm = some (.ref fa)) (S : FnScope N ps (defScope st))
    (hbind : ∀ (kV doc pm : Value) (an : Option Addr) (cdv ct : Value) (us : List Value), us.length = ps.length → bindArgs (PySem.W.fnOf x qual (defArgs st) (defBody st) (defScope st) .none kV doc pm an cdv ct) ⟨us, []⟩ = pure (ps.zip us))
    (hb : ∀ (cdv : Value) (A : Around) (outer : List Env) (s : Shared) (H : Hp) (E : XK), Room k (A.deeper (envOfC qual (defScope st) s.heap.objs.size fa cdv)) →
      Takes (cxOf (L2.CX P w) P w K mg base N qual (defScope st) fa cdv A outer s H E) (fun c d _ H => E c d H) →
      PassesOwn (model P w) (cxOf (L2.CX P w) P w K mg base N qual (defScope st) fa cdv A outer s H E).A (cxOf (L2.CX P w) P w K mg base N qual (defScope st) fa cdv A outer s H E).env (cxOf (L2.CX P w) P w K mg base N qual (defScope st) fa cdv A outer s H E).xe →
      SSs (cxOf (L2.CX P w) P w K mg base N qual (defScope st) fa cdv A outer s H E) (fun c d _ H => E c d H) (defBody st) b) :
    FnS P w K mg base (k + 1) nm ps (mDef N.length b) := by
  have bb := F.bindsA hbind
  have kp := F.kp
  obtain ⟨oc, od, dV, kV, doc, pm, an, cdv, ct, osl, rfl, lk, hcd, _, _⟩ := F.ex
  refine ⟨fa, _, g, kp, ⟨_, _, _, lk⟩, bb, ?_⟩
  refine fn_of lk hcd S (fun vs H Q E h => h.1) fun A outer s H vs Q E hr hsp => ?_
  refine ⟨_, hb cdv A outer s H E hr (takes_of rfl rfl rfl rfl) (passes_of rfl), ?_⟩
  obtain ⟨hn, r, ds, mh, rvs, rh, p⟩ := hsp
  refine ⟨r, _, mh, rs_start rvs N.length, rh, ?_⟩
  unfold mDef at p
  cases eb : b (ds.map some ++ List.replicate (N.length - ds.length) none) mh with
  | nx ms h => rw [eb] at p; exact fun r' H' σ' st rh' _ => p r' H' .non st rh' .non
  | rt d h => rw [eb] at p; exact p
  | exc c fs ms h => rw [eb] at p; exact fun r' H' σ' cv dx st rh' _ rx => p r' H' cv dx st rh' rx
  | bk _ _ => rw [eb] at p; exact p.elim
  | ct _ _ => rw [eb] at p; exact p.elim
  | bad => rw [eb] at p; exact p.elim
end
section
variable {X : Cx} {W : WX} {x : Str} {pos : Pos} {m ma : ME} {e a : Expr}
theorem s_glo {i : Int} (h : ∃ t, X.mg x = some (.int i t)) (hg : X.env.kindOf x = some .globalImplicit := by kernel_rfl) (hd : (x == ("__debug__" : Str)) = false := by kernel_rfl) : SE X W (.Name x pos) (mC (.int i)) := by
  obtain ⟨t, h⟩ := h
  exact s_const (v := .int i) (pe_glob hg h ⟨t, rfl⟩ hd) fun _ _ => .int i
theorem s_ty {T : String} (hm : X.mg x = none) (hg : X.env.kindOf x = some .globalImplicit := by kernel_rfl) (hv : bootBuiltins x = some (.type T) := by decide +kernel) (hn : (x == ("__name__" : Str)) = false := by kernel_rfl) (hd : (x == ("__debug__" : Str)) = false := by kernel_rfl) : SE X W (.Name x pos) (mC (.ty T)) :=
  s_const (v := .ty T) (pe_bltn hg hm hv rfl (neq_of hn) hd) fun _ _ => .ty T
def lRg (i j : Int) (h : MH) : Out D := if -(2 ^ 62) ≤ i ∧ i < 2 ^ 62 ∧ -(2 ^ 62) ≤ j ∧ j < 2 ^ 62 ∧ (j - i).toNat ≤ 2 ^ 24 then .ok (.ref h.length) (h ++ [.lst (rng i (j - i).toNat)]) else .bad
def mListRg1 (m : ME) : ME := fun ms h => (m ms h).bind fun d h1 => match d with
  | .int j => lRg 0 j h1
  | _ => .bad
def mListRg2 (m ma : ME) : ME := fun ms h => (m ms h).bind fun d h1 => (ma ms h1).bind fun e h2 => match d, e with
  | .int i, .int j => lRg i j h2
  | _, _ => .bad
def pairsD : List D → Option (List (Key × D × D))
  | [] => some []
  | .tup [k, v] :: r => match keyD k, pairsD r with
    | some c, some ps => some ((c, k, v) :: ps)
    | _, _ => none
  | _ :: _ => none
def mrgD (kvs : List (D × D)) (ps : List (Key × D × D)) : List (D × D) := ps.foldl (fun acc p => putD acc p.1 p.2.1 p.2.2) kvs
def fDict : MF := fun ds h => match (onL h ds).bind pairsD with
  | some ps => .ok (.ref h.length) (h ++ [.dic (mrgD [] ps)])
  | none => .bad
def mDnew : ME := fun _ h => .ok (.ref h.length) (h ++ [.dic []])
theorem s_dnew : SE X W (.Dict [] [] pos) mDnew := by
  refine peImp pe_dnewK fun σ H Q ⟨r, ms, mh, rs, rh, p⟩ q hq => ?_
  obtain ⟨y1, y2, y3⟩ := dic_new rh hq
  exact p _ _ _ y1 y2 y3
end
end Sm
namespace Sm
open PySem PySem.Spec PyProof.Rows L2
structure Facts (fn : List He.DefD) (fre : List Str) (cis : List (Str × Int)) (K : PySem.W.Frag) (mg : Str → Option Value) : Prop where
  def_ : ∀ (i : Nat) {d : He.DefD}, fn[i]? = some d → ∃ fa fd, mg d.name = some (.ref fa) ∧ FunD K d.name d.qual d.params d.body d.scope [] [] fa fd
  fre : ∀ (i : Nat) {x : Str}, fre[i]? = some x → mg x = none
  int : ∀ (i : Nat) {p : Str × Int}, cis[i]? = some p → ∃ t, mg p.1 = some (.int p.2 t)
def faOf (fn : List He.DefD) (fre : List Str) (cis : List (Str × Int)) : List He.Fa := fn.map (fun d => He.Fa.glo d.name) ++ (fre.map He.Fa.free ++ cis.map fun p => He.Fa.int p.1 p.2)
def flatD (d : He.DefD) : Bool := decide (d.at_ = (d.name, none)) && (d.dfl.isEmpty && d.kwd.isEmpty)
theorem gok_of {fn : List He.DefD} {fre : List Str} {cis : List (Str × Int)} {K : PySem.W.Frag} {mg : Str → Option Value} {h : Heap} (X : K.In h) (G : h.Ns mainGlobals mg) (c : He.SaysD (faOf fn fre cis) fn K) (hf : fn.all flatD = true) : Facts fn fre cis K mg := by
  have fact : ∀ f : He.Fa, f ∈ faOf fn fre cis → f.ok K = true := fun f hm => by
    obtain ⟨i, hi, e⟩ := List.getElem_of_mem hm
    exact c.fact i (by rw [List.getElem?_eq_getElem hi, e])
  refine ⟨fun i d hd => ?_, fun i x hx => ?_, fun i p hp => ?_⟩
  · have hm := List.mem_of_getElem? hd
    have hfl := List.all_eq_true.mp hf d hm
    unfold flatD at hfl
    simp only [Bool.and_eq_true, decide_eq_true_eq, List.isEmpty_iff] at hfl
    obtain ⟨e1, e2, e3⟩ := hfl
    obtain ⟨fd, F⟩ := c.def_ i hd
    refine ⟨_, fd, He.glo_ok X G (fact (.glo d.name) (List.mem_append_left _ (List.mem_map.mpr ⟨d, hm, rfl⟩))), ?_⟩
    unfold He.DefD.dvs He.DefD.kws at F
    rw [e1, e2, e3] at F
    exact F
  · exact He.free_ok X G (fact (.free x) (List.mem_append_right _ (List.mem_append_left _ (List.mem_map.mpr ⟨x, List.mem_of_getElem? hx, rfl⟩))))
  · exact He.int_ok X G (fact (.int p.1 p.2) (List.mem_append_right _ (List.mem_append_right _ (List.mem_map.mpr ⟨p, List.mem_of_getElem? hp, rfl⟩))))
theorem rh_script {K : PySem.W.Frag} {mg : NW} {H : Hp} {a : Addr} {ns : List Int} (hS : SqL K H a (ns.map V.int)) (ht : LTab K H) : ∃ o, lsAt [o] 0 = some (ns.map D.int) ∧ RH K mg [a] [o] H := by
  have hv : ∀ ns : List Int, RVs K mg H [a] (ns.map D.int) (ns.map V.int) := fun ns => by
    induction ns with
    | nil => exact .nil
    | cons i is ih => exact .cons (.int i) ih
  have mk : ∀ o : MO, RO K mg H [a] a o → RH K mg [a] [o] H := fun o ro => by
    refine ⟨rfl, fun i j b o u h1 h2 h3 h4 h5 h6 => ?_, fun i u b h1 h2 => ?_, ht⟩
    · have hi : i = 0 := by cases i with | zero => rfl | succ i => cases h3
      have hj : j = 0 := by cases j with | zero => rfl | succ j => cases h4
      rw [hi, hj]
    · cases i with
      | zero => cases h1; cases h2; exact ro
      | succ i => cases h1
  rcases hS with (e | ⟨f, e⟩) | ⟨o, its, n, z⟩
  · exact ⟨.lst (ns.map D.int), rfl, mk _ ⟨_, e, hv ns⟩⟩
  · exact ⟨.ro (ns.map D.int), rfl, mk _ ⟨_, .inl ⟨f, e⟩, hv ns⟩⟩
  · exact ⟨.ro (ns.map D.int), rfl, mk _ ⟨_, .inr ⟨o, its, n, z⟩, hv ns⟩⟩
/-- the law's own table is not among what is known -/
def noTabB (K : PySem.W.Frag) : Bool := match PySem.W.tabIn K "law" with
  | some (_, P) => (K.lookup P).isNone
  | none => true
/-- what the law's walk may lean on besides the facts -/
abbrev LTB (K : PySem.W.Frag) (mg : Str → Option Value) (base : Heap) : Prop := ∀ c P : Addr, PySem.W.tabIn K "law" = some (c, P) → LamX.TabB base mg c P
/-- a law from its mirror -/
theorem law_fin {l : PySem.W.OpenLaw} {n k : Nat} {q : Program} {loose : List Str} {XP : (Str → Option Value) → Heap → Prop} {YP : World → Heap → Prop} {d : DefRec} {x : Str} {f : MF}
    (hn : l.most = some n) (hn2 : n ≤ sizeLine) (hdf : d.params.defaults = []) (hr : Room k callerA) (hdn : d.name = ("law" : Str)) (hrec : ((PyProof.Rows.recsOf q).find? (fun e => e.name == ("law" : Str))).isSome = true)
    (hY : ∀ (w : World) (mg : Str → Option Value) (h : Heap), YP w h → h.Ns mainGlobals mg → ∃ K : PySem.W.Frag, K.In h ∧ noTabB K = true ∧ ∀ base : Heap, LTB K mg base → FnS l.prog w K mg base k "law" [x] f)
    (pure : ∀ (ns : List Int) (o : MO), ns.length ≤ n → (∀ z ∈ ns, Builtin.Int.intBits z ≤ 1048576) → lsAt [o] 0 = some (ns.map D.int) → ∃ h, f [.ref 0] [o] = .ok (.bl true) h) :
    PySem.W.WalkO q loose XP YP l.row.toRowW d [] (fun f vs => PySem.call f vs) := by
  refine Att.attach_callB hn hdf fun w s₀ s₁ mg mb fa o pm cd doc a vs ns G Y ho hd hcd hmg hobj hints hlen hbits hg => ?_
  obtain ⟨K, KX, nT, W⟩ := hY w mg _ Y G.T.g
  obtain ⟨d', hd'⟩ := Option.isSome_iff_exists.mp hrec
  rw [hdn] at hmg
  have cs : ∀ p ∈ (PySem.W.tabIn K "law").toList, PySem.W.tabIn K "law" = some (p.1, p.2) := fun p hp => by
    cases e : PySem.W.tabIn K "law" with
    | none => rw [e] at hp; cases hp
    | some z =>
      rw [e] at hp
      have : p = z := by simpa using hp
      rw [this]
  have tb : ∀ p ∈ (PySem.W.tabIn K "law").toList, PySem.W.CodeHd s₁.heap p.1 p.2 ∧ s₁.heap.get? p.2 = some (PySem.W.tabObj #[]) := fun p hp => PySem.W.tab_of G.T KX hd' (cs p hp)
  have no : ∀ p ∈ (PySem.W.tabIn K "law").toList, K.lookup p.2 = none := fun p hp => by
    unfold noTabB at nT
    rw [cs p hp] at nT
    exact Option.isNone_iff_eq_none.mp nT
  have W' : ∀ base : Heap, (∀ p ∈ (PySem.W.tabIn K "law").toList, LamX.TabB base mg p.1 p.2) → FnS l.prog w K mg base k "law" [x] f := fun base h => W base fun c P e => h (c, P) (by rw [e]; simp)
  have hb₀ : ∀ p ∈ (PySem.W.tabIn K "law").toList, LamX.TabB s₁.heap mg p.1 p.2 := fun p hp => by
    obtain ⟨hc, hTp⟩ := tb p hp
    obtain ⟨go, ges, gep, ge, gd, _⟩ := G.T.g
    obtain ⟨bm, ob, b1, b2, b3, b4, b5, b6⟩ := G.T.bmain
    have n1 : bm ≠ mainGlobals := fun e => by
      rw [e, ge] at b3
      cases b3; rw [gd] at b6; cases b6
    have n2 : bm ≠ p.2 := fun e => by
      rw [e, hTp] at b3
      cases b3; cases b6
    exact ⟨hc, ⟨bm, ob, b1, b2, n1, n2, b3, b4, b5, b6⟩, fun e => by rw [e, hTp] at ge; cases ge; cases gd⟩
  obtain ⟨fa', fd, h1, h2, ⟨oc, od, osl, h3⟩, h4, h5⟩ := W' s₁.heap hb₀
  cases hmg.symm.trans h1
  have F : ∀ base : Heap, K.In base → base.Ns mainGlobals mg → (∀ p ∈ (PySem.W.tabIn K "law").toList, LamX.TabB base mg p.1 p.2) → FnOk l.prog w K mg base (L2.CX l.prog w) k fa fd [x] (spM K ⟨mg, w⟩ 1 f) := fun base _ _ hb => by
    obtain ⟨fa2, fd2, g1, g2, ⟨oc', od', osl', g3⟩, g4, g5⟩ := W' base hb
    cases hmg.symm.trans g1
    rw [g3] at h3
    cases h3
    exact g5
  refine LamX.law_callTs KX G.T.g G.T.b G.T.builtins G.T.nolimit hg (fun p hp => (tb p hp).2) no (fun p hp => (tb p hp).1) G.T.bmain hobj hints (Nat.le_trans hlen hn2) hr F (fun s u => h4 s [u] rfl) (fun H hH hS => ?_) fun H e s' => fun z => ?_
  · obtain ⟨o, ho, rh⟩ := rh_script (mg := ⟨mg, w⟩) hS fun c P e => LamX.TabS.nil (hH (c, P) (by rw [e]; simp))
    obtain ⟨h, e⟩ := pure ns o hlen hbits ho
    refine ⟨rfl, [a], [.ref 0], _, .cons (.ref rfl) .nil, rh, ?_⟩
    rw [e]
    intro r' H' b st rh rv
    cases rv
    rfl
  · obtain ⟨_, _, _, _, _, _, _, _, _, _, _, _, zz⟩ := z
    exact zz
end Sm
namespace Sm
open PySem PySem.Spec PyProof.Rows L2
def Wp0 {α : Type} (o : Out α) (Q : α → MH → Prop) : Prop := match o with
  | .ok a h => Q a h
  | _ => False
def WS0 (o : OutS) (N : MS → MH → Prop) (R : D → MH → Prop) (B C : MS → MH → Prop) : Prop := match o with
  | .nx s h => N s h
  | .rt d h => R d h
  | .bk s h => B s h
  | .ct s h => C s h
  | _ => False
/-- o ends well, in Q -/
structure Wp {α : Type} (o : Out α) (Q : α → MH → Prop) : Prop where
  out : Wp0 o Q
structure WS (o : OutS) (N : MS → MH → Prop) (R : D → MH → Prop) (B C : MS → MH → Prop) : Prop where
  out : WS0 o N R B C
section
variable {α β : Type} {o : Out α} {Q Q' : α → MH → Prop} {h h1 h2 : MH} {ms : MS} {N N' : MS → MH → Prop} {R R' : D → MH → Prop} {B B' C C' : MS → MH → Prop}
theorem Wp.mono (w : Wp o Q) (q : ∀ a h, Q a h → Q' a h) : Wp o Q' := by
  obtain ⟨w⟩ := w
  cases o with
  | ok a h => exact ⟨q _ _ w⟩
  | exc c fs h => exact w.elim
  | bad => exact w.elim
theorem Wp.get (w : Wp o Q) : ∃ a h, o = .ok a h ∧ Q a h := by
  obtain ⟨w⟩ := w
  cases o with
  | ok a h => exact ⟨a, h, rfl, w⟩
  | exc c fs h => exact w.elim
  | bad => exact w.elim
theorem Wp.of {a : α} (e : o = .ok a h) (q : Q a h) : Wp o Q := by rw [e]; exact ⟨q⟩
theorem wp_bind {f : α → MH → Out β} {Q : β → MH → Prop} (w : Wp o fun a h => Wp (f a h) Q) : Wp (o.bind f) Q := by
  obtain ⟨w⟩ := w
  cases o with
  | ok a h => exact w
  | exc c fs h => exact w.elim
  | bad => exact w.elim
theorem ws_toS {k : α → MH → OutS} (w : Wp o fun a h => WS (k a h) N R B C) : WS (o.toS ms k) N R B C := by
  obtain ⟨w⟩ := w
  cases o with
  | ok a h => exact w
  | exc c fs h => exact w.elim
  | bad => exact w.elim
theorem WS.mono {o : OutS} (w : WS o N R B C) (n : ∀ s h, N s h → N' s h) (r : ∀ s h, R s h → R' s h) (b : ∀ s h, B s h → B' s h) (c : ∀ s h, C s h → C' s h) : WS o N' R' B' C' := by
  obtain ⟨w⟩ := w
  cases o with
  | nx s h => exact ⟨n _ _ w⟩
  | rt d h => exact ⟨r _ _ w⟩
  | bk s h => exact ⟨b _ _ w⟩
  | ct s h => exact ⟨c _ _ w⟩
  | exc _ _ _ _ => exact w.elim
  | bad => exact w.elim
variable {m a b c : ME} {n : MA} {g g' : MO2} {f : MF} {t u : MT} {Q : D → MH → Prop} {QL : List D → MH → Prop} {QB : Bool → MH → Prop}
theorem wp_mV {i : Nat} {d : D} (e : ms[i]? = some (some d)) (q : Q d h) : Wp (mV i ms h) Q := by
  unfold mV; rw [e]; exact ⟨q⟩
theorem wp_mC {d : D} (q : Q d h) : Wp (mC d ms h) Q := ⟨q⟩
theorem wp_aNil (q : QL [] h) : Wp (aNil ms h) QL := ⟨q⟩
theorem wp_aCons (w : Wp (m ms h) fun d h1 => Wp (n ms h1) fun ds h2 => QL (d :: ds) h2) : Wp (aCons m n ms h) QL := wp_bind (w.mono fun _ _ w => wp_bind (w.mono fun _ _ q => ⟨q⟩))
theorem wp_mTup (w : Wp (n ms h) fun ds h1 => ds.length ≤ sizeLine ∧ Q (.tup ds) h1) : Wp (mTup n ms h) Q := wp_bind (w.mono fun ds h1 q => by rw [if_pos q.1]; exact ⟨q.2⟩)
theorem wp_mLst (w : Wp (n ms h) fun ds h1 => ds.length ≤ sizeLine ∧ Q (.ref h1.length) (h1 ++ [.lst ds])) : Wp (mLst n ms h) Q := wp_bind (w.mono fun ds h1 q => by rw [if_pos q.1]; exact ⟨q.2⟩)
theorem wp_m2 (w : Wp (a ms h) fun x h1 => Wp (b ms h1) fun y h2 => Wp (g x y h2) Q) : Wp (m2 g a b ms h) Q := wp_bind (w.mono fun _ _ w => wp_bind w)
theorem wp_m1 {g : MO1} (w : Wp (a ms h) fun x h1 => Wp (g x h1) Q) : Wp (m1 g a ms h) Q := wp_bind w
theorem wp_mTest (w : Wp (m ms h) fun d h1 => ∃ b, d = .bl b ∧ QB b h1) : Wp (mTest m ms h) QB := wp_bind (w.mono fun d h1 q => by
  obtain ⟨b, rfl, q⟩ := q
  exact ⟨q⟩)
theorem wp_mNotT (w : Wp (t ms h) fun b h1 => QB (!b) h1) : Wp (mNotT t ms h) QB := wp_bind (w.mono fun _ _ q => ⟨q⟩)
theorem wp_mAndT (w : Wp (t ms h) fun b h1 => (b = true → Wp (u ms h1) QB) ∧ (b = false → QB false h1)) : Wp (mAndT t u ms h) QB := wp_bind (w.mono fun b h1 q => by
  cases b with
  | true => exact q.1 rfl
  | false => exact ⟨q.2 rfl⟩)
theorem wp_mOrT (w : Wp (t ms h) fun b h1 => (b = true → QB true h1) ∧ (b = false → Wp (u ms h1) QB)) : Wp (mOrT t u ms h) QB := wp_bind (w.mono fun b h1 q => by
  cases b with
  | true => exact ⟨q.1 rfl⟩
  | false => exact q.2 rfl)
theorem wp_mIfE (w : Wp (t ms h) fun k h1 => (k = true → Wp (a ms h1) Q) ∧ (k = false → Wp (b ms h1) Q)) : Wp (mIfE t a b ms h) Q := wp_bind (w.mono fun k h1 q => by
  cases k with
  | true => exact q.1 rfl
  | false => exact q.2 rfl)
theorem wp_mAndV (w : Wp (a ms h) fun d h1 => ∃ k, d = .bl k ∧ (k = true → Wp (b ms h1) Q) ∧ (k = false → Q (.bl false) h1)) : Wp (mAndV a b ms h) Q := wp_bind (wp_mTest (w.mono fun d h1 ⟨k, e, q⟩ => ⟨k, e, by
  cases k with
  | true => exact q.1 rfl
  | false => exact ⟨q.2 rfl⟩⟩))
theorem wp_mOrV (w : Wp (a ms h) fun d h1 => ∃ k, d = .bl k ∧ (k = true → Q (.bl true) h1) ∧ (k = false → Wp (b ms h1) Q)) : Wp (mOrV a b ms h) Q := wp_bind (wp_mTest (w.mono fun d h1 ⟨k, e, q⟩ => ⟨k, e, by
  cases k with
  | true => exact ⟨q.1 rfl⟩
  | false => exact q.2 rfl⟩))
theorem wp_mNotV (w : Wp (a ms h) fun d h1 => ∃ k, d = .bl k ∧ Q (.bl (!k)) h1) : Wp (mNotV a ms h) Q := wp_bind (wp_mTest (w.mono fun d h1 ⟨k, e, q⟩ => ⟨k, e, ⟨q⟩⟩))
/-- a < b < c of pure operands -/
theorem wp_mChain (w : Wp (a ms h) fun x h1 => Wp (b ms h1) fun y h2 => Wp (g x y h2) fun z h3 => ∃ k, z = .bl k ∧ (k = true → Wp (c ms h3) fun v h4 => Wp (g' y v h4) Q) ∧ (k = false → Q (.bl false) h3)) : Wp (mChain g g' a b c ms h) Q :=
  wp_bind (w.mono fun x h1 w => wp_bind (w.mono fun y h2 w => wp_bind (w.mono fun z h3 ⟨k, e, q⟩ => by
    subst e
    cases k with
    | true => exact wp_bind (o := Out.ok true h3) ⟨wp_bind (q.1 rfl)⟩
    | false => exact wp_bind (o := Out.ok false h3) ⟨⟨q.2 rfl⟩⟩)))
theorem wp_mCall (w : Wp (n ms h) fun ds h1 => Wp (f ds h1) Q) : Wp (mCall f n ms h) Q := wp_bind w
theorem wp_mMeth {T : String} {g : MM} (w : Wp (a ms h) fun d h1 => isTy T h1 d = true ∧ Wp (n ms h1) fun ds h2 => Wp (g d ds h2) Q) : Wp (mMeth T g a n ms h) Q := wp_bind (w.mono fun d h1 q => by
  rw [if_pos q.1]
  exact wp_bind q.2)
theorem wp_pNo {Q : Option Int → MH → Prop} (q : Q none h) : Wp (pNo ms h) Q := ⟨q⟩
theorem wp_pAt {Q : Option Int → MH → Prop} (w : Wp (m ms h) fun d h1 => ∃ i, d = .int i ∧ Q (some i) h1) : Wp (pAt m ms h) Q := wp_bind (w.mono fun d h1 ⟨i, e, q⟩ => by subst e; exact ⟨q⟩)
theorem wp_mSl {ml mu : MP} (w : Wp (m ms h) fun d h1 => Wp (ml ms h1) fun lo h2 => Wp (mu ms h2) fun hi h3 => Wp (gSl d lo hi h3) Q) : Wp (mSl m ml mu ms h) Q := wp_bind (w.mono fun _ _ w => wp_bind (w.mono fun _ _ w => wp_bind w))
variable {i j : Int}
theorem wp_addI (q : Q (.int (i + j)) h) : Wp (gAdd (.int i) (.int j) h) Q := ⟨q⟩
theorem wp_subI (q : Q (.int (i - j)) h) : Wp (gSub (.int i) (.int j) h) Q := ⟨q⟩
theorem wp_mulI (hc : i.natAbs.log2 + j.natAbs.log2 < 1000000) (q : Q (.int (i * j)) h) : Wp (gMul (.int i) (.int j) h) Q := by
  show Wp (if cMul i j = true then _ else _) Q
  rw [if_pos (show cMul i j = true from decide_eq_true hc)]; exact ⟨q⟩
theorem wp_divI (hj : 0 < j) (hl : j.natAbs.log2 < 9000) (q : Q (.int (i / j)) h) : Wp (gDiv (.int i) (.int j) h) Q := by
  show Wp (if _ = true then _ else _) Q
  rw [if_pos (show (decide (0 < j) && decide (j.natAbs.log2 < 9000)) = true by rw [decide_eq_true hj, decide_eq_true hl]; rfl)]; exact ⟨q⟩
theorem wp_modI (hj : 0 < j) (q : Q (.int (i % j)) h) : Wp (gMod (.int i) (.int j) h) Q := by
  show Wp (if _ = true then _ else _) Q
  rw [if_pos (decide_eq_true hj)]; exact ⟨q⟩
theorem wp_powI (hc : (decide (0 ≤ j) && decide (j ≤ 1000000) && decide (i.natAbs < 2 ^ 64)) = true) (q : Q (.int (i ^ j.toNat)) h) : Wp (gPow (.int i) (.int j) h) Q := by
  show Wp (if _ = true then _ else _) Q
  rw [if_pos hc]; exact ⟨q⟩
theorem wp_ltI (q : Q (.bl (decide (i < j))) h) : Wp (gLt (.int i) (.int j) h) Q := ⟨q⟩
theorem wp_leI (q : Q (.bl (decide (i ≤ j))) h) : Wp (gLe (.int i) (.int j) h) Q := ⟨q⟩
theorem wp_gtI (q : Q (.bl (decide (j < i))) h) : Wp (gGt (.int i) (.int j) h) Q := ⟨q⟩
theorem wp_geI (q : Q (.bl (decide (j ≤ i))) h) : Wp (gGe (.int i) (.int j) h) Q := ⟨q⟩
theorem wp_eqI (q : Q (.bl (decide (i = j))) h) : Wp (gEq (.int i) (.int j) h) Q := ⟨q⟩
theorem wp_neI (q : Q (.bl (!decide (i = j))) h) : Wp (gNe (.int i) (.int j) h) Q := ⟨q⟩
theorem wp_eqB {x y : Bool} (q : Q (.bl (decide (x = y))) h) : Wp (gEq (.bl x) (.bl y) h) Q := ⟨q⟩
theorem wp_neB {x y : Bool} (q : Q (.bl (!decide (x = y))) h) : Wp (gNe (.bl x) (.bl y) h) Q := ⟨q⟩
theorem wp_eqS {x y : Str} (q : Q (.bl (decide (x = y))) h) : Wp (gEq (.str x) (.str y) h) Q := ⟨q⟩
theorem wp_neS {x y : Str} (q : Q (.bl (!decide (x = y))) h) : Wp (gNe (.str x) (.str y) h) Q := ⟨q⟩
theorem wp_neg (q : Q (.int (-i)) h) : Wp (gNeg (.int i) h) Q := ⟨q⟩
theorem wp_eqA {x y : D} {c : Bool} (e : eqD h x y = some c) (q : Q (.bl c) h) : Wp (gEq x y h) Q := by
  unfold gEq; rw [e]; exact ⟨q⟩
theorem wp_neA {x y : D} {c : Bool} (e : eqD h x y = some c) (q : Q (.bl (!c)) h) : Wp (gNe x y h) Q := by
  unfold gNe; rw [e]; exact ⟨q⟩
theorem wp_isY {x y : D} {c : Bool} (e : isD x y = some c) (q : Q (.bl c) h) : Wp (gIsY x y h) Q := by
  unfold gIsY; rw [e]; exact ⟨q⟩
theorem wp_isN {x y : D} {c : Bool} (e : isD x y = some c) (q : Q (.bl (!c)) h) : Wp (gIsN x y h) Q := by
  unfold gIsN; rw [e]; exact ⟨q⟩
theorem wp_in {x y : D} {c : Bool} (e : inD h x y = some c) (q : Q (.bl c) h) : Wp (gIn x y h) Q := by
  unfold gIn; rw [e]; exact ⟨q⟩
theorem wp_notIn {x y : D} {c : Bool} (e : inD h x y = some c) (q : Q (.bl (!c)) h) : Wp (gNotIn x y h) Q := by
  unfold gNotIn; rw [e]; exact ⟨q⟩
theorem dcAt_ls {k : Nat} {xs : List D} (e : lsAt h k = some xs) : dcAt h k = none := by
  unfold lsAt at e
  unfold dcAt
  cases z : h[k]? with
  | none => rfl
  | some o => cases o <;> simp_all
theorem lsAt_of {k : Nat} {xs : List D} (e : h[k]? = some (.lst xs)) : lsAt h k = some xs := by unfold lsAt; rw [e]
theorem dcAt_of {k : Nat} {xs : List (D × D)} (e : h[k]? = some (.dic xs)) : dcAt h k = some xs := by unfold dcAt; rw [e]
theorem lsAt_dc {k : Nat} {xs : List (D × D)} (e : dcAt h k = some xs) : lsAt h k = none := by
  unfold dcAt at e
  unfold lsAt
  cases z : h[k]? with
  | none => rfl
  | some o => cases o <;> simp_all
theorem wp_ixL {k : Nat} {xs : List D} {d : D} (e : lsAt h k = some xs) (x : atI xs i = some d) (q : Q d h) : Wp (gIx (.ref k) (.int i) h) Q := by
  unfold gIx
  simp only [dcAt_ls e, e, x]
  exact ⟨q⟩
theorem wp_ixT {xs : List D} {d : D} (x : atI xs i = some d) (q : Q d h) : Wp (gIx (.tup xs) (.int i) h) Q := by
  unfold gIx
  simp only [x]
  exact ⟨q⟩
theorem wp_ixD {k : Nat} {kvs : List (D × D)} {y d : D} {c : Key} (e : dcAt h k = some kvs) (ec : keyD y = some c) (x : lookD kvs c = some d) (q : Q d h) : Wp (gIx (.ref k) y h) Q := by
  unfold gIx
  simp only [e, ec, x]
  exact ⟨q⟩
theorem wp_len_sq {d : D} {xs : List D} (e : sqD h d = some xs) (q : Q (.int xs.length) h) : Wp (fLen [d] h) Q := by
  cases d with
  | str z => cases e
  | tup ds => cases e; exact ⟨q⟩
  | ref k =>
    have e' : sqD h (.ref k) = some xs := e
    show Wp (match sqD h (.ref k) with | some xs => _ | none => _) Q
    rw [e']
    exact ⟨q⟩
  | non => cases e
  | bl b => cases e
  | int i => cases e
  | ty n => cases e
  | glo x => cases e
theorem wp_len_D {k : Nat} {kvs : List (D × D)} (e : dcAt h k = some kvs) (q : Q (.int kvs.length) h) : Wp (fLen [.ref k] h) Q := by
  show Wp (match sqD h (.ref k) with | some xs => _ | none => _) Q
  have e1 : sqD h (.ref k) = none := lsAt_dc e
  rw [e1]
  show Wp (match dcAt h k with | some kvs => _ | none => _) Q
  rw [e]
  exact ⟨q⟩
theorem wp_int {i : Int} (q : Q (.int i) h) : Wp (fInt [.int i] h) Q := ⟨q⟩
theorem wp_abs (q : Q (.int (if i < 0 then -i else i)) h) : Wp (fAbs [.int i] h) Q := ⟨q⟩
theorem wp_tupleL {k : Nat} {xs : List D} (e : lsAt h k = some xs) (q : Q (.tup xs) h) : Wp (fTuple [.ref k] h) Q := by
  unfold fTuple
  simp only [e]
  exact ⟨q⟩
theorem wp_slT {ds : List D} {lo hi : Option Int} (q : Q (.tup (cutL ds lo hi)) h) : Wp (gSl (.tup ds) lo hi h) Q := ⟨q⟩
theorem wp_slL {k : Nat} {xs : List D} {lo hi : Option Int} (e : lsAt h k = some xs) (q : Q (.ref h.length) (h ++ [.lst (cutL xs lo hi)])) : Wp (gSl (.ref k) lo hi h) Q := by
  unfold gSl
  simp only [e]
  exact ⟨q⟩
theorem wp_catL {x y : Nat} {xs ys : List D} (ex : h[x]? = some (.lst xs)) (ey : h[y]? = some (.lst ys)) (hl : xs.length + ys.length ≤ sizeLine) (q : Q (.ref h.length) (h ++ [.lst (xs ++ ys)])) : Wp (gAdd (.ref x) (.ref y) h) Q := by
  show Wp (match h[x]?, h[y]? with | some (.lst xs), some (.lst ys) => _ | _, _ => _) Q
  rw [ex, ey]
  show Wp (if xs.length + ys.length ≤ sizeLine then _ else _) Q
  rw [if_pos hl]; exact ⟨q⟩
theorem wp_append {k : Nat} {xs : List D} {y : D} (e : h[k]? = some (.lst xs)) (hl : xs.length < sizeLine) (q : Q .non (h.set k (.lst (xs ++ [y])))) : Wp (gAppend (.ref k) [y] h) Q := by
  unfold gAppend
  simp only [e, if_pos hl]
  exact ⟨q⟩
theorem wp_isi {d : D} {T : String} {a : String} {c : Bool} (e : tyN h d = some a) (ec : isiT a T = some c) (q : Q (.bl c) h) : Wp (fIsi [d, .ty T] h) Q := by
  unfold fIsi
  simp only [e, Option.bind_some, ec]
  exact ⟨q⟩
theorem wp_isis {d : D} {Ts : List D} {a : String} {c : Bool} (e : tyN h d = some a) (ec : anyT a Ts = some c) (q : Q (.bl c) h) : Wp (fIsi [d, .tup Ts] h) Q := by
  unfold fIsi
  simp only [e, Option.bind_some, ec]
  exact ⟨q⟩
theorem wp_dnew (q : Q (.ref h.length) (h ++ [.dic []])) : Wp (mDnew ms h) Q := ⟨q⟩
theorem wp_listRg2 (w : Wp (a ms h) fun x h1 => Wp (b ms h1) fun y h2 => ∃ i j, x = .int i ∧ y = .int j ∧ Wp (lRg i j h2) Q) : Wp (mListRg2 a b ms h) Q := wp_bind (w.mono fun x h1 w => wp_bind (w.mono fun y h2 ⟨i, j, e1, e2, q⟩ => by subst e1 e2; exact q))
theorem wp_listRg1 (w : Wp (a ms h) fun x h1 => ∃ i, x = .int i ∧ Wp (lRg 0 i h1) Q) : Wp (mListRg1 a ms h) Q := wp_bind (w.mono fun x h1 ⟨i, e1, q⟩ => by subst e1; exact q)
variable {sa sb : MSt} {gt : MG}
theorem ws_nx (q : N ms h) : WS (mNx ms h) N R B C := ⟨q⟩
theorem ws_seq (w : WS (sa ms h) (fun ms1 h1 => WS (sb ms1 h1) N R B C) R B C) : WS (mSeq sa sb ms h) N R B C := by
  obtain ⟨w⟩ := w
  unfold mSeq
  cases e : sa ms h <;> rw [e] at w
  · exact w
  all_goals exact ⟨w⟩
theorem ws_set {i : Nat} (w : Wp (m ms h) fun d h1 => N (ms.set i (some d)) h1) : WS (mSet i m ms h) N R B C := ws_toS (w.mono fun _ _ q => ⟨q⟩)
theorem ws_ret (w : Wp (m ms h) R) : WS (mRet m ms h) N R B C := ws_toS (w.mono fun _ _ q => ⟨q⟩)
theorem ws_retN (w : R .non h) : WS (mRetN ms h) N R B C := ⟨w⟩
theorem ws_expr (w : Wp (m ms h) fun _ h1 => N ms h1) : WS (mExpr m ms h) N R B C := ws_toS (w.mono fun _ _ q => ⟨q⟩)
theorem ws_if (w : Wp (t ms h) fun k h1 => (k = true → WS (sa ms h1) N R B C) ∧ (k = false → WS (sb ms h1) N R B C)) : WS (mIfS t sa sb ms h) N R B C := ws_toS (w.mono fun k h1 q => by
  cases k with
  | true => exact q.1 rfl
  | false => exact q.2 rfl)
theorem ws_bk (q : B ms h) : WS (mBk ms h) N R B C := ⟨q⟩
theorem ws_ct (q : C ms h) : WS (mCt ms h) N R B C := ⟨q⟩
theorem ws_par {i j : Nat} (w : Wp (n ms h) fun ds h1 => ∃ d1 d2, ds = [d1, d2] ∧ N ((ms.set i (some d1)).set j (some d2)) h1) : WS (mPar i j n ms h) N R B C := ws_toS (w.mono fun ds h1 ⟨d1, d2, e, q⟩ => by subst e; exact ⟨q⟩)
theorem ws_aug {i : Nat} {x : D} (e : ms[i]? = some (some x)) (w : Wp (m ms h) fun d h1 => Wp (g x d h1) fun z h2 => N (ms.set i (some z)) h2) : WS (mAug i g m ms h) N R B C := by
  unfold mAug
  rw [e]
  exact ws_toS (w.mono fun d h1 w => ws_toS (w.mono fun _ _ q => ⟨q⟩))
theorem wp_iaddI (q : Q (.int (i + j)) h) : Wp (giAdd (.int i) (.int j) h) Q := ⟨q⟩
theorem ws_asg (w : Wp (m ms h) fun d h1 => WS (gt d ms h1) N (fun _ _ => False) (fun _ _ => False) fun _ _ => False) : WS (mAsg m (fun d ms h => onlyG (gt d ms h)) ms h) N R B C := ws_toS (w.mono fun d h1 w => by
  obtain ⟨w⟩ := w
  show WS (onlyG (gt d ms h1)) N R B C
  cases e : gt d ms h1 with
  | nx s h => rw [e] at w; exact ⟨w⟩
  | _ => rw [e] at w; exact w.elim)
theorem ws_gN {i : Nat} {d : D} (q : N (ms.set i (some d)) h) : WS (gN i d ms h) N R B C := ⟨q⟩
theorem ws_gTup {k : Nat} {gs : MGs} {ds : List D} (hk : ds.length = k) (w : WS (gs ds ms h) N R B C) : WS (gTup k gs (.tup ds) ms h) N R B C := by
  show WS (if ds.length = k then _ else _) N R B C
  rw [if_pos hk]; exact w
theorem ws_gsNil (q : N ms h) : WS (gsNil [] ms h) N R B C := ⟨q⟩
theorem ws_gsCons {gs : MGs} {d : D} {ds : List D} (w : WS (gt d ms h) (fun ms1 h1 => WS (gs ds ms1 h1) N R B C) R B C) : WS (gsCons gt gs (d :: ds) ms h) N R B C := by
  obtain ⟨w⟩ := w
  show WS (match gt d ms h with | .nx ms1 h1 => gs ds ms1 h1 | o => o) N R B C
  cases e : gt d ms h <;> rw [e] at w
  · exact w
  all_goals exact ⟨w⟩
theorem ws_gIt {x y : ME} {s : MSet} {d : D} (w : Wp (x ms h) fun o h1 => Wp (y ms h1) fun i h2 => ∃ h3, s o i d h2 = some h3 ∧ N ms h3) : WS (gIt x y s d ms h) N R B C := ws_toS (w.mono fun o h1 w => ws_toS (w.mono fun i h2 ⟨h3, e, q⟩ => by
  show WS (match s o i d h2 with | some h3 => _ | none => _) N R B C
  rw [e]
  exact ⟨q⟩))
theorem setA_L {k j : Nat} {xs : List D} {i : Int} {d : D} (e : h[k]? = some (.lst xs)) (x : ixN xs.length i = some j) : setA (.ref k) (.int i) d h = some (h.set k (.lst (xs.set j d))) := by
  unfold setA
  simp only [e, x]
theorem setA_D {k : Nat} {kvs : List (D × D)} {y d : D} {c : Key} (e : h[k]? = some (.dic kvs)) (ec : keyD y = some c) (hl : kvs.length < sizeLine) : setA (.ref k) y d h = some (h.set k (.dic (putD kvs c y d))) := by
  unfold setA
  simp only [e, ec, if_pos hl]
/-- a def -/
theorem wp_def {nn : Nat} {b : MSt} {ds : List D} (w : WS (b (ds.map some ++ List.replicate (nn - ds.length) none) h) (fun _ h1 => Q .non h1) Q (fun _ _ => False) fun _ _ => False) : Wp (mDef nn b ds h) Q := by
  obtain ⟨w⟩ := w
  unfold mDef
  cases e : b (ds.map some ++ List.replicate (nn - ds.length) none) h <;> rw [e] at w
  · exact ⟨w⟩
  · exact ⟨w⟩
  all_goals exact w.elim
end
end Sm
namespace Sm
open PySem PySem.Spec PyProof.Rows L2
/-- all that stood stands -/
def Gr (h h1 : MH) : Prop := ∀ (i : Nat) (o : MO), h[i]? = some o → h1[i]? = some o
/-- all but p -/
def Fr (p : Nat) (h h1 : MH) : Prop := h.length ≤ h1.length ∧ ∀ (i : Nat), i ≠ p → ∀ o : MO, h[i]? = some o → h1[i]? = some o
section
variable {h h1 h2 : MH} {o : MO} {i p : Nat}
theorem Gr.refl : Gr h h := fun _ _ e => e
theorem Gr.trans (a : Gr h h1) (b : Gr h1 h2) : Gr h h2 := fun i o e => b i o (a i o e)
theorem at_app (e : h[i]? = some o) (g : MH) : (h ++ g)[i]? = some o := by
  have hi := (List.getElem?_eq_some_iff.mp e).1
  rw [List.getElem?_append_left hi]; exact e
theorem Gr.app (g : MH) : Gr h (h ++ g) := fun i o e => at_app e g
theorem at_last : (h ++ [o])[h.length]? = some o := by simp
theorem Gr.len (a : Gr h h1) : h.length ≤ h1.length := by
  by_cases hz : h.length = 0
  · omega
  · have hi : h.length - 1 < h.length := by omega
    have := a (h.length - 1) _ (List.getElem?_eq_getElem hi)
    have := (List.getElem?_eq_some_iff.mp this).1
    omega
theorem lt_of_at (e : h[i]? = some o) : i < h.length := (List.getElem?_eq_some_iff.mp e).1
theorem Gr.fr (a : Gr h h1) : Fr p h h1 := ⟨a.len, fun i _ o e => a i o e⟩
theorem Fr.refl : Fr p h h := ⟨Nat.le_refl _, fun _ _ _ e => e⟩
theorem Fr.trans (a : Fr p h h1) (b : Fr p h1 h2) : Fr p h h2 := ⟨Nat.le_trans a.1 b.1, fun i hi o e => b.2 i hi o (a.2 i hi o e)⟩
theorem Fr.at (a : Fr p h h1) (hi : i ≠ p) (e : h[i]? = some o) : h1[i]? = some o := a.2 i hi o e
theorem fr_set (o : MO) : Fr p h (h.set p o) := ⟨by simp, fun i hi u e => by rw [List.getElem?_set_ne (Ne.symm hi)]; exact e⟩
theorem at_set (hp : p < h.length) (o : MO) : (h.set p o)[p]? = some o := by simp [hp]
theorem at_set_ne (e : h[i]? = some o) (hp : i ≠ p) (u : MO) : (h.set p u)[i]? = some o := by rw [List.getElem?_set_ne (Ne.symm hp)]; exact e
theorem Gr.ls (a : Gr h h1) {k : Nat} {xs : List D} (e : lsAt h k = some xs) : lsAt h1 k = some xs := by
  unfold lsAt at e ⊢
  cases z : h[k]? with
  | none => rw [z] at e; cases e
  | some o => rw [z] at e; rw [a k o z]; exact e
theorem Fr.ls (a : Fr p h h1) {k : Nat} {xs : List D} (hk : k ≠ p) (e : lsAt h k = some xs) : lsAt h1 k = some xs := by
  unfold lsAt at e ⊢
  cases z : h[k]? with
  | none => rw [z] at e; cases e
  | some o => rw [z] at e; rw [a.2 k hk o z]; exact e
theorem Gr.sq (a : Gr h h1) {d : D} {xs : List D} (e : sqD h d = some xs) : sqD h1 d = some xs := by
  cases d with
  | ref k => exact a.ls (k := k) e
  | tup ds => exact e
  | _ => cases e
theorem ls_lt {k : Nat} {xs : List D} (e : lsAt h k = some xs) : k < h.length := by
  unfold lsAt at e
  cases z : h[k]? with
  | none => rw [z] at e; cases e
  | some o => exact lt_of_at z
end
section
variable {h h1 : MH} {ms : MS} {N : MS → MH → Prop} {R : D → MH → Prop} {B C : MS → MH → Prop} {Q : D → MH → Prop} {chk : MH → Prop} {g : MG} {b : MSt} {t : MT} {m mk mv : ME} {src : MI} {vs : List Nat}
/-- a for loop, by an invariant over what was met and what is left -/
theorem ws_loop {chk : MH → Prop} (I : List D → List D → MS → MH → Prop) :
    ∀ (xs done : List D) (ms : MS) (h : MH), I done xs ms h →
    (∀ done d rest ms h, I done (d :: rest) ms h → chk h ∧ WS (g d ms h) (fun ms1 h1 => WS (b ms1 h1) (fun ms2 h2 => I (done ++ [d]) rest ms2 h2) R N fun ms2 h2 => I (done ++ [d]) rest ms2 h2) (fun _ _ => False) (fun _ _ => False) fun _ _ => False) →
    (∀ done ms h, I done [] ms h → chk h ∧ N ms h) →
    WS (mLoop chk g b xs ms h) N R B C
  | [], done, ms, h, i, _, fin => by
    obtain ⟨c, n⟩ := fin _ _ _ i
    unfold mLoop
    rw [if_pos c]
    exact ⟨n⟩
  | d :: xs, done, ms, h, i, st, fin => by
    obtain ⟨c, ⟨w⟩⟩ := st _ _ _ _ _ i
    unfold mLoop
    rw [if_pos c]
    cases e : g d ms h with
    | nx ms1 h1 =>
      rw [e] at w
      obtain ⟨w⟩ : WS (b ms1 h1) (fun ms2 h2 => I (done ++ [d]) xs ms2 h2) R N fun ms2 h2 => I (done ++ [d]) xs ms2 h2 := w
      show WS (match b ms1 h1 with | .nx ms2 h2 => mLoop chk g b xs ms2 h2 | .ct ms2 h2 => mLoop chk g b xs ms2 h2 | .bk ms2 h2 => .nx ms2 h2 | .rt d h2 => .rt d h2 | .exc c fs ms2 h2 => .exc c fs ms2 h2 | .bad => .bad) N R B C
      cases e2 : b ms1 h1 with
      | nx ms2 h2 => rw [e2] at w; exact ws_loop I xs _ ms2 h2 w st fin
      | ct ms2 h2 => rw [e2] at w; exact ws_loop I xs _ ms2 h2 w st fin
      | bk ms2 h2 => rw [e2] at w; exact ⟨w⟩
      | rt d h2 => rw [e2] at w; exact ⟨w⟩
      | exc _ _ _ _ => rw [e2] at w; exact w.elim
      | bad => rw [e2] at w; exact w.elim
    | rt _ _ => rw [e] at w; exact w.elim
    | bk _ _ => rw [e] at w; exact w.elim
    | ct _ _ => rw [e] at w; exact w.elim
    | exc _ _ _ _ => rw [e] at w; exact w.elim
    | bad => rw [e] at w; exact w.elim
theorem ws_for (I : List D → List D → MS → MH → Prop)
    (hs : Wp (src ms h) fun a h1 => I [] a.1 ms h1 ∧
      (∀ done d rest ms h, I done (d :: rest) ms h → a.2 h ∧ WS (g d ms h) (fun ms1 h1 => WS (b ms1 h1) (fun ms2 h2 => I (done ++ [d]) rest ms2 h2) R N fun ms2 h2 => I (done ++ [d]) rest ms2 h2) (fun _ _ => False) (fun _ _ => False) fun _ _ => False) ∧
      (∀ done ms h, I done [] ms h → a.2 h ∧ N ms h)) : WS (mFor src g b ms h) N R B C :=
  ws_toS (hs.mono fun a h1 q => ws_loop I a.1 [] ms h1 q.1 q.2.1 q.2.2)
/-- a list comprehension, by an invariant over what was met, what is left, what was made -/
theorem lc_loop {k : Nat} (I : List D → List D → List D → MH → Prop) :
    ∀ (xs done acc : List D) (h : MH), I done xs acc h → h[k]? = some (.lst acc) →
    (∀ done d rest acc h, I done (d :: rest) acc h → h[k]? = some (.lst acc) → chk h ∧ WS (g d (wipeM ms vs) h) (fun ms1 h1 => Wp (t ms1 h1) fun c h2 =>
      (c = true → Wp (m ms1 h2) fun y h3 => h3[k]? = some (.lst acc) ∧ acc.length < sizeLine ∧ I (done ++ [d]) rest (acc ++ [y]) (h3.set k (.lst (acc ++ [y])))) ∧
      (c = false → h2[k]? = some (.lst acc) ∧ I (done ++ [d]) rest acc h2)) (fun _ _ => False) (fun _ _ => False) fun _ _ => False) →
    (∀ done acc h, I done [] acc h → h[k]? = some (.lst acc) → chk h ∧ Q (.ref k) h) →
    Wp (lcLoop chk k vs ms g t m xs h) fun _ h2 => Q (.ref k) h2
  | [], done, acc, h, i, hk, _, fin => by
    obtain ⟨c, n⟩ := fin _ _ _ i hk
    unfold lcLoop
    rw [if_pos c]
    exact ⟨n⟩
  | d :: xs, done, acc, h, i, hk, st, fin => by
    obtain ⟨c, ⟨w⟩⟩ := st _ _ _ _ _ i hk
    unfold lcLoop
    rw [if_pos c]
    cases e : g d (wipeM ms vs) h with
    | nx ms1 h1 =>
      rw [e] at w
      obtain ⟨c, h2, e2, w1, w2⟩ := Wp.get (show Wp (t ms1 h1) _ from w)
      simp only [e2]
      cases c with
      | false =>
        obtain ⟨hk2, i2⟩ := w2 rfl
        exact lc_loop I xs _ _ _ i2 hk2 st fin
      | true =>
        obtain ⟨y, h3, e3, q1, q2, q3⟩ := (w1 rfl).get
        simp only [e3, q1, if_pos q2]
        exact lc_loop I xs _ _ _ q3 (at_set (lt_of_at q1) _) st fin
    | rt _ _ => rw [e] at w; exact w.elim
    | bk _ _ => rw [e] at w; exact w.elim
    | ct _ _ => rw [e] at w; exact w.elim
    | exc _ _ _ _ => rw [e] at w; exact w.elim
    | bad => rw [e] at w; exact w.elim
theorem wp_lc (I : Nat → List D → List D → List D → MH → Prop)
    (hs : Wp (src ms h) fun a h1 => I h1.length [] a.1 [] (h1 ++ [.lst []]) ∧
      (∀ done d rest acc h, I h1.length done (d :: rest) acc h → h[h1.length]? = some (.lst acc) → a.2 h ∧ WS (g d (wipeM ms vs) h) (fun ms1 h2 => Wp (t ms1 h2) fun c h2 =>
        (c = true → Wp (m ms1 h2) fun y h3 => h3[h1.length]? = some (.lst acc) ∧ acc.length < sizeLine ∧ I h1.length (done ++ [d]) rest (acc ++ [y]) (h3.set h1.length (.lst (acc ++ [y])))) ∧
        (c = false → h2[h1.length]? = some (.lst acc) ∧ I h1.length (done ++ [d]) rest acc h2)) (fun _ _ => False) (fun _ _ => False) fun _ _ => False) ∧
      (∀ done acc h, I h1.length done [] acc h → h[h1.length]? = some (.lst acc) → a.2 h ∧ Q (.ref h1.length) h)) : Wp (mLc src vs g t m ms h) Q :=
  wp_bind (hs.mono fun a h1 q => wp_bind ((lc_loop (I h1.length) a.1 [] [] _ q.1 at_last q.2.1 q.2.2).mono fun _ _ q => ⟨q⟩))
variable {QI : List D × (MH → Prop) → MH → Prop} {n : MA}
/-- a list or tuple that stands -/
theorem wp_iSq (w : Wp (m ms h) fun d h1 => ∃ xs, sqD h1 d = some xs ∧ ∀ P : MH → Prop, (∀ h2, sqD h2 d = some xs → P h2) → QI (xs, P) h1) : Wp (iSeq m ms h) QI := wp_bind (w.mono fun d h1 ⟨xs, e, q⟩ => by
  cases d with
  | ref k =>
    have e' : lsAt h1 k = some xs := e
    show Wp (match lsAt h1 k with | some ds => _ | none => _) QI
    rw [e']
    exact ⟨q _ fun h2 e2 => e2⟩
  | tup ds => cases e; exact ⟨q _ fun _ _ => trivial⟩
  | _ => cases e)
theorem wp_iR1 (w : Wp (n ms h) fun ds h1 => ∃ j, ds = [.int j] ∧ -(2 ^ 62) ≤ j ∧ j < 2 ^ 62 ∧ QI (rng 0 j.toNat, fun _ => True) h1) : Wp (iRange1 n ms h) QI := wp_bind (w.mono fun ds h1 ⟨j, e, q1, q2, q⟩ => by
  subst e
  show Wp (if _ then _ else _) QI
  rw [if_pos ⟨q1, q2⟩]; exact ⟨q⟩)
theorem wp_iR2 (w : Wp (n ms h) fun ds h1 => ∃ i j, ds = [.int i, .int j] ∧ -(2 ^ 62) ≤ i ∧ i < 2 ^ 62 ∧ -(2 ^ 62) ≤ j ∧ j < 2 ^ 62 ∧ QI (rng i (j - i).toNat, fun _ => True) h1) : Wp (iRange2 n ms h) QI := wp_bind (w.mono fun ds h1 ⟨i, j, e, q1, q2, q3, q4, q⟩ => by
  subst e
  show Wp (if _ then _ else _) QI
  rw [if_pos ⟨q1, q2, q3, q4⟩]; exact ⟨q⟩)
end
end Sm
namespace Sm
open PySem PySem.Spec PyProof.Rows L2
section
variable {h : MH} {ms : MS} {QI : List D × (MH → Prop) → MH → Prop} {n : MA}
theorem and_len {α : Type} {xs : List α} {P : Prop} (h : xs.length ≤ sizeLine) (p : P) : xs.length ≤ sizeLine ∧ P := ⟨h, p⟩
theorem ex_bl {b : Bool} {P : Bool → Prop} (p : P b) : ∃ c, D.bl b = .bl c ∧ P c := ⟨b, rfl, p⟩
theorem ex_int {b : Int} {P : Int → Prop} (p : P b) : ∃ c, D.int b = .int c ∧ P c := ⟨b, rfl, p⟩
theorem ex_two {a b : D} {P : D → D → Prop} (p : P a b) : ∃ c d, [a, b] = [c, d] ∧ P c d := ⟨a, b, rfl, p⟩
theorem ex_int2 {a b : Int} {P : Int → Int → Prop} (p : P a b) : ∃ i j, D.int a = .int i ∧ D.int b = .int j ∧ P i j := ⟨a, b, rfl, rfl, p⟩
theorem wp_iR1' (w : Wp (n ms h) fun ds h1 => ∃ j, ds = [.int j] ∧ -(2 ^ 62) ≤ j ∧ j < 2 ^ 62 ∧ QI (rng 0 j.toNat, fun _ => True) h1) : Wp (iRange1 n ms h) QI := wp_iR1 w
theorem wp_iR2' (w : Wp (n ms h) fun ds h1 => ∃ i j, ds = [.int i, .int j] ∧ -(2 ^ 62) ≤ i ∧ i < 2 ^ 62 ∧ -(2 ^ 62) ≤ j ∧ j < 2 ^ 62 ∧ QI (rng i (j - i).toNat, fun _ => True) h1) : Wp (iRange2 n ms h) QI := wp_iR2 w
theorem ex_int1 {a : Int} {P : Int → Prop} (p : P a) : ∃ j, [D.int a] = [.int j] ∧ P j := ⟨a, rfl, p⟩
theorem ex_intL2 {a b : Int} {P : Int → Int → Prop} (p : P a b) : ∃ i j, [D.int a, D.int b] = [.int i, .int j] ∧ P i j := ⟨a, b, rfl, p⟩
end
end Sm
namespace Sm
open PySem PySem.Spec PyProof.Rows L2
section
variable {h h1 h2 : MH} {α β : Type}
inductive All2 (R : α → β → Prop) : List α → List β → Prop
  | nil : All2 R [] []
  | cons {a b as bs} : R a b → All2 R as bs → All2 R (a :: as) (b :: bs)
theorem All2.len {R : α → β → Prop} : ∀ {as : List α} {bs : List β}, All2 R as bs → as.length = bs.length
  | _, _, .nil => rfl
  | _, _, .cons _ h => by simp [h.len]
theorem All2.app {R : α → β → Prop} {as as' : List α} {bs bs' : List β} (h : All2 R as bs) (h' : All2 R as' bs') : All2 R (as ++ as') (bs ++ bs') := by
  induction h with
  | nil => exact h'
  | cons r _ ih => exact .cons r ih
theorem All2.imp {R S : α → β → Prop} (f : ∀ a b, R a b → S a b) {as : List α} {bs : List β} (h : All2 R as bs) : All2 S as bs := by
  induction h with
  | nil => exact .nil
  | cons r _ ih => exact .cons (f _ _ r) ih
theorem All2.get {R : α → β → Prop} {as : List α} {bs : List β} (h : All2 R as bs) : ∀ {i : Nat} {a : α} {b : β}, as[i]? = some a → bs[i]? = some b → R a b := by
  induction h with
  | nil => intro i a b e; cases e
  | cons r _ ih =>
    intro i a b e e'
    cases i with
    | zero => cases e; cases e'; exact r
    | succ i => exact ih e e'
theorem mapO_map {f : α → Option β} {γ : Type} {u : γ → α} {v : γ → β} : ∀ {l : List γ}, (∀ x ∈ l, f (u x) = some (v x)) → mapO f (l.map u) = some (l.map v)
  | [], _ => rfl
  | x :: l, h => by
    rw [List.map_cons, List.map_cons]
    unfold mapO
    rw [h x (List.mem_cons_self ..), mapO_map fun y hy => h y (List.mem_cons_of_mem _ hy)]
theorem pd_ints {n : Nat} (ns : List Int) : mapO (pd h (n + 1)) (ns.map D.int) = some (ns.map PyData.int) := mapO_map fun _ _ => rfl
theorem pd_strs {n : Nat} (ns : List Str) : mapO (pd h (n + 1)) (ns.map D.str) = some (ns.map PyData.str) := mapO_map fun _ _ => rfl
theorem pd_ref {n k : Nat} {xs : List D} {ps : List PyData} (e : lsAt h k = some xs) (p : mapO (pd h n) xs = some ps) : pd h (n + 1) (.ref k) = some (.list ps) := by
  show (match lsAt h k with | some xs => (mapO (pd h n) xs).map PyData.list | none => none) = _
  rw [e]
  show (mapO (pd h n) xs).map PyData.list = _
  rw [p]
  rfl
theorem depth_all {d : Nat} : ∀ {l : List PyData}, (∀ x ∈ l, x.depth ≤ d) → PyData.depthAll l ≤ d
  | [], _ => Nat.zero_le _
  | x :: l, h => by
    rw [PyData.depthAll]
    exact Nat.max_le.mpr ⟨h x (List.mem_cons_self ..), depth_all fun y hy => h y (List.mem_cons_of_mem _ hy)⟩
theorem lay_all : ∀ {l : List PyData}, (∀ x ∈ l, x.canLay0 = true) → PyData.canLayAll0 l = true
  | [], _ => rfl
  | x :: l, h => by
    rw [PyData.canLayAll0, h x (List.mem_cons_self ..), lay_all fun y hy => h y (List.mem_cons_of_mem _ hy)]
    rfl
theorem shaped_of {p : PyData} (h1 : p.canLay0 = true) (h2 : p.depth ≤ 64) : SeqAt.shaped p = true := by
  unfold SeqAt.shaped
  rw [h1, decide_eq_true h2]; rfl
theorem shaped_list {l : List PyData} {d : Nat} (h1 : ∀ x ∈ l, x.canLay0 = true) (h2 : ∀ x ∈ l, x.depth ≤ d) (hd : d < 64) : SeqAt.shaped (.list l) = true :=
  shaped_of (by rw [PyData.canLay0]; exact lay_all h1) (by rw [PyData.depth]; have := depth_all h2; omega)
theorem shaped_tuple {l : List PyData} {d : Nat} (h1 : ∀ x ∈ l, x.canLay0 = true) (h2 : ∀ x ∈ l, x.depth ≤ d) (hd : d < 64) : SeqAt.shaped (.tuple l) = true :=
  shaped_of (by rw [PyData.canLay0]; exact lay_all h1) (by rw [PyData.depth]; have := depth_all h2; omega)
theorem shaped_ints (ns : List Int) : SeqAt.shaped (.list (ns.map PyData.int)) = true := shaped_list (d := 0) (fun x hx => by
  obtain ⟨i, _, rfl⟩ := List.mem_map.mp hx
  rfl) (fun x hx => by
  obtain ⟨i, _, rfl⟩ := List.mem_map.mp hx
  exact Nat.le_refl _) (by decide)
theorem eqv_ints : ∀ ns ms : List Int, PyData.eqvAll (ns.map PyData.int) (ms.map PyData.int) = decide (ns = ms)
  | [], [] => by rw [List.map_nil, PyData.eqvAll]; rfl
  | [], m :: ms => by rw [List.map_nil, List.map_cons, PyData.eqvAll]; rfl
  | n :: ns, [] => by rw [List.map_nil, List.map_cons, PyData.eqvAll]; rfl
  | n :: ns, m :: ms => by
    rw [List.map_cons, List.map_cons, PyData.eqvAll, eqv_ints ns ms, PyData.eqv]
    by_cases a : n = m
    · subst a
      by_cases b : ns = ms
      · subst b; simp
      · simp [b]
    · have : (n == m) = false := by simpa using a
      rw [this]; simp [a]
/-- two lists of ints -/
theorem eqD_ints {a b : Nat} {ns ms : List Int} (ea : lsAt h a = some (ns.map D.int)) (eb : lsAt h b = some (ms.map D.int)) : eqD h (.ref a) (.ref b) = some (decide (ns = ms)) := by
  show (match pd h 65 (.ref a), pd h 65 (.ref b) with | some p, some q => if SeqAt.shaped p = true ∧ SeqAt.shaped q = true then some (PyData.eqv p q) else none | _, _ => none) = _
  rw [pd_ref ea (pd_ints ns), pd_ref eb (pd_ints ms)]
  show (if _ then _ else _) = _
  rw [if_pos ⟨shaped_ints ns, shaped_ints ms⟩, PyData.eqv, eqv_ints]
/-- the same plain data -/
def Sd (h : MH) : Nat → D → D → Prop
  | 0, a, b => (∃ i, a = .int i ∧ b = .int i) ∨ (∃ i, a = .str i ∧ b = .str i) ∨ (∃ i, a = .bl i ∧ b = .bl i) ∨ (a = .non ∧ b = .non)
  | n + 1, a, b => Sd h n a b ∨ (∃ xs ys, a = .tup xs ∧ b = .tup ys ∧ ys.length ≤ sizeLine ∧ All2 (Sd h n) xs ys) ∨ ∃ k l xs ys, a = .ref k ∧ b = .ref l ∧ lsAt h k = some xs ∧ lsAt h l = some ys ∧ ys.length ≤ sizeLine ∧ All2 (Sd h n) xs ys
theorem Sd.gr (g : Gr h h1) : ∀ {n : Nat} {a b : D}, Sd h n a b → Sd h1 n a b
  | 0, _, _, s => s
  | n + 1, a, b, s => by
    rcases s with s | ⟨xs, ys, e1, e2, e3, s⟩ | ⟨k, l, xs, ys, e1, e2, e3, e4, e5, s⟩
    · exact .inl (Sd.gr g s)
    · exact .inr (.inl ⟨xs, ys, e1, e2, e3, s.imp fun _ _ => Sd.gr g⟩)
    · exact .inr (.inr ⟨k, l, xs, ys, e1, e2, g.ls e3, g.ls e4, e5, s.imp fun _ _ => Sd.gr g⟩)
end
section
variable {h h1 : MH} {ms : MS} {Q : D → MH → Prop} {g : MG} {t : MT} {m mk mv : ME} {src : MI} {vs : List Nat}
theorem wp_lcP (T : D → Bool) (f : D → D)
    (hs : Wp (src ms h) fun a h1 => a.1.length ≤ sizeLine ∧ (∀ h2, Gr h1 h2 → a.2 h2) ∧
      (∀ d ∈ a.1, ∀ h2, Gr h1 h2 → WS (g d (wipeM ms vs) h2) (fun ms1 h3 => Wp (t ms1 h3) fun c h4 => c = T d ∧ h4 = h2 ∧ (c = true → Wp (m ms1 h4) fun y h5 => y = f d ∧ h5 = h2)) (fun _ _ => False) (fun _ _ => False) fun _ _ => False) ∧
      Q (.ref h1.length) (h1 ++ [.lst ((a.1.filter T).map f)])) : Wp (mLc src vs g t m ms h) Q := by
  obtain ⟨a, h1, e, hl, hc, hb, q⟩ := hs.get
  refine wp_lc (fun k done rest acc h2 => k = h1.length ∧ done ++ rest = a.1 ∧ acc = (done.filter T).map f ∧ h2 = h1 ++ [.lst acc]) (.of e ⟨⟨rfl, rfl, rfl, rfl⟩, ?_, ?_⟩)
  · rintro done d rest acc h2 ⟨-, e1, e2, e3⟩ hk
    have g12 : Gr h1 h2 := by rw [e3]; exact .app _
    refine ⟨hc _ g12, (hb d (by rw [← e1]; simp) h2 g12).mono (fun ms1 h3 w => w.mono fun c h4 ⟨q1, q2, q3⟩ => ?_) (fun _ _ z => z) (fun _ _ z => z) fun _ _ z => z⟩
    refine ⟨fun hc => (q3 hc).mono fun y h5 ⟨r1, r2⟩ => ?_, fun hc => ?_⟩
    · subst r1 r2
      refine ⟨hk, ?_, rfl, by rw [← e1]; simp, ?_, ?_⟩
      · have a1 : acc.length ≤ done.length := by rw [e2, List.length_map]; exact List.length_filter_le _ _
        have a2 : a.1.length = done.length + (rest.length + 1) := by rw [← e1]; simp
        omega
      · rw [e2, List.filter_append, List.map_append]
        have : T d = true := by rw [← q1]; exact hc
        simp [this]
      · rw [e3]; simp
    · subst q2
      refine ⟨hk, rfl, by rw [← e1]; simp, ?_, e3⟩
      rw [e2, List.filter_append]
      have : T d = false := by rw [← q1]; exact hc
      simp [this]
  · rintro done acc h2 ⟨-, e1, e2, e3⟩ hk
    have e4 : done = a.1 := by simpa using e1
    have g12 : Gr h1 h2 := by rw [e3]; exact .app _
    refine ⟨hc _ g12, ?_⟩
    rw [e3, e2, e4]
    exact q
end
end Sm
namespace Sm
open PySem PySem.Spec PyProof.Rows L2
section
variable {h : MH} {Q : D → MH → Prop}
theorem if_yes {X Y : Prop} (p : X) : ((true = true) → X) ∧ ((true = false) → Y) := ⟨fun _ => p, fun e => nomatch e⟩
theorem if_no {X Y : Prop} (p : Y) : ((false = true) → X) ∧ ((false = false) → Y) := ⟨fun e => (nomatch e), fun _ => p⟩
theorem if_dec {P X Y : Prop} [Decidable P] (p : P → X) (q : ¬P → Y) : ((decide P = true) → X) ∧ ((decide P = false) → Y) := ⟨fun e => p (of_decide_eq_true e), fun e => q (of_decide_eq_false e)⟩
theorem if_ndec {P X Y : Prop} [Decidable P] (p : ¬P → X) (q : P → Y) : (((!decide P) = true) → X) ∧ (((!decide P) = false) → Y) := ⟨fun e => p (by simpa using e), fun e => q (by simpa using e)⟩
theorem ty_ls {k : Nat} {xs : List D} (e : lsAt h k = some xs) : tyN h (.ref k) = some "list" := by
  unfold lsAt at e
  unfold tyN
  cases z : h[k]? with
  | none => rw [z] at e; cases e
  | some o => cases o <;> simp_all
theorem ty_dc {k : Nat} {xs : List (D × D)} (e : dcAt h k = some xs) : tyN h (.ref k) = some "dict" := by
  unfold dcAt at e
  unfold tyN
  cases z : h[k]? with
  | none => rw [z] at e; cases e
  | some o => cases o <;> simp_all
theorem wp_isi_no {d : D} {T : String} {a : String} (e : tyN h d = some a) (ec : isiT a T = some false) (q : Q (.bl false) h) : Wp (fIsi [d, .ty T] h) Q := wp_isi e ec q
theorem wp_isi_yes {d : D} {T : String} {a : String} (e : tyN h d = some a) (ec : isiT a T = some true) (q : Q (.bl true) h) : Wp (fIsi [d, .ty T] h) Q := wp_isi e ec q
theorem and_ty {T : String} {d : D} {P : Prop} (a : isTy T h d = true) (p : P) : isTy T h d = true ∧ P := ⟨a, p⟩
theorem isTy_ls {k : Nat} {xs : List D} (e : lsAt h k = some xs) : isTy "list" h (.ref k) = true := by
  show ((("list" : String) == "list" && (lsAt h k).isSome) || _) = true
  rw [e]; rfl
theorem isTy_dc {k : Nat} {xs : List (D × D)} (e : h[k]? = some (.dic xs)) : isTy "dict" h (.ref k) = true := by
  show ((("dict" : String) == "list" && (lsAt h k).isSome) || (("dict" : String) == "dict" && match h[k]? with | some (.dic _) => true | _ => false)) = true
  rw [e]; simp
end
end Sm
namespace Sm
open PySem PySem.Spec PyProof.Rows L2
section
variable {h h1 : MH} {ms : MS} {Q : D → MH → Prop} {g : MG} {t : MT} {m mk mv : ME} {src : MI} {vs : List Nat}
theorem rng_len {lo : Int} {n : Nat} : (rng lo n).length = n := by unfold rng; simp
theorem int_at {α : Type} {xs : List α} {i : Nat} {d : α} (e : xs[i]? = some d) : atI xs ((i : Nat) : Int) = some d := by
  have hi := (List.getElem?_eq_some_iff.mp e).1
  unfold atI ixN
  rw [if_pos (by omega), if_pos (by omega)]
  exact e
theorem wp_ixQ {h : MH} {d : D} {xs : List D} {i : Int} {x : D} {Q : D → MH → Prop} (e : sqD h d = some xs) (ex : atI xs i = some x) (q : Q x h) : Wp (gIx d (.int i) h) Q := by
  cases d with
  | ref k => exact wp_ixL (k := k) e ex q
  | tup ds => cases e; exact wp_ixT ex q
  | _ => cases e
end
end Sm
namespace Sm
open PySem PySem.Spec PyProof.Rows L2
section
variable {h : MH} {Q : D → MH → Prop}
theorem wp_eqBB {x : Bool} (q : Q (.bl true) h) : Wp (gEq (.bl x) (.bl x) h) Q := wp_eqB (by simpa using q)
theorem wp_eqII {x : Int} (q : Q (.bl true) h) : Wp (gEq (.int x) (.int x) h) Q := wp_eqI (by simpa using q)
theorem wp_eqSS {x : Str} (q : Q (.bl true) h) : Wp (gEq (.str x) (.str x) h) Q := wp_eqS (by simpa using q)
theorem wp_neBB {x : Bool} (q : Q (.bl false) h) : Wp (gNe (.bl x) (.bl x) h) Q := wp_neB (by simpa using q)
theorem wp_neII {x : Int} (q : Q (.bl false) h) : Wp (gNe (.int x) (.int x) h) Q := wp_neI (by simpa using q)
theorem wp_neSS {x : Str} (q : Q (.bl false) h) : Wp (gNe (.str x) (.str x) h) Q := wp_neS (by simpa using q)
end
end Sm
namespace Sm
open PySem PySem.Spec PyProof.Rows L2
theorem wp_len_L {h : MH} {Q : D → MH → Prop} {k : Nat} {xs : List D} (e : lsAt h k = some xs) (q : Q (.int xs.length) h) : Wp (fLen [.ref k] h) Q := wp_len_sq (d := .ref k) e q
end Sm
namespace Sm
open PySem PySem.Spec PyProof.Rows L2
section
variable {h : MH}
theorem look_put {kvs : List (D × D)} {c : Key} {k v : D} (ek : keyD k = some c) (c' : Key) : lookD (putD kvs c k v) c' = if c' = c then some v else lookD kvs c' := by
  have app : ∀ kvs : List (D × D), (∀ kv ∈ kvs, keyD kv.1 ≠ some c) → lookD (kvs ++ [(k, v)]) c' = if c' = c then some v else lookD kvs c' := fun kvs => by
    induction kvs with
    | nil =>
      intro _
      show (if keyD k = some c' then some v else none) = _
      rw [ek]
      by_cases e : c' = c
      · subst e; simp [lookD]
      · rw [if_neg e, if_neg (fun z => e (Option.some.inj z).symm)]; rfl
    | cons a r ih =>
      intro hn
      obtain ⟨a, d⟩ := a
      have h1 := hn _ (List.mem_cons_self ..)
      have h2 := ih fun x hx => hn x (List.mem_cons_of_mem _ hx)
      show (if keyD a = some c' then some d else lookD (r ++ [(k, v)]) c') = if c' = c then some v else if keyD a = some c' then some d else lookD r c'
      by_cases e : c' = c
      · subst e; rw [if_pos rfl, if_neg h1, h2, if_pos rfl]
      · rw [if_neg e, h2, if_neg e]
  have mp : ∀ kvs : List (D × D), lookD (kvs.map fun kv => if keyD kv.1 = some c then (kv.1, v) else kv) c' = if c' = c ∧ (∃ kv ∈ kvs, keyD kv.1 = some c) then some v else lookD kvs c' := fun kvs => by
    induction kvs with
    | nil => simp [lookD]
    | cons a r ih =>
      obtain ⟨a, d⟩ := a
      rw [List.map_cons]
      by_cases e : keyD a = some c
      · rw [if_pos e]
        show (if keyD a = some c' then some v else lookD _ c') = _
        by_cases ec : c' = c
        · subst ec
          rw [if_pos e, if_pos ⟨rfl, _, List.mem_cons_self .., e⟩]
        · have ne : keyD a ≠ some c' := fun z => ec (Option.some.inj (z.symm.trans e))
          rw [if_neg ne, ih, if_neg (fun z => ec z.1), if_neg (fun z => ec z.1)]
          show _ = if keyD a = some c' then some d else lookD r c'
          rw [if_neg ne]
      · rw [if_neg e]
        show (if keyD a = some c' then some d else lookD _ c') = _
        rw [ih]
        by_cases ec : keyD a = some c'
        · rw [if_pos ec]
          have : c' ≠ c := fun z => e (z ▸ ec)
          rw [if_neg (fun z => this z.1)]
          show _ = if keyD a = some c' then some d else lookD r c'
          rw [if_pos ec]
        · rw [if_neg ec]
          have : (∃ kv ∈ ((a, d) :: r : List (D × D)), keyD kv.1 = some c) ↔ ∃ kv ∈ r, keyD kv.1 = some c := by
            constructor
            · rintro ⟨kv, hm, hk⟩
              rcases List.mem_cons.mp hm with rfl | hm
              · exact absurd hk e
              · exact ⟨kv, hm, hk⟩
            · rintro ⟨kv, hm, hk⟩
              exact ⟨kv, List.mem_cons_of_mem _ hm, hk⟩
          simp only [this]
          show _ = if _ then _ else if keyD a = some c' then some d else lookD r c'
          rw [if_neg ec]
  unfold putD
  by_cases hany : (kvs.any fun kv => decide (keyD kv.1 = some c)) = true
  · rw [if_pos hany, mp]
    have : ∃ kv ∈ kvs, keyD kv.1 = some c := by simpa using hany
    simp only [this, and_true]
  · rw [if_neg hany]
    exact app kvs fun kv hm hk => hany (List.any_eq_true.mpr ⟨kv, hm, decide_eq_true hk⟩)
theorem len_put {kvs : List (D × D)} {c : Key} {k v : D} : (putD kvs c k v).length ≤ kvs.length + 1 := by
  unfold putD
  split
  · simp
  · simp
theorem keys_put {kvs : List (D × D)} {c : Key} {k v : D} : (putD kvs c k v).map (·.1) = if (kvs.any fun kv => decide (keyD kv.1 = some c)) = true then kvs.map (·.1) else kvs.map (·.1) ++ [k] := by
  unfold putD
  split
  · rw [List.map_map]
    refine List.map_congr_left fun kv _ => ?_
    show (if keyD kv.1 = some c then (kv.1, v) else kv).1 = kv.1
    split <;> rfl
  · simp
/-- each int once, as first met -/
def dd (acc : List Int) (n : Int) : List Int := if n ∈ acc then acc else acc ++ [n]
theorem mem_dd {acc : List Int} {n v : Int} : v ∈ dd acc n ↔ v ∈ acc ∨ v = n := by
  unfold dd
  split
  · constructor
    · exact .inl
    · rintro (z | rfl)
      · exact z
      · assumption
  · simp
theorem nd_foldl : ∀ (ns acc : List Int), acc.Nodup → (ns.foldl dd acc).Nodup
  | [], acc, h => h
  | n :: ns, acc, h => by
    refine nd_foldl ns _ ?_
    unfold dd
    split
    · exact h
    · next hn =>
      rw [List.nodup_append]
      exact ⟨h, by simp, fun a ha b hb => by
        rw [List.mem_singleton.mp hb]
        rintro rfl
        exact hn ha⟩
/-- the first place of v -/
def pos (v : Int) : List Int → Nat
  | [] => 0
  | x :: r => if x = v then 0 else pos v r + 1
/-- the keys are ints -/
theorem any_keys {kvs : List (D × D)} {ks : List Int} (e : kvs.map (·.1) = ks.map D.int) (n : Int) : (kvs.any fun kv => decide (keyD kv.1 = some (.inl n))) = decide (n ∈ ks) := by
  induction kvs generalizing ks with
  | nil =>
    cases ks with
    | nil => simp
    | cons k ks => simp at e
  | cons a r ih =>
    cases ks with
    | nil => simp at e
    | cons k ks =>
      simp only [List.map_cons, List.cons.injEq] at e
      rw [List.any_cons, ih e.2, e.1]
      have : (keyD (.int k) = some (.inl n)) ↔ n = k := by
        show (some (Sum.inl k : Key) = some (Sum.inl n)) ↔ _
        constructor
        · intro z; cases z; rfl
        · rintro rfl; rfl
      simp only [this, List.mem_cons]
      by_cases a : n = k <;> by_cases b : n ∈ ks <;> simp [a, b]
theorem keys_put_int {kvs : List (D × D)} {ks : List Int} {n : Int} {v : D} (e : kvs.map (·.1) = ks.map D.int) : (putD kvs (.inl n) (.int n) v).map (·.1) = (dd ks n).map D.int := by
  rw [keys_put, any_keys e, e]
  unfold dd
  by_cases hn : n ∈ ks
  · simp [hn]
  · simp [hn]
end
end Sm
namespace Sm
open PySem PySem.Spec PyProof.Rows L2
section
variable {h h1 : MH} {ms : MS} {Q : D → MH → Prop} {g : MG} {t : MT} {m mk mv : ME} {src : MI} {vs : List Nat}
theorem gr_of_fr {p : Nat} {h2 : MH} (a : Gr h h1) (b : Fr p h1 h2) (hp : h.length ≤ p) : Gr h h2 := fun i o e => b.2 i (by have := lt_of_at e; omega) o (a i o e)
theorem enum_at {xs done rest : List D} {d : D} (e : done ++ d :: rest = enumD xs) : ∃ x, xs[done.length]? = some x ∧ d = .tup [.int (done.length : Nat), x] := by
  have h1 : (enumD xs)[done.length]? = some d := by rw [← e]; simp
  unfold enumD at h1
  rw [List.getElem?_map] at h1
  have hl : done.length < xs.length := by
    have := congrArg List.length e
    unfold enumD at this
    simp at this
    omega
  rw [List.getElem?_range hl] at h1
  have h2 := List.getElem?_eq_getElem hl
  refine ⟨_, h2, ?_⟩
  have : some d = some (D.tup [.int (done.length : Nat), xs.getD done.length .non]) := h1.symm
  rw [List.getD_eq_getElem?_getD, h2] at this
  exact Option.some.inj this
theorem enum_len {xs : List D} : (enumD xs).length = xs.length := by unfold enumD; simp
end
end Sm
namespace Sm
open PySem PySem.Spec PyProof.Rows L2
end Sm
namespace Sm
open PySem PySem.Spec PyProof.Rows L2
theorem if_nt {X Y : Prop} (p : Y) : (((!true) = true) → X) ∧ (((!true) = false) → Y) := ⟨fun e => (nomatch e), fun _ => p⟩
theorem if_nf {X Y : Prop} (p : X) : (((!false) = true) → X) ∧ (((!false) = false) → Y) := ⟨fun _ => p, fun e => (nomatch e)⟩
end Sm
namespace PySem
open Sem (wp)
open Builtin Builtin.Str
theorem sm_enum_new {u : Value} {ob : Obj} {HH : Heap → Prop} (B : Begins u ob HH) :
    Meets (Builtin.«enumerate.__new__» ⟨[.type "enumerate", u], []⟩) (fun _ R st => HH st.heap ∧ R (.ok (.ret (.ref (st.heap.push ob).objs.size)))
      { st with heap := (st.heap.push ob).push { cls := .type "enumerate", data := .fields #[.none, .bool false, .ref st.heap.objs.size, rawInt 0, .none, .none] } }) :=
  .of_wp fun pr wo Ar R st hh => by
    obtain ⟨hp, gn, dr, tk, os⟩ := st
    obtain ⟨hB, hh⟩ := hh
    have hsubE := sub_enumerate
    have itr : ∀ {A2 : Around} {E : Value → Shared → Prop} {Q : Value → Shared → Prop}, Q (.ref hp.objs.size) ⟨hp.push ob, gn, dr, tk, os⟩ → wpAny (model pr wo) A2 (pyIter u) Q E ⟨hp, gn, dr, tk, os⟩ := fun q => B.iter pr wo _ _ ⟨hp, gn, dr, tk, os⟩ _ hB q
    wp_walk using itr
    refine wpAny_stack_any fun stk => wpAny_pure ?_
    split
    · rename_i cc _ _ _ _ _
      cases (cc == Value.type "enumerate")
      all_goals wp_walk using itr
      all_goals exact ⟨_, rfl, hh⟩
    · wp_walk using itr
      exact ⟨_, rfl, hh⟩
theorem sm_enum_call {prog : Program} {w : World} {A : Around} {E : Value → Shared → Prop} {s : Shared} {u : Value} {ob : Obj} {HH : Heap → Prop} {Q : Value → Shared → Prop} (B : Begins u ob HH) (hB : HH s.heap)
    (hq : ∀ h2, IsEnum h2 (s.heap.objs.size + 1) s.heap.objs.size 0 .none → h2.get? s.heap.objs.size = some ob → (∀ b o, s.heap.get? b = some o → h2.get? b = some o) → Q (.ref (s.heap.objs.size + 1)) { s with heap := h2 }) :
    wpAny (model prog w) A (call (.type "enumerate") [u]) Q E s := by
  refine callType_new F.called_enumerate (by decide) (F.typeCall_enumerate_1 _) (F.newCall_enumerate_1 _) (fun obj => F.args_object_init_2 obj _) F.entry_enumerate_new (sm_enum_new B) ⟨hB, ?_⟩
  have sz : (s.heap.push ob).objs.size = s.heap.objs.size + 1 := Heap.size_push ..
  show _ ∧ _
  rw [sz]
  have en : IsEnum ((s.heap.push ob).push { cls := .type "enumerate", data := .fields #[.none, .bool false, .ref s.heap.objs.size, rawInt 0, .none, .none] }) (s.heap.objs.size + 1) s.heap.objs.size 0 .none := by
    have z := Heap.get?_push_size (s.heap.push ob) (o := { cls := .type "enumerate", data := .fields #[.none, .bool false, .ref s.heap.objs.size, rawInt 0, .none, .none] }) rfl
    rw [sz] at z
    exact z
  exact ⟨⟨_, en, rfl⟩, hq _ en (Heap.get?_push_of_some _ (Heap.get?_push_size _ B.free)) fun b o x => Heap.get?_push_of_some _ (Heap.get?_push_of_some _ x)⟩
end PySem
namespace Sm
open PySem PySem.Spec PyProof.Rows L2
/-- the tuple at a, each item in a new pair -/
def IteT (K : PySem.W.Frag) (a : Addr) : It :=
  ⟨fun i H => ∃ (xs : List V) (x : V), SqT K H a xs ∧ xs[i]? = some x, fun i H v H' => ∃ (T : Addr) (x : V) (o : Obj), v = .ref T ∧ H T = none ∧ o.dict = none ∧ H' = upd H T (.frz o (.tup [.int (i : Nat), x])) ∧ ∀ xs, SqT K H a xs → xs[i]? = some x, fun i H => ∃ xs : List V, SqT K H a xs ∧ xs.length = i⟩
theorem turn_enumT {P : Program} {w : World} {K : PySem.W.Frag} {elts : List Expr} {kk : Nat} {tpos : Pos} (a e it : Addr) :
    Turn P w K (.Tuple elts kk tpos) (IteT K a) [e, it] e (fun i h => (∃ old, IsEnum h e it ((i : Nat) : Int) old) ∧ h.IsTupleIter it a i ∧ e ≠ it ∧ a ≠ it ∧ a ≠ e) where
  mem := by simp
  obj := fun i h st b hb => by
    obtain ⟨⟨old, he⟩, ⟨o, ho, hc, hd⟩, _⟩ := st
    rcases (by simpa using hb : b = e ∨ b = it) with z | z
    · subst z; exact ⟨_, he, fun v q => nomatch q⟩
    · subst z; exact ⟨o, ho, fun v q => by rw [hd] at q; cases q⟩
  keep := fun i h h' st k => ⟨⟨st.1.choose, k e (by simp) _ st.1.choose_spec⟩, st.2.1.at fun o q => k it (by simp) o q, st.2.2⟩
  item := by
    intro X hP hw hK hc i pins s σ H E I hf st hg
    subst hP hw hK
    obtain ⟨⟨old, he⟩, hit, hne, hai, hae⟩ := st
    obtain ⟨xs, x, hq, hx⟩ := hg
    obtain ⟨its, rv, p, hz⟩ := I.tuple hq
    obtain ⟨u, hu, ru⟩ := rv.get hx
    have hel : e < s.heap.objs.size := Heap.lt_size he
    have hil : it < s.heap.objs.size := Heap.lt_size hit.choose_spec.1
    have hlt : i < its.toArray.size := by
      have := (List.getElem?_eq_some_iff.mp hu).1
      simpa using this
    have DD : Draws X.prog X.w X.A.in1 it [it, a] its.toArray.size (fun i v => its.toArray[i]? = some v) (fun i h => h.IsTupleIter it a i ∧ h.IsTuple a its.toArray) 
      := Draws.tuple (A := X.A.in1) (show X.A.in1.handled = none from I.ok.hd hc) it a hai its.toArray
    refine wpAny_pyNext_enum_itemD DD he ⟨hit, p⟩ hlt hne (by simp [hne, Ne.symm hae]) fun y h' tk hy ho hst' hT hsz hk => ?_
    have hyu : y = u := by
      have h1 : its.toArray[i]? = some u := by simpa using hu
      exact Option.some.inj (hy.symm.trans h1)
    subst hyu
    refine ⟨_, rfl, wpAny_letOwnedTupleGo_enum (s := { s with heap := h', toks := tk + 1 }) ho fun h'' he' sb => ?_⟩
    have hT2 : h''.get? s.heap.objs.size = some (tObj [.int i tk, y] 0) := (sb.2 _ (Nat.ne_of_gt hel)).trans hT
    have I1 := I.turnedNew (t' := tk + 1) (h' := h'') (ob := .frz (tObj [.int i tk, y] 0) (.tup [.int (i : Nat), x])) (ch := [e, it]) (fun b ob hb q => (sb.2 b (fun z => hb (by simp [z]))).trans (hk b ob (fun z => hb (by simp [z])) (fun z => hb (by simp [z])) q)) hf (Nat.le_refl s.heap.objs.size)
      ⟨hT2, by show 2 ≤ sizeLine; decide, [.int i tk, y], .cons ⟨_, rfl⟩ (.cons ru .nil), ⟨_, hT2, rfl, _, rfl⟩⟩
    refine ⟨.ref s.heap.objs.size, _, I1, rfl, ⟨_, x, _, rfl, I.hok.fresh (Nat.le_refl _), rfl, rfl, fun ys hy => by rw [I.tuple_inj hy hq]; exact hx⟩, ⟨⟨y, ?_⟩, hst'.1.at fun o q => (sb.2 it (Ne.symm hne)).trans q, hne, hai, hae⟩, fun b hb => ?_⟩
    · rw [show ((i + 1 : Nat) : Int) = (i : Int) + 1 by omega]; exact he'
    · have hb' : b < s.heap.objs.size := by
        rcases (by simpa using hb : b = e ∨ b = it) with z | z
        · rw [z]; exact hel
        · rw [z]; exact hil
      rw [upd_ne (Nat.ne_of_lt hb')]
      exact (hf b hb).1
  done := by
    intro X hP hw hK hc i pins s σ H E I hf st hg
    subst hP hw hK
    obtain ⟨⟨old, he⟩, hit, hne, hai, hae⟩ := st
    obtain ⟨xs, hq, hx⟩ := hg
    obtain ⟨its, rv, p, hz⟩ := I.tuple hq
    obtain ⟨f0, f1, f2, f3, f4, f5⟩ := hf it (by simp)
    have hl := rv.length
    have hsz : its.toArray.size = i := by simp; omega
    have DD : Draws X.prog X.w X.A.in1 it [it, a] its.toArray.size (fun i v => its.toArray[i]? = some v) (fun i h => h.IsTupleIter it a i ∧ h.IsTuple a its.toArray)
      := Draws.tuple (A := X.A.in1) (show X.A.in1.handled = none from I.ok.hd hc) it a hai its.toArray
    exact wpAny_pyNext_enum_endD DD he (by rw [hsz]; exact ⟨hit, p⟩) fun h' eb => ⟨rfl, I.turned (t' := s.toks) (fun b o hb q => eb b o hb q) f0 f1 f3 f4 f5⟩
  self := fun A i s Q E st h => let ⟨⟨_, he⟩, _⟩ := st; wpAny_pyIter_enum he h
def iEnumA2 (K : PySem.W.Frag) (ta : TA) : TI := fun σ H R => ta σ H fun vs H1 => ∃ a xs, vs = [.ref a] ∧ ((SqL K H1 a xs ∧ R (IteN K a) H1) ∨ (SqT K H1 a xs ∧ R (IteT K a) H1))
theorem pi_enumA {X : Cx} {e : Expr} {ta : TA} {p pos tpos : Pos} {elts : List Expr} {kk : Nat} (hg : Gl X "enumerate") (hm : X.mg "enumerate" = none) (ha : PA X [e] ta) (hs : starEach [e] X.env = [(false, eval e X.env)] := by rfl) :
    PI X (.Tuple elts kk tpos) (.Call (.Name "enumerate" p) [e] [] pos) (iEnumA2 X.K ta) := by
  refine ⟨fun pins s σ H R I h => Call_ (ld_blt I hg hm boot_enumerate (PyProof.Rows.callWith_type1 (thn (ha.run pos pins s σ H _ I h) fun us s1 ⟨vs, H1, I1, r1, q1⟩ => ?_) hs rfl))⟩
  obtain ⟨a, xs, ex, q⟩ := q1
  subst ex
  obtain _ | ⟨rr, rr2⟩ := r1
  cases rr2
  cases rr
  have fresh : ∀ b ∈ [s1.heap.objs.size + 1, s1.heap.objs.size], FpOk X pins H1 b := fun b hb => by
    have hle : s1.heap.objs.size ≤ b := by
      rcases (by simpa using hb : b = s1.heap.objs.size + 1 ∨ b = s1.heap.objs.size) with z | z
      · rw [z]; exact Nat.le_add_right _ _
      · rw [z]; exact Nat.le_refl _
    exact I1.fpOk hle (I1.hok.fresh hle)
  rcases q with ⟨hq, q⟩ | ⟨hq, q⟩
  · obtain ⟨its, rv, p', hz⟩ := I1.list hq
    refine call_enumerate_list p'.isList fun h' he hit hsz hk => wpAny_pyIter_enum he ?_
    have I2 : Inv X pins σ H1 { s1 with heap := h' } := I1.kept (t' := s1.toks) hk
    exact ⟨s1.heap.objs.size + 1, [s1.heap.objs.size + 1, s1.heap.objs.size], _, _, H1, rfl, I2, turn_enumN a (s1.heap.objs.size + 1) s1.heap.objs.size, ⟨⟨.none, he⟩, hit, Nat.succ_ne_self _⟩, fresh, q⟩
  · obtain ⟨its, rv, p', hz⟩ := I1.tuple hq
    have hal : a < s1.heap.objs.size := Heap.lt_size p'.choose_spec.1
    refine sm_enum_call (begins_tuple a its.toArray) p' fun h' he hit hk => wpAny_pyIter_enum he ?_
    have I2 : Inv X pins σ H1 { s1 with heap := h' } := I1.kept (t' := s1.toks) hk
    exact ⟨s1.heap.objs.size + 1, [s1.heap.objs.size + 1, s1.heap.objs.size], _, _, H1, rfl, I2, turn_enumT a (s1.heap.objs.size + 1) s1.heap.objs.size, ⟨⟨.none, he⟩, ⟨_, hit, rfl, rfl⟩, Nat.succ_ne_self _, Nat.ne_of_lt hal, Nat.ne_of_lt (Nat.lt_succ_of_lt hal)⟩, fresh, q⟩
/-- enumerate of a list or of a tuple -/
def iEnumA (n : MA) : MI := fun ms h => (n ms h).bind fun ds h1 => match ds with
  | [.tup xs] => .ok (enumD xs, fun _ => True) h1
  | [.ref n] => match lsAt h1 n with
    | some ds => .ok (enumD ds, fun h => lsAt h n = some ds) h1
    | none => .bad
  | _ => .bad
theorem walks_enumT {K : PySem.W.Frag} {mg : NW} {r0 : List Addr} {H0 : Hp} {a : Addr} {ds : List D} {vs : List V} (hq : SqT K H0 a vs) (e : RVs K mg H0 r0 ds vs) : Walks K mg r0 H0 (enumD ds, fun _ => True) (IteT K a) := by
  intro i r H mh st rh hc
  have z1 : SqT K H a vs := hq.imp (fun x => st.tp _ _ x) id
  have z2 : RVs K mg H r ds vs := e.mono st
  refine ⟨fun d hd => ?_, fun hi => ⟨vs, z1, by rw [← z2.len, ← enumD_len]; exact hi.symm⟩⟩
  obtain ⟨x, hx, rfl⟩ := enumD_at hd
  obtain ⟨v, y1, y2⟩ := z2.get hx
  refine ⟨⟨vs, v, z1, y1⟩, fun w H' hy => ?_⟩
  obtain ⟨T, x', o, rfl, hT, ho, rfl, hxs⟩ := hy
  exact ⟨rh.other hT, rv_newT hT ho (.cons (.int _) (.cons (z2.pick hx (hxs vs z1)) .nil)), stp_new hT⟩
section
variable {X : Cx} {W : WX} {e : Expr} {n : MA} {p pos : Pos}
theorem si_enumA {elts : List Expr} {kk : Nat} {tpos : Pos} (hm : X.mg "enumerate" = none) (ha : SA X W [e] n) (hg : X.env.kindOf "enumerate" = some .globalImplicit := by kernel_rfl) (hs : starEach [e] X.env = [(false, eval e X.env)] := by kernel_rfl) : SI X W (.Tuple elts kk tpos) (.Call (.Name "enumerate" p) [e] [] pos) (iEnumA n) := by
  refine piImp (pi_enumA hg hm ha hs) fun σ H R ⟨r, ms, mh, rs, rh, p⟩ => ?_
  refine ⟨r, ms, mh, rs, rh, p.bind fun ds h1 r1 H1 vs st1 rh1 rvs p1 => ?_⟩
  split at p1
  · obtain ⟨v, rfl, q⟩ := rvs.one
    cases q with
    | tup hq _ hv => exact ⟨_, _, rfl, .inr ⟨hq, p1 r1 H1 _ .refl rh1 (walks_enumT hq hv)⟩⟩
  · obtain ⟨v, rfl, q⟩ := rvs.one
    split at p1
    · rename_i es el
      cases q with
      | ref z1 =>
        obtain ⟨vs, y1, y2⟩ := rh1.lsAt z1 el
        exact ⟨_, vs, rfl, .inl ⟨y1, p1 r1 H1 _ .refl rh1 (walks_enum z1)⟩⟩
    · exact p1.elim
  · exact p1.elim
end
section
variable {h : MH} {ms : MS} {QI : List D × (MH → Prop) → MH → Prop} {n : MA}
theorem wp_iEA (w : Wp (n ms h) fun ds h1 => ∃ d xs, ds = [d] ∧ sqD h1 d = some xs ∧ ∀ P : MH → Prop, (∀ h2, sqD h2 d = some xs → P h2) → QI (enumD xs, P) h1) : Wp (iEnumA n ms h) QI := wp_bind (w.mono fun ds h1 ⟨d, xs, e, el, q⟩ => by
  subst e
  cases d with
  | tup ys => cases el; exact ⟨q _ fun _ _ => trivial⟩
  | ref k =>
    have e' : lsAt h1 k = some xs := el
    show Wp (match lsAt h1 k with | some ds => _ | none => _) QI
    rw [e']
    exact ⟨q _ fun _ z => z⟩
  | _ => cases el)
end
end Sm
namespace Sm
open PySem PySem.Spec PyProof.Rows L2
section
variable {h : MH} {Q : D → MH → Prop}
theorem wp_minL {k : Nat} {xs : List D} {i : Int} {r : List Int} (e : lsAt h k = some xs) (ei : intsD xs = some (i :: r)) (q : Q (.int (minI i r)) h) : Wp (fMin [.ref k] h) Q := by
  unfold fMin
  simp only [e, ei]
  exact ⟨q⟩
theorem wp_repL {k : Nat} {xs : List D} {j : Int} (e : h[k]? = some (.lst xs)) (hl : xs.length * j.toNat ≤ sizeLine) (h1 : -(2 ^ 63) ≤ j) (h2 : j < 2 ^ 63) (q : Q (.ref h.length) (h ++ [.lst (List.replicate j.toNat xs).flatten])) : Wp (gMul (.ref k) (.int j) h) Q := by
  show Wp (match h[k]? with | some (.lst xs) => _ | _ => _) Q
  rw [e]
  show Wp (if _ then _ else _) Q
  rw [if_pos ⟨hl, h1, h2⟩]
  exact ⟨q⟩
theorem wp_extend {k l : Nat} {xs ys : List D} (e : h[k]? = some (.lst xs)) (e2 : h[l]? = some (.lst ys)) (hl : xs.length + ys.length ≤ sizeLine) (q : Q .non (h.set k (.lst (xs ++ ys)))) : Wp (gExtend (.ref k) [.ref l] h) Q := by
  unfold gExtend
  simp only [e, e2, if_pos hl]
  exact ⟨q⟩
theorem wp_all {k : Nat} {bs : List Bool} (e : lsAt h k = some (bs.map D.bl)) (q : Q (.bl (bs.all id)) h) : Wp (fAll [.ref k] h) Q := by
  unfold fAll
  have : (onL h [.ref k]).bind blsD = some bs := by rw [show onL h [.ref k] = some (bs.map D.bl) from e]; exact blsD_map bs
  simp only [this]
  exact ⟨q⟩
/-- equality of two whose data is told -/
theorem eqD_pd {a b : D} {p q : PyData} (h1 : ∀ i j, ¬(a = .int i ∧ b = .int j)) (h2 : ∀ i j, ¬(a = .str i ∧ b = .str j)) (h3 : ∀ i j, ¬(a = .bl i ∧ b = .bl j)) (ea : pd h 65 a = some p) (eb : pd h 65 b = some q) (sa : SeqAt.shaped p = true) (sb : SeqAt.shaped q = true) : eqD h a b = some (PyData.eqv p q) := by
  unfold eqD
  split
  · exact absurd ⟨rfl, rfl⟩ (h1 _ _)
  · exact absurd ⟨rfl, rfl⟩ (h2 _ _)
  · exact absurd ⟨rfl, rfl⟩ (h3 _ _)
  · rw [ea, eb]
    show (if _ then _ else _) = _
    rw [if_pos ⟨sa, sb⟩]
theorem eqD_twin {a b : Nat} {xs : List D} {ps : List PyData} (ea : lsAt h a = some xs) (eb : lsAt h b = some xs) (ep : mapO (pd h 64) xs = some ps) (hs : SeqAt.shaped (.list ps) = true) : eqD h (.ref a) (.ref b) = some true := by
  rw [eqD_pd (a := .ref a) (b := .ref b) (fun _ _ z => nomatch z.1) (fun _ _ z => nomatch z.1) (fun _ _ z => nomatch z.1) (pd_ref ea ep) (pd_ref eb ep) hs hs]
  rw [SeqAt.eqv_refl_plain _ (PyData.plain_of_canLay0 _ (SeqAt.canLay_of_shaped hs))]
/-- is x among the few of a list -/
theorem inD_ls {x : D} {k : Nat} {xs : List D} {p : PyData} {ps : List PyData} (e : lsAt h k = some xs) (ex : pd h 65 x = some p) (ep : mapO (pd h 64) xs = some ps) (s1 : SeqAt.shaped p = true) (s2 : SeqAt.shaped (.list ps) = true) : inD h x (.ref k) = some (ps.any fun z => PyData.eqv z p) := by
  unfold inD
  simp only [dcAt_ls e, e, ex, ep]
  rw [if_pos ⟨s1, s2⟩]
theorem inD_tup {x : D} {xs : List D} {p : PyData} {ps : List PyData} (ex : pd h 65 x = some p) (ep : mapO (pd h 64) xs = some ps) (s1 : SeqAt.shaped p = true) (s2 : SeqAt.shaped (.tuple ps) = true) : inD h x (.tup xs) = some (ps.any fun z => PyData.eqv z p) := by
  unfold inD
  simp only [ex, ep]
  rw [if_pos ⟨s1, s2⟩]
end
end Sm
namespace Sm
open PySem PySem.Spec PyProof.Rows L2
section
variable {h h1 : MH} {ms : MS} {Q : D → MH → Prop} {g : MG} {t : MT} {m mk mv : ME} {src : MI} {vs : List Nat}
/-- a comprehension over things of one kind -/
theorem wp_lcT {α : Type} (xs : List α) (u : α → D) (T : α → Bool) (f : α → D)
    (hs : Wp (src ms h) fun a h1 => a.1 = xs.map u ∧ xs.length ≤ sizeLine ∧ (∀ h2, Gr h1 h2 → a.2 h2) ∧
      (∀ x ∈ xs, ∀ h2, Gr h1 h2 → WS (g (u x) (wipeM ms vs) h2) (fun ms1 h3 => Wp (t ms1 h3) fun c h4 => c = T x ∧ Gr h2 h4 ∧ (c = true → Wp (m ms1 h4) fun y h5 => y = f x ∧ Gr h2 h5)) (fun _ _ => False) (fun _ _ => False) fun _ _ => False) ∧
      ∀ h2, Gr h1 h2 → h2[h1.length]? = some (.lst ((xs.filter T).map f)) → Q (.ref h1.length) h2) : Wp (mLc src vs g t m ms h) Q := by
  obtain ⟨a, h1, e, ha, hl, hc, hb, q⟩ := hs.get
  refine wp_lc (fun k done rest acc h2 => k = h1.length ∧ ∃ dn rs, xs = dn ++ rs ∧ rest = rs.map u ∧ acc = (dn.filter T).map f ∧ Gr h1 h2) (.of e ⟨⟨rfl, [], xs, rfl, ha, rfl, .app _⟩, ?_, ?_⟩)
  · rintro done d rest acc h2 ⟨-, dn, rs, e1, er, e2, g12⟩ hk
    obtain ⟨x, rs', rfl, rfl, rfl⟩ : ∃ x rs', rs = x :: rs' ∧ d = u x ∧ rest = rs'.map u := by
      cases rs with
      | nil => cases er
      | cons x rs' => rw [List.map_cons] at er; cases er; exact ⟨x, rs', rfl, rfl, rfl⟩
    refine ⟨hc _ g12, (hb x (by rw [e1]; simp) h2 g12).mono (fun ms1 h3 w => w.mono fun c h4 ⟨q1, q2, q3⟩ => ?_) (fun _ _ z => z) (fun _ _ z => z) fun _ _ z => z⟩
    refine ⟨fun hc => (q3 hc).mono fun y h5 ⟨r1, r2⟩ => ?_, fun hc => ?_⟩
    · subst r1
      refine ⟨r2 _ _ hk, ?_, rfl, dn ++ [x], rs', by rw [e1]; simp, rfl, ?_, ?_⟩
      · have a1 : acc.length ≤ dn.length := by rw [e2, List.length_map]; exact List.length_filter_le _ _
        have a2 : xs.length = dn.length + (rs'.length + 1) := by rw [e1]; simp
        omega
      · rw [e2, List.filter_append, List.map_append]
        have : T x = true := by rw [← q1]; exact hc
        simp [this]
      · intro i o eo
        rw [List.getElem?_set_ne (by have := lt_of_at eo; omega)]
        exact r2 _ _ (g12 _ _ eo)
    · refine ⟨q2 _ _ hk, rfl, dn ++ [x], rs', by rw [e1]; simp, rfl, ?_, g12.trans q2⟩
      rw [e2, List.filter_append]
      have : T x = false := by rw [← q1]; exact hc
      simp [this]
  · rintro done acc h2 ⟨-, dn, rs, e1, er, e2, g12⟩ hk
    obtain rfl : rs = [] := by
      cases rs with
      | nil => rfl
      | cons x rs' => cases er
    refine ⟨hc _ g12, q _ g12 ?_⟩
    rw [hk, e2, e1, List.append_nil]
theorem Fr.sq {p : Nat} (a : Fr p h h1) {d : D} {xs : List D} (hd : d ≠ .ref p) (e : sqD h d = some xs) : sqD h1 d = some xs := by
  cases d with
  | ref k => exact a.ls (k := k) (fun z => hd (by rw [z])) e
  | tup ds => exact e
  | _ => cases e
theorem fr_set_new {p q : Nat} (a : Fr p h h1) (hq : h.length ≤ q) (o : MO) : Fr p h (h1.set q o) := ⟨by rw [List.length_set]; exact a.1, fun i hi u e => by
  rw [List.getElem?_set_ne (by have := lt_of_at e; omega)]
  exact a.2 i hi u e⟩
end
def aD : Option Bool → D
  | none => .non
  | some b => .bl b
def aP : Option Bool → PyData
  | none => .none
  | some b => .bool b
theorem in_some {h : MH} {k : Nat} {as : List (Option Bool)} (a : Option Bool) (e : lsAt h k = some (as.map aD)) : ∃ c, inD h (aD a) (.ref k) = some c := by
  have ep : mapO (pd h 64) (as.map aD) = some (as.map aP) := mapO_map fun x _ => by cases x <;> rfl
  have ex : pd h 65 (aD a) = some (aP a) := by cases a <;> rfl
  have s1 : SeqAt.shaped (aP a) = true := by cases a <;> rfl
  have s2 : SeqAt.shaped (.list (as.map aP)) = true := shaped_list (d := 0) (fun x hx => by
    obtain ⟨i, _, rfl⟩ := List.mem_map.mp hx
    cases i <;> rfl) (fun x hx => by
    obtain ⟨i, _, rfl⟩ := List.mem_map.mp hx
    cases i <;> exact Nat.le_refl _) (by decide)
  exact ⟨_, inD_ls e ex ep s1 s2⟩
end Sm
namespace Sm
open PySem PySem.Spec PyProof.Rows L2
theorem wp_intB {h : MH} {Q : D → MH → Prop} {b : Bool} (q : Q (.int (if b = true then 1 else 0)) h) : Wp (fInt [.bl b] h) Q := ⟨by cases b <;> exact q⟩
end Sm
namespace Sm
open PySem PySem.Spec PyProof.Rows L2
end Sm
namespace Sm
open PySem PySem.Spec PyProof.Rows L2
structure FactsX (fn : List He.DefD) (fre : List Str) (cis : List (Str × Int)) (css : List (Str × Str)) (cts : List (Str × List Str)) (K : PySem.W.Frag) (mg : Str → Option Value) : Prop extends Facts fn fre cis K mg where
  str : ∀ (i : Nat) {p : Str × Str}, css[i]? = some p → ∃ t, mg p.1 = some (.str p.2 t)
  tup : ∀ (i : Nat) {p : Str × List Str}, cts[i]? = some p → ∃ a, mg p.1 = some (.ref a) ∧ (∀ H, SqT K H a (p.2.map V.str)) ∧ ∀ H, ND K H a
/-- what stands at a has no dict -/
def ndB (K : PySem.W.Frag) (a : Addr) : Bool := match K.lookup a with
  | some o => o.dict.isNone
  | none => false
theorem ndB_ok {K : PySem.W.Frag} {a : Addr} (h : ndB K a = true) (H : Hp) : ND K H a := by
  unfold ndB at h
  cases e : K.lookup a with
  | none => rw [e] at h; cases h
  | some o => rw [e] at h; exact .inr ⟨o, e, Option.isNone_iff_eq_none.mp h⟩
def faX (fn : List He.DefD) (fre : List Str) (cis : List (Str × Int)) (css : List (Str × Str)) (cts : List (Str × List Str)) : List He.Fa := faOf fn fre cis ++ (css.map (fun p => He.Fa.str p.1 p.2) ++ cts.map fun p => He.Fa.glo p.1)
def exX (cts : List (Str × List Str)) (K : PySem.W.Frag) : Bool := cts.all fun p => He.tupB K p.1 (p.2.map He.Dv.str) && ndB K (He.ga K p.1)
theorem says_sub {fa fb : List He.Fa} {fn : List He.DefD} {K : PySem.W.Frag} (c : He.SaysD fa fn K) (h : ∀ f ∈ fb, f ∈ fa) : He.SaysD fb fn K := by
  have c1 : He.obsD fa fn K = He.valD fn := c
  unfold He.obsD He.valD at c1
  have e1 := congrArg Prod.fst c1
  have e2 := congrArg Prod.snd c1
  show He.obsD fb fn K = He.valD fn
  unfold He.obsD He.valD
  refine Prod.ext ?_ e2
  obtain ⟨a1, a2⟩ := Bool.and_eq_true_iff.mp e1
  refine Bool.and_eq_true_iff.mpr ⟨List.all_eq_true.mpr fun f hf => List.all_eq_true.mp a1 f (h f hf), a2⟩
theorem gokX_of {fn : List He.DefD} {fre : List Str} {cis : List (Str × Int)} {css : List (Str × Str)} {cts : List (Str × List Str)} {K : PySem.W.Frag} {mg : Str → Option Value} {h : Heap} (X : K.In h) (G : h.Ns mainGlobals mg) (c : He.SaysD (faX fn fre cis css cts) fn K) (hx : exX cts K = true) (hf : fn.all flatD = true) : FactsX fn fre cis css cts K mg where
  toFacts := gok_of X G (says_sub c fun f hf => List.mem_append_left _ hf) hf
  str := fun i p hp => He.str_ok X G (He.SaysD.facts c (f := .str p.1 p.2) (List.mem_append_right _ (List.mem_append_left _ (List.mem_map.mpr ⟨p, List.mem_of_getElem? hp, rfl⟩))))
  tup := fun i p hp => by
    have hm := List.mem_of_getElem? hp
    refine ⟨_, He.glo_ok X G (He.SaysD.facts c (f := .glo p.1) (List.mem_append_right _ (List.mem_append_right _ (List.mem_map.mpr ⟨p, hm, rfl⟩)))), fun H => ?_, fun H => ndB_ok (Bool.and_eq_true_iff.mp (List.all_eq_true.mp hx p hm)).2 H⟩
    have := He.tupB_ok (Bool.and_eq_true_iff.mp (List.all_eq_true.mp hx p hm)).1 H
    rw [List.map_map] at this
    exact this
end Sm
namespace Sm
open PySem PySem.Spec PyProof.Rows L2
end Sm
namespace Sm
open PySem PySem.Spec PyProof.Rows L2
end Sm
namespace Sm
open PySem PySem.Spec PyProof.Rows L2
/-- a while loop, by a measure -/
theorem ws_wh {t : MT} {b : MSt} {N : MS → MH → Prop} {R : D → MH → Prop} {B C : MS → MH → Prop} (I : Nat → MS → MH → Prop)
    (st : ∀ n ms h, I n ms h → Wp (t ms h) fun c h1 => (c = true → ∃ n', n' < n ∧ WS (b ms h1) (I n') R N (I n')) ∧ (c = false → N ms h1)) :
    ∀ m n ms h, n < m → I n ms h → WS (mWh t b m ms h) N R B C
  | 0, n, ms, h, hn, _ => absurd hn (Nat.not_lt_zero _)
  | m + 1, n, ms, h, hn, i => ws_toS ((st n ms h i).mono fun c h1 q => by
    cases c with
    | false => exact ⟨q.2 rfl⟩
    | true =>
      obtain ⟨n', hlt, w⟩ := q.1 rfl
      obtain ⟨w⟩ := w
      show WS (match b ms h1 with | .nx ms2 h2 => mWh t b m ms2 h2 | .ct ms2 h2 => mWh t b m ms2 h2 | .bk ms2 h2 => .nx ms2 h2 | .rt d h2 => .rt d h2 | .exc c fs ms2 h2 => .exc c fs ms2 h2 | .bad => .bad) N R B C
      cases e : b ms h1 with
      | nx ms2 h2 => rw [e] at w; exact ws_wh I st m n' ms2 h2 (by omega) w
      | ct ms2 h2 => rw [e] at w; exact ws_wh I st m n' ms2 h2 (by omega) w
      | bk ms2 h2 => rw [e] at w; exact ⟨w⟩
      | rt d h2 => rw [e] at w; exact ⟨w⟩
      | exc _ _ _ _ => rw [e] at w; exact w.elim
      | bad => rw [e] at w; exact w.elim)
theorem ws_while {t : MT} {b : MSt} {ms : MS} {h : MH} {N : MS → MH → Prop} {R : D → MH → Prop} {B C : MS → MH → Prop} (I : Nat → MS → MH → Prop) (n : Nat) (i : I n ms h)
    (st : ∀ n ms h, I n ms h → Wp (t ms h) fun c h1 => (c = true → ∃ n', n' < n ∧ WS (b ms h1) (I n') R N (I n')) ∧ (c = false → N ms h1)) : WS (mWhile t b ms h) N R B C := by
  have w : WS (mWh t b (n + 1) ms h) N R B C := ws_wh I st (n + 1) n ms h (Nat.lt_succ_self _) i
  have ne : mWh t b (n + 1) ms h ≠ .bad := fun z => by
    rw [z] at w
    exact w.1.elim
  rw [mWhile_of rfl ne]
  exact w
end Sm
namespace Sm
open PySem PySem.Spec PyProof.Rows L2
def putFD (f : Str) (v : D) : List (Str × D) → List (Str × D)
  | [] => [(f, v)]
  | (g, x) :: r => if g = f then (g, v) :: r else (g, x) :: putFD f v r
section
variable {K : PySem.W.Frag} {mg : NW} {H : Hp} {r : List Addr}
theorem RF.put {f : Str} {d : D} {v : V} (q : RV K mg H r d v) : ∀ {ds : List (Str × D)} {vs : List (Str × V)}, RF K mg H r ds vs → RF K mg H r (putFD f d ds) (putF f v vs)
  | _, _, .nil => .cons q .nil
  | _, _, .cons (f := g) h hs => by
    show RF K mg H r (if g = f then _ else _) (if g = f then _ else _)
    by_cases e : g = f
    · rw [if_pos e, if_pos e]; exact .cons q hs
    · rw [if_neg e, if_neg e]; exact .cons h (RF.put q hs)
theorem RF.look {f : Str} : ∀ {ds : List (Str × D)} {vs : List (Str × V)}, RF K mg H r ds vs → (∀ d, ds.lookup f = some d → ∃ v, vs.lookup f = some v ∧ RV K mg H r d v) ∧ (ds.lookup f = none → vs.lookup f = none)
  | _, _, .nil => ⟨fun d e => (nomatch e), fun _ => rfl⟩
  | _, _, .cons (f := g) (d := d) (v := v) (ds := ds) (vs := vs) h hs => by
    obtain ⟨h1, h2⟩ := RF.look (f := f) hs
    cases e : (f == g) with
    | true =>
      have a1 : ((g, d) :: ds).lookup f = some d := by simp only [List.lookup, e]
      have a2 : ((g, v) :: vs).lookup f = some v := by simp only [List.lookup, e]
      exact ⟨fun d' e' => ⟨v, a2, by rw [a1] at e'; cases e'; exact h⟩, fun e' => by rw [a1] at e'; cases e'⟩
    | false =>
      have a1 : ((g, d) :: ds).lookup f = ds.lookup f := by simp only [List.lookup, e]
      have a2 : ((g, v) :: vs).lookup f = vs.lookup f := by simp only [List.lookup, e]
      exact ⟨fun d' e' => by rw [a2]; exact h1 d' (by rw [← a1]; exact e'), fun e' => by rw [a2]; exact h2 (by rw [← a1]; exact e')⟩
theorem RF.len : ∀ {ds : List (Str × D)} {vs : List (Str × V)}, RF K mg H r ds vs → ds.length = vs.length
  | _, _, .nil => rfl
  | _, _, .cons _ hs => by simp [RF.len hs]
end
def ClsOk (K : PySem.W.Frag) (mg : Str → Option Value) (c f : Str) : Prop := ∃ C, mg c = some (.ref C) ∧ Cls K C ∧ NoAttr K C f
def mFld (cs : List Str) (f : Str) (m : ME) : ME := fun ms h => (m ms h).bind fun d h1 => match d with
  | .ref n => match h1[n]? with
    | some (.ins c fs) => if c ∈ cs then match fs.lookup f with
      | some v => .ok v h1
      | none => .bad
      else .bad
    | _ => .bad
  | _ => .bad
def mSetF (cs : List Str) (f : Str) (mo mv : ME) : MSt := fun ms h => (mv ms h).toS ms fun d h1 => (mo ms h1).toS ms fun o h2 => match o with
  | .ref n => match h2[n]? with
    | some (.ins c fs) => if c ∈ cs ∧ fs.length < 1000 then .nx ms (h2.set n (.ins c (putFD f d fs))) else .bad
    | _ => .bad
  | _ => .bad
/-- the method m of the class c has the mirror f -/
def MethS (P : Program) (w : World) (K : PySem.W.Frag) (mg : Str → Option Value) (base : Heap) (k : Nat) (c m : Str) (ps : List Str) (f : MF) : Prop :=
  ∃ (C fa : Addr) (fd : FuncData), mg c = some (.ref C) ∧ Cls K C ∧ Meth K C m fa ∧ (∀ (s : Shared) (us : List Value), us.length = ps.length → BindsTo s fd ⟨us, []⟩ (ps.zip us)) ∧ FnOk P w K mg base (L2.CX P w) k fa fd ps (spM K ⟨mg, w⟩ ps.length f)
/-- the class c is made by an __init__ of the mirror f -/
def MakeS (P : Program) (w : World) (K : PySem.W.Frag) (mg : Str → Option Value) (base : Heap) (k : Nat) (c : Str) (ps : List Str) (f : MF) : Prop :=
  ∃ (C fa : Addr) (fd : FuncData), mg c = some (.ref C) ∧ Mk K C fa ∧ (∀ (s : Shared) (us : List Value), us.length = ps.length → BindsTo s fd ⟨us, []⟩ (ps.zip us)) ∧ FnOk P w K mg base (L2.CX P w) k fa fd ps (spM K ⟨mg, w⟩ ps.length f)
theorem MethS.mono {P : Program} {w : World} {K : PySem.W.Frag} {mg : Str → Option Value} {base : Heap} {j k : Nat} {c m : Str} {ps : List Str} {f : MF} (F : MethS P w K mg base j c m ps f) (h : j ≤ k) : MethS P w K mg base k c m ps f := by
  obtain ⟨C, fa, fd, h1, h2, h3, h4, h5⟩ := F
  exact ⟨C, fa, fd, h1, h2, h3, h4, h5.mono h⟩
theorem MakeS.mono {P : Program} {w : World} {K : PySem.W.Frag} {mg : Str → Option Value} {base : Heap} {j k : Nat} {c : Str} {ps : List Str} {f : MF} (F : MakeS P w K mg base j c ps f) (h : j ≤ k) : MakeS P w K mg base k c ps f := by
  obtain ⟨C, fa, fd, h1, h2, h3, h4⟩ := F
  exact ⟨C, fa, fd, h1, h2, h3, h4.mono h⟩
def mMethC (c m : Str) (f : MF) (o : ME) (n : MA) : ME := fun ms h => (o ms h).bind fun d h1 => match d with
  | .ref k => match h1[k]? with
    | some (.ins c' fs) => if c' = c ∧ fs.lookup m = none then (n ms h1).bind fun ds h2 => f (.ref k :: ds) h2 else .bad
    | _ => .bad
  | _ => .bad
end Sm
namespace Sm
open PySem PySem.Spec PyProof.Rows L2
/-- what the head tells of the classes: their names, the fields that are no attributes of theirs, their methods -/
structure FactsY (fn : List He.DefD) (fre : List Str) (cis : List (Str × Int)) (css : List (Str × Str)) (cts : List (Str × List Str)) (noats : List (Str × Str)) (mds : List He.DefD) (K : PySem.W.Frag) (mg : Str → Option Value) : Prop extends FactsX fn fre cis css cts K mg where
  noat : ∀ (i : Nat) {p : Str × Str}, noats[i]? = some p → ClsOk K mg p.1 p.2
  meth : ∀ (i : Nat) {d : He.DefD}, mds[i]? = some d → (d.name == ("__init__" : Str)) = false → ∃ C fa fd, mg d.at_.1 = some (.ref C) ∧ Cls K C ∧ Meth K C d.name fa ∧ FunD K d.name d.qual d.params d.body d.scope [] [] fa fd
  init : ∀ (i : Nat) {d : He.DefD}, mds[i]? = some d → d.name = ("__init__" : Str) → ∃ C fa fd, mg d.at_.1 = some (.ref C) ∧ Mk K C fa ∧ FunD K d.name d.qual d.params d.body d.scope [] [] fa fd
def faY (fn : List He.DefD) (fre : List Str) (cis : List (Str × Int)) (css : List (Str × Str)) (cts : List (Str × List Str)) (noats : List (Str × Str)) (mds : List He.DefD) : List He.Fa :=
  faX fn fre cis css cts ++ (noats.flatMap (fun p => [He.Fa.glo p.1, He.Fa.cls p.1, He.Fa.noat p.1 p.2]) ++ mds.flatMap fun d => if (d.name == ("__init__" : Str)) = true then [He.Fa.glo d.at_.1, He.Fa.mkr d.at_.1] else [He.Fa.glo d.at_.1, He.Fa.cls d.at_.1, He.Fa.meth d.at_.1 d.name])
def flatM (d : He.DefD) : Bool := decide (d.at_.2 = some d.name) && (d.dfl.isEmpty && d.kwd.isEmpty)
theorem gokY_of {fn : List He.DefD} {fre : List Str} {cis : List (Str × Int)} {css : List (Str × Str)} {cts : List (Str × List Str)} {noats : List (Str × Str)} {mds : List He.DefD} {K : PySem.W.Frag} {mg : Str → Option Value} {h : Heap} (X : K.In h) (G : h.Ns mainGlobals mg)
    (c : He.SaysD (faY fn fre cis css cts noats mds) (fn ++ mds) K) (hx : exX cts K = true) (hf : fn.all flatD = true) (hm : mds.all flatM = true) : FactsY fn fre cis css cts noats mds K mg := by
  have c1 : He.SaysD (faX fn fre cis css cts) fn K := by
    have c0 : He.obsD (faY fn fre cis css cts noats mds) (fn ++ mds) K = He.valD (fn ++ mds) := c
    unfold He.obsD He.valD at c0
    have e1 := congrArg Prod.fst c0
    have e2 := congrArg Prod.snd c0
    show He.obsD _ fn K = He.valD fn
    unfold He.obsD He.valD
    obtain ⟨a1, a2⟩ := Bool.and_eq_true_iff.mp e1
    refine Prod.ext (Bool.and_eq_true_iff.mpr ⟨List.all_eq_true.mpr fun f hf => List.all_eq_true.mp a1 f (List.mem_append_left _ hf), List.all_eq_true.mpr fun d hd => List.all_eq_true.mp a2 d (List.mem_append_left _ hd)⟩) ?_
    have e3 : (fn ++ mds).map (fun d => He.fnW K d.at_) = (fn ++ mds).map He.DefD.val := e2
    rw [List.map_append, List.map_append] at e3
    exact (List.append_inj e3 (by simp)).1
  have fact : ∀ f : He.Fa, f ∈ faY fn fre cis css cts noats mds → f.ok K = true := fun f hm => He.SaysD.facts c hm
  have mdf : ∀ d ∈ mds, d.at_.2 = some d.name ∧ ∃ fd, FunD K d.name d.qual d.params d.body d.scope [] [] (He.ma K (He.ga K d.at_.1) d.name) fd := fun d hd => by
    have hfl := List.all_eq_true.mp hm d hd
    unfold flatM at hfl
    simp only [Bool.and_eq_true, decide_eq_true_eq, List.isEmpty_iff] at hfl
    obtain ⟨e1, e2, e3⟩ := hfl
    obtain ⟨fd, F⟩ := He.SaysD.defs c (List.mem_append_right _ hd)
    unfold He.DefD.dvs He.DefD.kws He.fAd at F
    rw [e1, e2, e3] at F
    exact ⟨e1, fd, F⟩
  refine { toFactsX := gokX_of X G c1 hx hf, noat := fun i p hp => ?_, meth := fun i d hd hne => ?_, init := fun i d hd he => ?_ }
  · have hmem := List.mem_of_getElem? hp
    have inn : ∀ f, f ∈ [He.Fa.glo p.1, He.Fa.cls p.1, He.Fa.noat p.1 p.2] → f.ok K = true := fun f hf => fact f (List.mem_append_right _ (List.mem_append_left _ (List.mem_flatMap.mpr ⟨p, hmem, hf⟩)))
    exact ⟨_, He.glo_ok X G (inn _ (by simp)), He.cls_ok (inn (.cls p.1) (by simp)), He.noat_ok (inn (.noat p.1 p.2) (by simp))⟩
  · have hmem := List.mem_of_getElem? hd
    obtain ⟨e1, fd, F⟩ := mdf d hmem
    have inn : ∀ f, f ∈ [He.Fa.glo d.at_.1, He.Fa.cls d.at_.1, He.Fa.meth d.at_.1 d.name] → f.ok K = true := fun f hf => fact f (List.mem_append_right _ (List.mem_append_right _ (List.mem_flatMap.mpr ⟨d, hmem, by rw [if_neg (by rw [hne]; decide)]; exact hf⟩)))
    exact ⟨_, _, fd, He.glo_ok X G (inn _ (by simp)), He.cls_ok (inn (.cls d.at_.1) (by simp)), He.meth_ok (inn (.meth d.at_.1 d.name) (by simp)), F⟩
  · have hmem := List.mem_of_getElem? hd
    obtain ⟨e1, fd, F⟩ := mdf d hmem
    have inn : ∀ f, f ∈ [He.Fa.glo d.at_.1, He.Fa.mkr d.at_.1] → f.ok K = true := fun f hf => fact f (List.mem_append_right _ (List.mem_append_right _ (List.mem_flatMap.mpr ⟨d, hmem, by rw [if_pos (by rw [he]; decide +kernel)]; exact hf⟩)))
    exact ⟨_, _, fd, He.glo_ok X G (inn _ (by simp)), by have := He.mkr_ok (inn (.mkr d.at_.1) (by simp)); rw [← he] at this; exact this, F⟩
end Sm
namespace Sm
open PySem PySem.Spec PyProof.Rows L2 HT
section
variable {prog : Program} {w : World} {A : Around} {E : Value → Shared → Prop} {s : Shared}
theorem adjust_rev (n : Nat) : Builtin.Slice.sliceAdjust none none (-1) (n : Int) = ((n : Int) - 1, -1) := rfl
theorem places_rev (n : Nat) : Builtin.Slice.slicePlaces ((n : Int) - 1) (-1) (-1) = n := by
  unfold Builtin.Slice.slicePlaces
  have h1 : ¬ ((-1 : Int) > 0) := by omega
  simp only [h1, if_false]
  rw [show (- -1 : Int) = 1 by decide, Int.ediv_one]
  split <;> omega
theorem sliceApplied_rev {sl : Addr} {vs : Value} {n : Nat} {Q : Int × Int × Nat → Shared → Prop} (hs : s.heap.IsSliceOf sl .none .none vs) (ps : IsPart vs (some (-1)))
    (h : Q ((n : Int) - 1, -1, n) s) : wpAny (model prog w) A (Builtin.Slice.sliceApplied (.ref sl) (pure (n : Int))) Q E s := by
  obtain ⟨os, hos, hcs, hds⟩ := id hs
  unfold Builtin.Slice.sliceApplied Builtin.Slice.sliceFields
  refine wpAny_bind (wpAny_bind (wpAny_field hos hds (x := .none) rfl (wpAny_bind (wpAny_field hos hds (x := .none) rfl (wpAny_bind (wpAny_field hos hds (x := vs) rfl (wpAny_pure ?_)))))))
  refine wpAny_bind (slicePart_ ps ?_)
  show wpAny _ _ (if ((-1 : Int) == 0) = true then _ else _) _ _ s
  rw [if_neg (by decide)]
  refine wpAny_bind (slicePart_none (wpAny_bind (slicePart_none (wpAny_bind (wpAny_pure ?_)))))
  show wpAny _ _ (match Builtin.Slice.sliceAdjust none none (-1) (n : Int) with | (lo, hi) => pure (lo, (-1 : Int), Builtin.Slice.slicePlaces lo hi (-1))) _ _ s
  rw [adjust_rev n]
  show wpAny _ _ (pure ((n : Int) - 1, (-1 : Int), Builtin.Slice.slicePlaces ((n : Int) - 1) (-1) (-1))) _ _ s
  rw [places_rev]
  exact wpAny_pure h
theorem pick_rev (xs : Array Value) : ((List.range xs.size).filterMap fun (m : Nat) => xs[(((xs.size : Int) - 1) + (m : Int) * (-1)).toNat]?).toArray = xs.toList.reverse.toArray := by
  have e : ((List.range xs.size).filterMap fun (m : Nat) => xs[(((xs.size : Int) - 1) + (m : Int) * (-1)).toNat]?) = ((List.range xs.size).map fun k => xs.size - 1 - k).filterMap (xs[·]?) := by
    have e2 : (List.range xs.size).map (fun (m : Nat) => (((xs.size : Int) - 1) + (m : Int) * (-1)).toNat) = (List.range xs.size).map fun k => xs.size - 1 - k := by
      refine List.map_congr_left fun m hm => ?_
      have := List.mem_range.mp hm
      omega
    rw [← e2, List.filterMap_map]
    rfl
  rw [e, PySem.W.krv_range, List.filterMap_reverse, PySem.W.krv_all]
theorem getItem_tuple_rev {t sl : Addr} {items : Array Value} {vs : Value} {Q : Value → Shared → Prop} (ht : IsTup s.heap t items) (hs : s.heap.IsSliceOf sl .none .none vs) (ps : IsPart vs (some (-1)))
    (h : Q (.ref s.heap.objs.size) { s with heap := s.heap.push { cls := .type "tuple", data := .seq items.toList.reverse.toArray } })
    (hsz : items.size ≤ sizeLine) : wpAny (model prog w) A (getItem (.ref t) (.ref sl)) Q E s := by
  have htake : sizeOk (.seq items.toList.reverse.toArray) := by
    show items.toList.reverse.toArray.size ≤ sizeLine
    rw [List.size_toArray, List.length_reverse, Array.length_toList]
    exact hsz
  obtain ⟨os, hos, hcs, hds⟩ := id hs
  have hTs : s.TypeIs (.ref sl) "slice" := ⟨os, hos, hcs⟩
  unfold getItem
  try with_reducible refine wpAny_holding ?_
  first | refine wpAny_bind (wpAny_pure ?_) | skip
  refine wpAny_bind (wpAny_sequenceKey ht.typeIs (by decide) ?_)
  refine wpAny_bind (wpAny_callSpecial?_slot (name := Str.ofString "__getitem__") ht.typeIs PyProof.Rows.slot_tuple_getitem
    (wpAny_call_entry PyProof.Rows.slot_tuple_getitem ht.typeIs entry_tuple_getitem ?_ (args_tuple_getitem _ _)))
  show wpAny _ _ (Builtin.Tuple.tupleItemsOf (.ref t) >>= _) _ _ s
  refine wpAny_bind (tupleItemsOf_ ht ?_)
  refine wpAny_bind (wpAny_typeOf hTs ?_)
  rw [if_pos (by decide)]
  refine wpAny_bind (sliceApplied_rev hs ps ?_)
  have hno : ¬ ((((items.size : Int) - 1) == 0 && (-1 : Int) == 1 && items.size == items.size) = true) := by
    intro q
    rw [Bool.and_eq_true, Bool.and_eq_true] at q
    exact absurd (eq_of_beq q.1.2) (by decide)
  show wpAny _ _ (if (((items.size : Int) - 1) == 0 && (-1 : Int) == 1 && items.size == items.size) = true then _ else _) _ _ s
  rw [if_neg hno, pick_rev]
  first
    | exact wpAny_bind (m := Builtin.Tuple.tupleExact _) (wpAny_newObj_type (wpAny_pure ⟨_, rfl, wpAny_pure h⟩) htake)
    | exact wpAny_bind (m := Builtin.Tuple.tupleExact _) (wpAny_newObj_type (wpAny_bind (wpAny_pure (wpAny_pure ⟨_, rfl, wpAny_pure h⟩))) htake)
    | exact wpAny_bind (wpAny_bind (m := Builtin.Tuple.tupleExact _) (wpAny_newObj_type (wpAny_pure (wpAny_pure ⟨_, rfl, wpAny_pure h⟩)) htake))
    | exact wpAny_bind (wpAny_bind (m := Builtin.Tuple.tupleExact _) (wpAny_newObj_type (wpAny_pure ⟨_, rfl, wpAny_pure h⟩) htake))
end
section
variable {X : Cx}
def tRevA (K : PySem.W.Frag) (te : TE) : TE := fun σ H Q => te σ H fun x H1 => ∃ a xs, x = .ref a ∧ ((SqL K H1 a xs ∧ ∀ p, H1 p = none → Q (.ref p) (upd H1 p (.lst xs.reverse))) ∨ (SqT K H1 a xs ∧ NewT H1 xs.reverse Q))
theorem pe_revA {e : Expr} {te : TE} {k : Nat} {p1 p2 p3 pos : Pos} (he : PE X e te) : PE X (.Subscript e (.Slice none none (some (.UnaryOp .USub (.Constant (.int 1) k p1) p2)) p3) pos) (tRevA X.K te) := by
  refine ⟨fun pins s σ H Q I h => ?_⟩
  refine Subscript_ (thn (he.run pins s σ H _ I h) fun v s1 ⟨x, H1, I1, r1, q1⟩ => ?_)
  obtain ⟨a, xs, ex, q⟩ := q1
  subst ex
  cases r1
  have hst : PO X (some (.UnaryOp .USub (.Constant (.int 1) k p1) p2)) (tPart (tUn (rU fun i => .int (-i)) (tC (.int 1)))) := po_some (pe_un un_neg pe_int)
  refine wpAny_Slice (thn (po_none.run pins s1 σ H1 (fun o H2 => o = none ∧ H2 = H1) I1 ⟨rfl, rfl⟩) fun vl s2 ⟨l, H2, I2, pl, el, e2⟩ => ?_)
  subst el e2
  refine thn (po_none.run pins s2 σ H2 (fun o H3 => o = none ∧ H3 = H2) I2 ⟨rfl, rfl⟩) fun vu s3 ⟨u, H3, I3, pu, eu, e3⟩ => ?_
  subst eu e3
  refine thn (hst.run pins s3 σ H3 (fun o H4 => o = some (-1) ∧ H4 = H3) I3 ⟨1, rfl, -1, rfl, rfl, rfl⟩) fun vs s4 ⟨o, H4, I4, ps, eo, e4⟩ => ?_
  subst eo e4
  have I5 : Inv X pins σ H4 { s4 with heap := s4.heap.push { cls := .type "slice", data := .fields #[vl, vu, vs] } } := I4.kept (t' := s4.toks) fun b ob q => Heap.get?_push_of_some _ q
  show wpAny (model X.prog X.w) X.A (subscriptTail e (.Slice none none (some (.UnaryOp .USub (.Constant (.int 1) k p1) p2)) p3) (.ref a) (.ref s4.heap.objs.size)) (EP X pins σ Q) X.xe { s4 with heap := s4.heap.push { cls := .type "slice", data := .fields #[vl, vu, vs] } }
  rcases q with ⟨hx, q⟩ | ⟨hx, q⟩
  · obtain ⟨its, r, ht, hz⟩ := I5.list hx
    have hlen := r.length
    refine tail_any (ops := [.ref a, .ref s4.heap.objs.size]) ht.isList.typeIs (PySem.slot_list_getitem.lookup) ?_ (by with_unfolding_all rfl)
    refine wpAny_getItem_list_slice ht.isList (Heap.IsSliceOf.new _ vl vu vs) pl pu ps (by decide) ?_ (by rw [List.size_toArray]; omega)
    rw [PySem.W.krv_pick]
    refine ⟨.ref _, _, I5.laid (t' := s4.toks) (o := .lst xs.reverse) (fun b ob q => Heap.get?_push_of_some _ q) (Nat.le_refl _) ?_, rfl, q _ (I5.hok.fresh (Nat.le_refl _))⟩
    exact ⟨by rw [List.length_reverse]; exact hz, _, 0, r.reverse, Heap.get?_push_size _ rfl⟩
  · obtain ⟨its, r, ht, hz⟩ := I5.tuple hx
    have hlen := r.length
    cases pl
    cases pu
    refine tail_any (ops := [.ref a, .ref s4.heap.objs.size]) ht.typeIs (PyProof.Rows.slot_tuple_getitem.lookup) ?_ (by with_unfolding_all rfl)
    refine getItem_tuple_rev ht (Heap.IsSliceOf.new _ .none .none vs) ps ?_ (by rw [List.size_toArray]; omega)
    exact newT (n := 0) (t' := s4.toks) I5 (fun b ob q => Heap.get?_push_of_some _ q) (Nat.le_refl _) r.reverse (by rw [List.length_reverse]; exact hz) (Heap.get?_push_size _ rfl) q
end
section
variable {X : Cx} {W : WX} {m : ME} {e : Expr} {pos : Pos}
/-- xs[::-1] of a list or a tuple -/
def gRevA : MO1 := fun d h => match d with
  | .ref n => match lsAt h n with
    | some ds => .ok (.ref h.length) (h ++ [.lst ds.reverse])
    | none => .bad
  | .tup ds => .ok (.tup ds.reverse) h
  | _ => .bad
theorem s_revA {k : Nat} {p1 p2 p3 : Pos} (he : SE X W e m) : SE X W (.Subscript e (.Slice none none (some (.UnaryOp .USub (.Constant (.int 1) k p1) p2)) p3) pos) (m1 gRevA m) := by
  refine peImp (pe_revA he) fun σ H Q ⟨r, ms, mh, rs, rh, p⟩ => ?_
  refine ⟨r, ms, mh, rs, rh, p.bind fun d h1 r1 H1 x st1 rh1 rv1 p1 => ?_⟩
  unfold gRevA at p1
  cases rv1 with
  | @tup ds a vs z1 _ z2 => exact ⟨a, vs, rfl, .inr ⟨z1, fun q o hq ho => p1 r1 _ _ (stp_new hq) (rh1.other hq) (rv_newT hq ho z2.rev)⟩⟩
  | @ref n a e1 =>
    simp only [] at p1
    split at p1
    · rename_i ds el
      obtain ⟨vs, z1, z2⟩ := rh1.lsAt e1 el
      refine ⟨a, vs, rfl, .inl ⟨z1, fun q hq => ?_⟩⟩
      obtain ⟨y1, y2, y3⟩ := lst_new rh1 hq z2.rev
      exact p1 _ _ _ y1 y2 y3
    · exact p1.elim
  | _ => exact p1.elim
end
section
variable {h : MH} {Q : D → MH → Prop}
theorem wp_revL {k : Nat} {xs : List D} (e : lsAt h k = some xs) (q : Q (.ref h.length) (h ++ [.lst xs.reverse])) : Wp (gRevA (.ref k) h) Q := by
  unfold gRevA
  simp only [e]
  exact ⟨q⟩
end
end Sm
namespace Sm
open PySem PySem.Spec PyProof.Rows L2 HT
end Sm
namespace Sm
open PySem PySem.Spec PyProof.Rows L2
mutual
inductive NK (K : PySem.W.Frag) (H : Hp) : NestedKey → V → Prop
  | non : NK K H .none .non
  | bl (b : Bool) : NK K H (.num (if b = true then 1 else 0)) (.bl b)
  | int (i : Int) : NK K H (.num i) (.int i)
  | str (x : Str) : NK K H (.text x) (.str x)
  | tup {a : Addr} {vs : List V} {ks : List NestedKey} : SqT K H a vs → NKs K H ks vs → NK K H (.tup ks) (.ref a)
inductive NKs (K : PySem.W.Frag) (H : Hp) : List NestedKey → List V → Prop
  | nil : NKs K H [] []
  | cons {k : NestedKey} {v : V} {ks : List NestedKey} {vs : List V} : NK K H k v → NKs K H ks vs → NKs K H (k :: ks) (v :: vs)
end
section
variable {X : Cx} {pins : List (Addr × Obj)} {σ : L2.St} {H : Hp} {s : Shared}
mutual
theorem NK.is (I : Inv X pins σ H s) : ∀ {k : NestedKey} {v : V} {u : Value}, NK X.K H k v → RelV v u → NestedIs s.heap k u
  | _, _, _, .non, r => by cases r; exact .none
  | _, _, _, .bl b, r => by cases r; exact .bool rfl
  | _, _, _, .int i, r => by obtain ⟨t, rfl⟩ := r; exact .int i t
  | _, _, _, .str x, r => by obtain ⟨t, rfl⟩ := r; exact .text x t
  | _, _, _, .tup h hs, r => by
    cases r
    obtain ⟨its, rv, ⟨o, ho, hc, n, hd⟩, _⟩ := I.tuple h
    exact .tup ho hc hd (NKs.is I hs rv)
theorem NKs.is (I : Inv X pins σ H s) : ∀ {ks : List NestedKey} {vs : List V} {us : List Value}, NKs X.K H ks vs → Vals vs us → NestedAll s.heap ks us
  | _, _, _, .nil, r => by cases r; exact .nil
  | _, _, _, .cons h hs, r => by cases r with | cons r rs => exact .cons (NK.is I h r) (NKs.is I hs rs)
end
abbrev NE := NestedKey × Addr × V
/-- at a stands a dict of es -/
def DN (K : PySem.W.Frag) (w : World) (H : Hp) (a : Addr) (es : List NE) : Prop := H a = some (.ext (DixAt w a es)) ∧ ∀ e ∈ es, NK K H e.1 (.ref e.2.1) ∧ e.1.depth ≤ 8
abbrev RelN (p : NE) (q : NestedKey × Addr × Value) : Prop := p.1 = q.1 ∧ p.2.1 = q.2.1 ∧ RelV p.2.2 q.2.2
theorem paired_mem {α β : Type} {R : α → β → Prop} : ∀ {as : List α} {bs : List β}, Paired R as bs → ∀ b ∈ bs, ∃ a ∈ as, R a b
  | _, _, .nil, b, h => nomatch h
  | _, _, .cons x xs, b, h => by
    rcases List.mem_cons.mp h with rfl | h
    · exact ⟨_, List.mem_cons_self .., x⟩
    · obtain ⟨a, m, q⟩ := paired_mem xs b h
      exact ⟨a, List.mem_cons_of_mem _ m, q⟩
theorem DN.of {a : Addr} {es : List NE} (I : Inv X pins σ H s) (h : DN X.K X.w H a es) : ∃ xs, Paired RelN es xs ∧ s.heap.DictOfH (nestedKind X.prog X.w) a xs ∧ (a == sysModules) = false ∧ es.length ≤ sizeLine := by
  obtain ⟨ha, hk⟩ := h
  obtain ⟨⟨hs, hl, xs, pr, o, ents, ep, ho, hx, hd, he, hn⟩, _, _⟩ := (show ObjOk X.prog X.w H s.heap a (.ext _) from I.hok a _ ha)
  refine ⟨xs, pr, ⟨o, ents, ep, ho, hx, hd, he, fun x hx => ?_, hn⟩, hs, hl⟩
  obtain ⟨e, m, e1, e2, -⟩ := paired_mem pr x hx
  obtain ⟨k1, k2⟩ := hk e m
  rw [← e1, ← e2]
  exact ⟨k1.is I rfl, k2⟩
end
end Sm
namespace Sm
open PySem PySem.Spec PyProof.Rows L2
section
variable {X : Cx} {W : WX} {e o value : Expr} {es : List Expr} {m mo mv : ME} {n : MA} {p pos tpos : Pos} {st : Stmt} {cs : List Str} {f : Str}
/-- (*e, ..) -/
def aStar (m : ME) (n : MA) : MA := fun ms h => (m ms h).bind fun d h1 => match sqD h1 d with
  | some xs => (n ms h1).bind fun ds h2 => .ok (xs ++ ds) h2
  | none => .bad
/-- a, b, .. = a tuple or a list of that length -/
def gTupA (n : Nat) (gs : MGs) : MG := fun d ms h => match d with
  | .tup ds => if ds.length = n then gs ds ms h else .bad
  | .ref k => match lsAt h k with
    | some ds => if ds.length = n then gs ds ms h else .bad
    | none => .bad
  | _ => .bad
theorem ND.plain {pins : List (Addr × Obj)} {σ : L2.St} {H : Hp} {s : Shared} {a : Addr} {xs : List V} (I : Inv X pins σ H s) (hq : SqT X.K H a xs) (nd : ND X.K H a) : ∃ us : List Value, Vals xs us ∧ PlainSeq "tuple" s.heap a us.toArray ∧ xs.length ≤ sizeLine := by
  obtain ⟨us, r, ⟨o, ho, hc, n, hd⟩, hz⟩ := I.tuple hq
  have hn : o.dict = none := by
    rcases nd with ⟨o', vs, e, z⟩ | ⟨o', e, z⟩
    · obtain ⟨e1, -⟩ := (show ObjOk X.prog X.w H s.heap a (.frz o' (.tup vs)) from I.hok a _ e)
      rw [ho] at e1
      cases e1
      exact z
    · have e1 := I.kIn a o' e
      rw [ho] at e1
      cases e1
      exact z
  exact ⟨us, r, ⟨o, n, ho, hc, hn, hd⟩, hz⟩
end
end Sm
namespace Sm
end Sm
namespace Sm
end Sm
namespace Sm
open PySem PySem.Spec PyProof.Rows L2
end Sm
namespace Sm
open PySem
/-- the statements of a class -/
def clsBodyS : Stmt → List Stmt
  | .ClassDef (body := b) .. => b
  | _ => []
end Sm
namespace Sm
open PySem PySem.Spec PyProof.Rows L2
/-- what an object names, as far as the facts of a law ask -/
def refsK (o : Obj) : List Addr := match o.data with
  | .seq its _ => its.toList.flatMap He.refV
  | .dict es _ => es.toList.flatMap fun e => He.refV e.val
  | .func fd => He.refV fd.code ++ (He.refV fd.defaults ++ (He.refV fd.kwdefaults ++ fd.closure.map (·.2)))
  | .cls cd => [cd.ns]
  | .cell (some v) => He.refV v
  | _ => []
def nextK (g : Addr → Option Obj) (as : List Addr) : List Addr := as.flatMap fun a => match g a with
  | some o => refsK o
  | none => []
def lvlK (g : Addr → Option Obj) : Nat → List Addr → List Addr
  | 0, as => as
  | n + 1, as => as ++ lvlK g n (nextK g as)
theorem map_pair {α β γ : Type} {o : Option α} {f : α → β} {g : α → γ} {a : β} {b : γ} (h1 : o.map f = some a) (h2 : o.map g = some b) : o.map (fun s => (f s, g s)) = some (a, b) := by
  cases o with
  | none => cases h1
  | some s =>
    cases h1
    cases h2
    rfl
theorem map_both {α : Type} {o : Option α} {f g : α → Bool} (h1 : o.map f = some true) (h2 : o.map g = some true) : o.map (fun s => f s && g s) = some true := by
  cases o with
  | none => cases h1
  | some s =>
    have h1 := Option.some.inj h1
    have h2 := Option.some.inj h2
    show some (f s && g s) = some true
    rw [h1, h2]; rfl
theorem map_l {α β γ : Type} {o : Option α} {f : α → β} {g : α → γ} {a : β} {b : γ} (h : o.map (fun s => (f s, g s)) = some (a, b)) : o.map f = some a := by
  cases o with
  | none => cases h
  | some s => exact congrArg some (congrArg Prod.fst (Option.some.inj h))
theorem map_r {α β γ : Type} {o : Option α} {f : α → β} {g : α → γ} {a : β} {b : γ} (h : o.map (fun s => (f s, g s)) = some (a, b)) : o.map g = some b := by
  cases o with
  | none => cases h
  | some s => exact congrArg some (congrArg Prod.snd (Option.some.inj h))
end Sm
namespace PySem
namespace SX
section
open PySem.W
variable {prog : Program} {w : World} {A : Around} {E : Value → Shared → Prop} {h : Heap} {g : Array GenState} {d : Drawn} {t : Nat} {os : OsState}
variable {nm q : Str} {C N : Addr} {bs bm : List Value} {hdct : Bool} {sn : List Str} {sub : List Value} {ab : Bool} {col : Option Bool} {dd : Option Addr} {k0 k1 k2 k3 k5 : Option Value}
/-- the bound ValueError.__init__ is called -/
theorem call_mw {u e t0 : Addr} {rest : List Value} {Q : Value → Shared → Prop}
    (hC : h.get? C = some (excClassObj nm q C N bs bm hdct sn sub ab col dd k0 k1 k2 k3 k5 "ValueError.__new__")) (he : h.get? e = some (HandSPX.excO C t0)) (hu : h.get? u = some (kxs_mw "ValueError.__init__" e)) (hrest : rest.length ≤ sizeLine)
    (hq : ∀ h' t1, (∀ b o, b ≠ e → h.get? b = some o → h'.get? b = some o) → h'.get? e = some (HandSPX.excO C t1) → Q .none ⟨h', g, d, t, os⟩) :
    wpAny (model prog w) A (call (.ref u) rest) Q E ⟨h, g, d, t, os⟩ := by
  refine wpAny_call (codeAny_of_tree ?_)
  show wpAny _ A.in1 (callAny (.ref u) ⟨rest, []⟩) _ _ _
  simp only [callAny]
  refine wpAny_bind (wpAny_load hu ?_)
  simp only [kxs_mw, show (Value.type "method-wrapper" == Value.type "method" || Value.type "method-wrapper" == Value.type "builtin_function_or_method" || Value.type "method-wrapper" == Value.type "method-wrapper") = true by decide, if_true]
  refine W.KFB.if_so (by decide) ?_
  refine wpAny_bind (ESX.check_bound F.excBase_ValueError hC he rfl ?_)
  refine wpAny_bind (wpAny_pure (wpAny_pure ?_))
  refine ⟨Code.quiet_builtin _ (by decide +kernel), codeAny_builtin F.excBase_ValueError.initEntry ?_⟩
  rw [Around.under_plainId F.excBase_ValueError.init.plain _]
  wp_walk
  refine hq _ h.objs.size (fun b o hb ho => ?_) ?_
  · rw [Heap.get?_update_other _ _ (Ne.symm hb)]
    exact Heap.get?_push_of_some _ ho
  · rw [Heap.get?_update_self _ (Heap.get?_push_of_some _ he) rfl]
    rfl
end
end SX
end PySem
namespace L2
open PySem PySem.Spec PyProof.Rows PySem.W
/-- what the written part says of an __init__ that says super(): the function at f, its code at c, its cell at cc, the class at C -/
structure SupI (K : PySem.W.Frag) (P : Program) (C cc c f : Addr) (fd : FuncData) (slf : Str) : Prop where
  fn : ∃ oc od osl, K.lookup f = some ⟨oc, od, .func fd, osl⟩
  head : ∃ ar : Arg, (fd.params.posonlyargs ++ fd.params.args).head? = some ar ∧ ar.arg = slf
  code : ∃ ccl cdd vs ccs file tf, K.lookup c = some ⟨ccl, cdd, .fields vs, ccs⟩ ∧ vs[2]? = some (.str file tf) ∧ ((P.main.file : Str) == file) = true
  cell : ∃ cl cld csl, K.lookup cc = some ⟨cl, cld, .cell (some (.ref C)), csl⟩
  top : (P.main.scope.names.lookup ("super" : Str)).isSome = false
  any : PySem.W.nsIn K cStatics "thirdparty.any" = some none
  init : PySem.W.ks_superIn K C C "__init__" = some (some (.builtin "ValueError.__init__"))
  self : PySem.W.mroIn K C (.ref C) = some true
  val : PySem.W.subIn K (.ref C) (.type "ValueError") = some true
theorem boot_super : bootBuiltins "super" = some (.type "super") := by kernel_rfl
section
variable {X : Cx} {pins : List (Addr × Obj)} {σ : St} {H : Hp} {s : Shared} {C cc c f L a : Addr} {fd : FuncData} {slf qual : Str} {scope : Scope} {body : List Stmt} {e : Expr} {es : List Expr} {ta : TA} {p0 p1 p2 p3 p4 : Pos} {Qn : Hp → Prop}
/-- an object made on the way is let be -/
theorem Inv.pinMore (I : Inv X pins σ H s) {u : Addr} {o : Obj} (e : s.heap.get? u = some o) (hn : H u = none) (hL : u ≠ X.env.locals) (hf : u ∉ X.fs) (hc : ∀ v, o.data ≠ .cell v) : Inv X ((u, o) :: pins) σ H s :=
  I.pins_of fun p hp => by
    rcases List.mem_cons.mp hp with rfl | hp
    · exact ⟨e, hn, hL, hf, hc⟩
    · exact I.pin p (List.mem_append_right _ hp)
theorem at_super {pl : Sem Bool} (T : OexC X.K C) (S : SupI X.K X.prog C cc c f fd slf) (henv : X.env = PySem.W.envX qual scope L f (.ref c) [("__class__", cc)])
    (hks : scope.names.lookup ("super" : Str) = some .globalImplicit) (hkc : scope.names.lookup ("__class__" : Str) = some .free) (hka : scope.names.lookup slf = some .local) (hk : scope.kind = .function) (hmg : X.mg "super" = none)
    (h0 : X.N[0]? = some slf) (hσ : σ[0]? = some (some (.ref a))) (I : Inv X pins σ H s) (ea : H a = some (exo a C none)) (ha : PA X (e :: es) ta)
    (q : ta σ H fun us H1 => us.length ≤ 1000 ∧ H1 a = some (exo a C none) ∧ Qn H1)
    (hs : swapsWith (.Call (.Attribute (.Call (.Name "super" p0) [] [] p1) "__init__" p2) (e :: es) [] p3) none p4.line X.env = pure false := by rfl)
    (hc : eval (.Call (.Attribute (.Call (.Name "super" p0) [] [] p1) "__init__" p2) (e :: es) [] p3) X.env = (do
      let ov ← attributeBase (.Call (.Name "super" p0) [] [] p1) "__init__" X.env (eval (.Call (.Name "super" p0) [] [] p1) X.env)
      standAt p2.atName
      let (f, first) ← holding [ov] (getMethod ov "__init__" pl)
      callWith p3 f first (backTo p3 (starEach (e :: es) X.env)) []) := by rfl)
    (he : ∀ env : Env, starEach (e :: es) env = (false, eval e env) :: starEach es env := by intro _; rfl) (hpl : ∀ env : Env, (backTo p3 (starEach es env)).any (·.1) = false := by intro _; rfl) :
    _root_.PySem.wpAt (model X.prog X.w) X.A (.func body X.env) (exec (.Expr (.Call (.Attribute (.Call (.Name "super" p0) [] [] p1) "__init__" p2) (e :: es) [] p3) p4) X.env)
      (fun fl s' => fl = .next ∧ ∃ H1, Inv X pins σ H1 s' ∧ Qn H1) X.xe s := by
  obtain ⟨oc, od, osl, hf⟩ := S.fn
  obtain ⟨ar, hp, har⟩ := S.head
  obtain ⟨ccl, cdd, vs, ccs, file, tf, hcode, hvs, hfile⟩ := S.code
  obtain ⟨cl, cld, csl, hcell⟩ := S.cell
  obtain ⟨nm, q', N, bs, bm, sn, sub, ab, col, dd, k0, k1, k2, k3, k5, hC, hbm⟩ := T.cls
  have KX := I.kIn
  obtain ⟨t1, ho⟩ := exo_at I.hok ea
  have kS : X.env.kindOf "super" = some .globalImplicit := by rw [henv]; exact hks
  have kC : X.env.kindOf "__class__" = some .free := by rw [henv]; exact hkc
  have kA : X.env.kindOf ar.arg = some .local := by rw [henv, har]; exact hka
  have kF : X.env.scope.kind = .function := by rw [henv]; exact hk
  have hD := KX _ _ hC
  refine ks_wpAt_Expr_any ?_ I.quiet hs
  refine ks_wpAt_MethodCall ?_ hc
  refine ks_wpAt_super_base (f := f) (cc := c) (ar := ar) kS kC rfl (by rw [henv]) (KX _ _ hf) rfl hp (by rw [henv]) (KX _ _ hcode) rfl hvs hfile S.top ?_
  obtain ⟨mb, b1, b2⟩ := I.mod.blt
  refine ks_loadName_global kF kS (Calls.loadGlobal_builtin (by rw [I.ok.glob]; exact I.mod.glob.keeps I.bk) hmg (by rw [I.ok.blt]; exact b1.keeps I.bk) ((b2 "super" (by decide)).trans boot_super) ⟨rfl, ?_⟩)
  refine wpAny_loadName_free kF kC (c := cc) (by rw [henv]; rfl) ⟨_, KX _ _ hcell, rfl⟩ ?_
  obtain ⟨m, hns, hl⟩ := I.loc
  obtain ⟨u, ru, look⟩ := hl 0 slf (.ref a) h0 hσ (.inl (by rw [henv]; exact hka))
  obtain rfl : u = Value.ref a := ru
  have hm : m ar.arg = some (.ref a) := by
    rw [har]
    rcases look with ⟨_, z⟩ | ⟨z, _⟩
    · exact z
    · rw [har] at kA
      rw [kA] at z
      rcases z with z | z <;> cases z
  refine wpAny_loadName_local kF kA hns hm ?_
  refine ks_wpAny_isType_cls hD rfl ⟨rfl, ?_⟩
  have hcl : PySem.W.clsIn X.K C = some { name := nm, bases := bs, mro := .ref C :: bm, ns := N, qualname := q', hasDict := true, slotNames := sn, subclasses := sub, abstract := ab, collection := col, hasDel := false } := by unfold PySem.W.clsIn; rw [hC]
  have haC : a ≠ C := fun z => by
    rw [z, hD] at ho
    cases ho
  refine ks_wpAny_call_super hD rfl ho rfl (fun c z => by cases z) (looks_mroIn KX S.self) (fun h1 es1 k1 => ?_)
  have I1 : Inv X pins σ H { s with heap := h1 } := I.kept k1
  have ho1 := k1 _ _ ho
  have IA : InstAt h1 a (PySem.HandSPX.excO C t1) C none := ⟨ho1, rfl, rfl, trivial⟩
  have hin : Looks (model X.prog X.w) h1 (isInstance (.ref a) (.type "ValueError")) true := IA.type.andThen (looks_subIn I1.kIn S.val)
  have hal := S.init
  unfold ks_superIn at hal
  rw [hcl] at hal
  refine kxs_getMethod kxs_ValueError es1 (looks_opaque I1.kIn S.any) (l₀ := .ref C :: bm) (fun A Q E s k q => wpAny_bind ((looks_clsIn I1.kIn hcl) A _ E s k (wpAny_pure q))) rfl I1.kIn hal hin haC rfl ?_
  have I2 : Inv X pins σ H ⟨h1.push (kxs_mw "ValueError.__init__" a), s.gens, s.drawn, s.toks + 1, s.os⟩ := I1.kept (fun b u z => Heap.get?_push_of_some _ z)
  have hu : (h1.push (kxs_mw "ValueError.__init__" a)).get? h1.objs.size = some (kxs_mw "ValueError.__init__" a) := by heap_get
  have I3 := I2.pinMore hu (I1.hok.fresh (Nat.le_refl _)) (Nat.ne_of_gt (Nat.lt_of_lt_of_le I1.lt (Nat.le_refl _))) (I1.nofs (Nat.le_refl _)) (fun v z => by cases z)
  rw [he]
  refine kxs_callWith (i := "ValueError.__init__") (x := a) (by show (false || (backTo p3 (starEach es X.env)).any (·.1)) = false; rw [hpl]; rfl) ?_
  refine PySem.Calls.evalArgs_plain ?_
  have run := ha.run p3 _ _ σ H _ I3 q
  rw [he] at run
  refine thn run fun us s4 ⟨vs', H1, I4, r4, hl4, ea4, q4⟩ => ?_
  have hu4 := (I4.pin _ (List.mem_append_right _ (List.mem_cons_self ..))).1
  refine ⟨hu4, ?_⟩
  obtain ⟨t4, ho4⟩ := exo_at I4.hok ea4
  obtain ⟨hp4, g4, d4, tk4, os4⟩ := s4
  have hlen : us.length ≤ sizeLine := by
    rw [← Paired.length r4, sizeLine_eq]
    omega
  show wpAny _ _ (call (.ref h1.objs.size) ([] ++ us)) _ _ _
  rw [List.nil_append]
  refine PySem.SX.call_mw (I4.kIn _ _ hC) ho4 hu4 hlen fun h' t5 k hx => ?_
  have J := I4.write (t' := tk4) (x := a) (e := a) (o := exo a C none) (by rw [ea4]; exact True.intro) (.inl rfl) k ⟨_, hx⟩ (exo_ok hx)
  have eu : upd H1 a (exo a C none) = H1 := by
    funext b
    by_cases hb : b = a
    · rw [hb, upd_same, ea4]
    · rw [upd_ne hb]
  rw [eu] at J
  exact ⟨rfl, H1, J.pins_of fun p hp => J.pin p (List.mem_append_right _ (List.mem_cons_of_mem _ hp)), q4⟩
end
end L2
namespace L2
open PySem PySem.Spec PyProof.Rows PySem.W NdefX
section
variable {CX : CXT} {P : Program} {w : World} {K : PySem.W.Frag} {mg : Str → Option Value} {base : Heap} {k : Nat} {f cc c C : Addr} {name qual : Str} {params : Arguments} {body : List Stmt} {scope : Scope} {dV kV doc pm ct oc : Value} {an od : Option Addr}
    {osl : Array (Option Value)} {N ps : List Str} {sp : Sp}
/-- the def, its cell holding the class at C -/
theorem fn_cls (lk : K.lookup f = some ⟨oc, od, .func (PySem.W.fnX name qual params body scope [("__class__", cc)] dV kV doc pm an (.ref c) ct), osl⟩) (hcd : PySem.W.codeIn K (.ref c) qual = true) (S : NScope N ps ["__class__"] scope)
    (hcell : ∃ cl cld csl, K.lookup cc = some ⟨cl, cld, .cell (some (.ref C)), csl⟩) (len : ∀ vs H Q E, sp vs H Q E → vs.length = ps.length)
    (hbody : ∀ (A : Around) (outer : List Env) (s : Shared) (H : Hp) (vs : List V) (Q : VK) (E : XK) (s1 : Shared), sp vs H Q E →
      Inv (ncx CX P w K mg base N ⟨name, qual, params, body, scope, [("__class__", cc)], c⟩ f A outer s H E) [] (startF N vs [none]) H s1 →
      _root_.PySem.wpAt (model P w) (A.deeper (envF ⟨name, qual, params, body, scope, [("__class__", cc)], c⟩ f s.heap.objs.size)) (.func body (envF ⟨name, qual, params, body, scope, [("__class__", cc)], c⟩ f s.heap.objs.size)) (execs body (envF ⟨name, qual, params, body, scope, [("__class__", cc)], c⟩ f s.heap.objs.size))
        (SP (ncx CX P w K mg base N ⟨name, qual, params, body, scope, [("__class__", cc)], c⟩ f A outer s H E) [] { nx := fun _ H' => Q .non H', rt := Q })
        (ncx CX P w K mg base N ⟨name, qual, params, body, scope, [("__class__", cc)], c⟩ f A outer s H E).xe s1) :
    FnOk P w K mg base CX (k + 1) f (PySem.W.fnX name qual params body scope [("__class__", cc)] dV kV doc pm an (.ref c) ct) ps sp := by
  refine ⟨len, fun A outer s H args us vs Q E hr e0 hb r hsp => ?_⟩
  have hl := len _ _ _ _ hsp
  have kk : ∀ b o, base.get? b = some o → s.heap.get? b = some o := fun b o e => (e0.bs b o e).1
  have KX : K.In s.heap := e0.mod.kin.keeps kk
  have lim : s.heap.NoLimit := e0.mod.nolimit.keeps kk
  obtain ⟨cl, cld, csl, hcc⟩ := hcell
  refine codeAny_call_function hr.depth (KX _ _ lk) rfl S.co S.gen rfl (PySem.W.codeRec_of KX hcd) (hb _ _ _ _ ?_)
  refine wpAny_newFunctionEnv S.nocell (fun ⟨n, _⟩ hy => S.par n (List.of_mem_zip hy).1) (fun h₁ hns hsb => ⟨lim.fresh _ hsb, ?_⟩) S.kind
  show codeAny _ _ (.func body (envF ⟨name, qual, params, body, scope, [("__class__", cc)], c⟩ f s.heap.objs.size)) _ _
  have kp : ∀ b o, s.heap.get? b = some o → h₁.get? b = some o := fun b o e => hsb.extBut b o (Nat.ne_of_lt (Heap.lt_size e)) (Heap.get?_push_of_some _ e)
  have CA : CellsAt [("__class__", cc)] ["__class__"] [none] s.heap H := by
    have one : ∀ (y : Str) (b : Addr), ([("__class__", cc)] : List (Str × Addr)).lookup y = some b → y = "__class__" ∧ b = cc := fun y b e => by
      rw [List.lookup_cons] at e
      by_cases h : y = "__class__"
      · subst h
        simp at e
        exact ⟨rfl, e.symm⟩
      · have : (y == ("__class__" : Str)) = false := by simpa using h
        rw [this] at e
        cases e
    refine ⟨rfl, fun y b e => ?_, fun x y b e1 e2 => (one x b e1).1.trans (one y b e2).1.symm, fun i y e => ?_⟩
    · obtain ⟨_, rfl⟩ := one y b e
      exact ⟨(e0.bs _ _ (e0.mod.kin _ _ hcc)).2, _, ⟨_, KX _ _ hcc, rfl⟩⟩
    · cases i with
      | zero =>
        cases e
        exact ⟨cc, rfl, fun v z => by cases z⟩
      | succ i => cases e
  have I : Inv (ncx CX P w K mg base N ⟨name, qual, params, body, scope, [("__class__", cc)], c⟩ f A outer s H E) [] (startF N vs [none]) H { s with heap := h₁, toks := s.toks + (ps.zip us).length } := inv_startN S hr.hd e0 hl r CA hns kp
  refine ks_codeAny_funcAt (ks_wpAt_mono (hbody A outer s H vs Q E _ hsp I) (fun fl s' hs => ?_) fun e s' hs => hs)
  have fin : ∀ {σ' : L2.St} {H' : Hp} {v : V} {u : Value}, Inv (ncx CX P w K mg base N ⟨name, qual, params, body, scope, [("__class__", cc)], c⟩ f A outer s H E) [] σ' H' s' → L2.RelV v u → Q v H' → CE outer P w H s Q u s' :=
    fun {σ' H' v u} J rv q => ⟨v, H', J.os, J.bare, J.base, J.hok, rv, q⟩
  cases fl with
  | ret u =>
    obtain ⟨v, σ', H', J, rv, q⟩ := hs
    exact fin J rv q
  | next =>
    obtain ⟨σ', H', J, q⟩ := hs
    exact fin (v := V.non) (u := Value.none) J rfl q
  | brk =>
    obtain ⟨_, _, _, q⟩ := hs
    exact False.elim q
  | cont =>
    obtain ⟨_, _, _, q⟩ := hs
    exact False.elim q
end
end L2
namespace L2
open PySem PySem.Spec PyProof.Rows PySem.W NdefX
def supS (es : List Expr) (p0 p1 p2 p3 p4 : Pos) : Stmt := .Expr (.Call (.Attribute (.Call (.Name "super" p0) [] [] p1) "__init__" p2) es [] p3) p4
def keepS (slf x : Str) (q : Pos × Pos × Pos × Pos) : Stmt := .Assign [.Attribute (.Name slf q.1) x q.2.1] (.Name x q.2.2.1) q.2.2.2
/-- how the call of super().__init__ is read, wherever -/
def SupEv (es : List Expr) (p0 p1 p2 p3 : Pos) : Prop := ∃ pl : Env → Sem Bool, ∀ env : Env, eval (.Call (.Attribute (.Call (.Name "super" p0) [] [] p1) "__init__" p2) es [] p3) env = (do
  let ov ← attributeBase (.Call (.Name "super" p0) [] [] p1) "__init__" env (eval (.Call (.Name "super" p0) [] [] p1) env)
  standAt p2.atName
  let (f, first) ← holding [ov] (getMethod ov "__init__" (pl env))
  callWith p3 f first (backTo p3 (starEach es env)) [])
/-- one thing is kept -/
def sp1 (C : Addr) (x : Str) : Sp := fun vs H Q _ => ∃ (a : Addr) (y : V), vs = [.ref a, y] ∧ H a = some (exo a C none) ∧ ∀ dx, H dx = none → dx ≠ a → Q .non (upd (upd H dx (exd dx [(x, y)])) a (exo a C (some dx)))
section
variable {CX : CXT} {P : Program} {w : World} {K : PySem.W.Frag} {mg : Str → Option Value} {base : Heap} {k : Nat} {f cc c C : Addr} {name qual slf x y : Str} {params : Arguments} {scope : Scope} {dV kV doc pm ct oc : Value} {an od : Option Addr}
    {osl : Array (Option Value)} {p0 p1 p2 p3 p4 r1 r2 : Pos} {q1 q2 : Pos × Pos × Pos × Pos}
theorem init1 (T : OexC K C) (S : SupI K P C cc c f (PySem.W.fnX name qual params [supS [.Name x r1] p0 p1 p2 p3 p4, keepS slf x q1] scope [("__class__", cc)] dV kV doc pm an (.ref c) ct) slf)
    (hcd : PySem.W.codeIn K (.ref c) qual = true) (NS : NScope [slf, x, "__class__"] [slf, x] ["__class__"] scope) (hks : scope.names.lookup ("super" : Str) = some .globalImplicit) (hmg : mg "super" = none)
    (hev : SupEv [.Name x r1] p0 p1 p2 p3) (hno : PySem.W.findIn K (.ref C) x = some none) (hx : (x == ("__debug__" : Str)) = false := by decide) (hx2 : (x == ("__classdict__" : Str)) = false := by decide) (hs1 : (slf == ("__debug__" : Str)) = false := by decide) (hs2 : (slf == ("__classdict__" : Str)) = false := by decide) :
    FnOk P w K mg base CX (k + 1) f (PySem.W.fnX name qual params [supS [.Name x r1] p0 p1 p2 p3 p4, keepS slf x q1] scope [("__class__", cc)] dV kV doc pm an (.ref c) ct) [slf, x] (sp1 C x) := by
  obtain ⟨oc, od, osl, lk⟩ := S.fn
  obtain ⟨pl, hev⟩ := hev
  refine fn_cls lk hcd NS S.cell (fun vs H Q E ⟨a, y, e, _⟩ => by rw [e]; rfl) fun A outer s H vs Q E s1 ⟨a, y, ev, ea, q⟩ I => ?_
  subst ev
  have l0 : scope.names.lookup slf = some .local := NS.par slf (by simp)
  have l1 : scope.names.lookup x = some .local := NS.par x (by simp)
  refine ks_wpAt_execs_cons (ks_wpAt_mono (at_super (ta := tCons (tVar 1) tNil) (Qn := fun H1 => H1 = H) T S rfl hks (NS.frk _ (by simp)) l0 NS.kind hmg rfl rfl I ea (pa_cons (pe_var rfl (.inl l1) hx hx2) pa_nil) ⟨y, rfl, by simp, ea, rfl⟩ (hc := hev _)) (fun fl s2 ⟨e1, H1, J, e2⟩ => ?_) fun _ _ z => z)
  subst e1 e2
  refine wpAt_of_wpAny ?_
  have st : PSs (ncx CX P w K mg base [slf, x, "__class__"] ⟨name, qual, params, [supS [.Name x r1] p0 p1 p2 p3 p4, keepS slf x q1], scope, [("__class__", cc)], c⟩ f A outer s H1 E) [keepS slf x q1] (tOst K x (tVar 0) (tVar 1)) :=
    pss_one (ps_ost (pe_var rfl (.inl l0) hs1 hs2) (pe_var rfl (.inl l1) hx hx2))
  exact st.run [] s2 _ H1 { nx := fun _ H' => Q .non H', rt := Q } J ⟨y, rfl, .ref a, rfl, a, C, rfl, T, hno, .inl ⟨ea, fun dx n ne => q dx n ne⟩⟩
end
end L2
namespace Sm
open PySem PySem.Spec PyProof.Rows L2
end Sm
namespace Sm
open PySem PySem.Spec PyProof.Rows L2
section
variable {X : Cx} {pins : List (Addr × Obj)} {σ : L2.St} {H : Hp} {s : Shared}
/-- more things that nothing tells of -/
theorem RH.more {K : PySem.W.Frag} {mg : NW} {r : List Addr} {mh : MH} {H H' : Hp} (rh : RH K mg r mh H) (kp : ∀ b o, H b = some o → H' b = some o) : Stp r H r H' ∧ RH K mg r mh H' := by
  have st : Stp r H r H' := ⟨⟨[], by simp⟩, fun b vs q => q.imp (kp b _) fun ⟨f, q⟩ => ⟨f, kp b _ q⟩, fun b o u q => kp b _ q⟩
  refine ⟨st, rh.len, rh.nd, fun i o a e1 e2 => (rh.at_ i o a e1 e2).mono st fun w => ?_, rh.tb.keep fun b o q _ => kp b o q⟩
  have : H a ≠ none := by
    rcases w with w | ⟨f, u, w⟩
    · exact (rh.at_ i o a e1 e2).there w
    · rw [w]; exact fun z => nomatch z
  cases eh : H a with
  | none => exact absurd eh this
  | some u => exact kp a u eh
end
end Sm
namespace Sm
open PySem PySem.Spec PyProof.Rows L2
end Sm
namespace Sm
open PySem PySem.Spec PyProof.Rows L2
/-- raise c(..): the things that are kept, the last one first -/
def mRaise (c : Str) (fs : List Str) (n : MA) : MSt := fun ms h => (n ms h).toS ms fun ds h1 => .exc c (fs.zip ds).reverse ms h1
section
variable {X : Cx} {W : WX} {e : Expr} {es : List Expr} {m : MA} {p pos pos2 : Pos} {c slf x y : Str} {k : Nat} {C fI : Addr} {fd : FuncData}
theorem upd_swap1 {H : Hp} {a dx : Addr} {o1 o2 o3 : HO} {o : HO} (hn : H a = none) (ne : dx ≠ a) : upd (del (upd (upd (upd H a o1) dx o2) a o3) a) dx o = upd H dx o := by
  funext b
  by_cases h1 : b = dx
  · subst h1; rw [upd_same, upd_same]
  · rw [upd_ne h1, upd_ne h1]
    by_cases h2 : b = a
    · subst h2; rw [del_same, hn]
    · rw [del_ne h2, upd_ne h2, upd_ne h1, upd_ne h2]
/-- what is let out when one thing is kept -/
theorem s_raise1 (T : OexC X.K C) (iC : PySem.W.findIn X.K (.ref C) "__init__" = some (some (.ref fI))) (tI : PySem.W.typeIn X.K (.ref fI) = some (.type "function")) (F1 : FnOk X.prog X.w X.K X.mg X.base (L2.CX X.prog X.w) k fI fd [slf, x] (sp1 C x))
    (hb : ∀ (s : Shared) (us : List Value), us.length = 2 → BindsTo s fd ⟨us, []⟩ ([slf, x].zip us)) (hr : Room (k + 1) X.A) (hm : X.mg c = some (.ref C)) (tk : Takes X W) (ha : SA X W (e :: es) m) (hl : ALen m 1)
    (hg : X.env.kindOf c = some .globalImplicit := by kernel_rfl) (hc : X.calm = true := by kernel_rfl) (hdb : (c == ("__debug__" : Str)) = false := by kernel_rfl) (he : starEach (e :: es) X.env = (false, eval e X.env) :: starEach es X.env := by kernel_rfl) (hpl : (backTo pos (starEach es X.env)).any (·.1) = false := by kernel_rfl) :
    SS X W (.Raise (some (.Call (.Name c p) (e :: es) [] pos)) none pos2) (mRaise c [x] m) := by
  refine psImp (ps_raise hc tk (pmk_oex (CX := L2.CX X.prog X.w) T iC tI F1 hr (binds_n (ps := [slf, x]) hb) .nil ?_ hg hm ha hdb he hpl)) fun D σ H ⟨r, ms, mh, rs, rh, q⟩ => ?_
  · intro pins σ H s er s' I h
    obtain ⟨_, _, _, _, _, h⟩ := h
    simp only [and_false] at h
  have q' : SPost X.K X.gw W r H ((m ms mh).toS ms fun ds h1 => .exc c ([x].zip ds).reverse ms h1) D := q
  cases em : m ms mh with
  | bad => rw [em] at q'; exact q'.elim
  | exc c' fs h1 =>
    rw [em] at q'
    exact ⟨r, ms, mh, rs, rh, by rw [em]; exact fun r' H' cv dx st rh' rx => q' r' H' σ cv dx st rh' (rs.mono st) rx⟩
  | ok ds h1 =>
    rw [em] at q'
    refine ⟨r, ms, mh, rs, rh, ?_⟩
    rw [em]
    intro r1 H1 vs st1 rh1 rvs
    have hds : ds.length = 1 := hl _ _ _ _ em
    obtain ⟨d, rfl⟩ : ∃ d, ds = [d] := List.length_eq_one_iff.mp hds
    obtain ⟨v, rfl⟩ : ∃ v, vs = [v] := List.length_eq_one_iff.mp (by rw [← rvs.len]; exact hds)
    have rv : RV X.K X.gw H1 r1 d v := by
      cases rvs with
      | cons a _ => exact a
    refine ⟨by simp, fun a hn => ⟨a, v, rfl, upd_same, fun dx hn2 ne => ⟨rfl, dx, [(x, v)], upd_same, by rw [upd_ne ne]; exact upd_same, by rw [upd_ne ne] at hn2; exact hn2, ?_⟩⟩⟩
    rw [upd_swap1 hn ne]
    have hn3 : H1 dx = none := by rw [upd_ne ne] at hn2; exact hn2
    have stp : Stp r1 H1 r1 (upd H1 dx (.xd [(x, v)])) := stp_new hn3
    exact q' r1 _ σ (.ref C) (some dx) (st1.trans stp) (rh1.other hn3) ((rs.mono st1).mono stp) ⟨C, hm, rfl, .inr ⟨dx, [(x, v)], rfl, upd_same, .cons (rv.mono stp) .nil⟩⟩
end
end Sm
namespace Sm
open PySem PySem.Spec PyProof.Rows L2
section
variable {K : PySem.W.Frag} {mg : NW} {H : Hp} {r : List Addr}
theorem rf_look {f : Str} {d : D} : ∀ {fs : List (Str × D)} {vs : List (Str × V)}, RF K mg H r fs vs → fs.lookup f = some d → ∃ v, vs.lookup f = some v ∧ RV K mg H r d v
  | _, _, .nil, e => by cases e
  | _, _, .cons (f := g) (d := d') (v := v') (ds := ds) (vs := vs) h1 h2, e => by
    rw [List.lookup_cons] at e ⊢
    cases hg : (f == g) with
    | true =>
      rw [hg] at e
      cases e
      exact ⟨v', rfl, h1⟩
    | false =>
      rw [hg] at e
      exact rf_look h2 e
end
end Sm
namespace Sm
open PySem PySem.Spec PyProof.Rows L2
/-- the class at C, over ValueError -/
def oexB (K : PySem.W.Frag) (C : Addr) : Bool := (match K.lookup C with
  | some ⟨.type t, _, .cls cd, sl⟩ => t == "type" && (match cd.mro, sl.toList with
    | .ref C' :: bm, [_, _, _, _, some (.builtin n), _] => C' == C && (n == "ValueError.__new__" && (!cd.hasDel && (cd.hasDict && PySem.HandSPX.refsVE bm)))
    | _, _ => false)
  | _ => false) && (He.eqO (PySem.W.findIn K (.ref C) "__setattr__") (some (some (.builtin "object.__setattr__"))) && (decide (PySem.W.subIn K (.ref C) (.type "BaseException") = some true) && (decide (PySem.W.typeIn K (.ref C) = some (.type "type")) && PySem.W.keepIn K (.ref C))))
theorem oexB_ok {K : PySem.W.Frag} {C : Addr} (h : oexB K C = true) : OexC K C := by
  obtain ⟨h1, h⟩ := Bool.and_eq_true_iff.mp h
  obtain ⟨h2, h⟩ := Bool.and_eq_true_iff.mp h
  obtain ⟨h3, h⟩ := Bool.and_eq_true_iff.mp h
  obtain ⟨h4, h5⟩ := Bool.and_eq_true_iff.mp h
  refine ⟨?_, He.eqO_ok h2, of_decide_eq_true h3, of_decide_eq_true h4, h5⟩
  split at h1
  · rename_i t dd cd sl e
    obtain ⟨ht, g1⟩ := Bool.and_eq_true_iff.mp h1
    clear h1
    obtain rfl : t = "type" := beq_iff_eq.mp ht
    obtain ⟨nm, bs, mro, ns, qn, hd, sn, sb, ab, col, del⟩ := cd
    dsimp only at g1
    cases mro with
    | nil => cases g1
    | cons c0 bm =>
      cases c0 with
      | ref C' =>
        split at g1
        · rename_i z1 z2 C2 bm2 k0 k1 k2 k3 n k5 em es
          cases em
          obtain ⟨a1, g1⟩ := Bool.and_eq_true_iff.mp g1
          obtain ⟨a2, g1⟩ := Bool.and_eq_true_iff.mp g1
          obtain ⟨a3, g1⟩ := Bool.and_eq_true_iff.mp g1
          obtain ⟨a4, a5⟩ := Bool.and_eq_true_iff.mp g1
          obtain rfl : C' = C := beq_iff_eq.mp a1
          obtain rfl : n = "ValueError.__new__" := beq_iff_eq.mp a2
          have a3 : del = false := by simpa using a3
          have a4 : hd = true := a4
          subst a3 a4
          have esl : sl = #[k0, k1, k2, k3, some (.builtin "ValueError.__new__"), k5] := by
            rw [← Array.toList_inj, es]
          subst esl
          exact ⟨nm, qn, ns, bs, _, sn, sb, ab, col, dd, k0, k1, k2, k3, k5, e, a5⟩
        · cases g1
      | _ => cases g1
  · cases h1
/-- one class: its name, what its objects keep, its __init__ -/
structure ExD where
  name : Str
  fld : List Str
  args : Arguments
  body : List Stmt
  scope : Scope
abbrev FnC : Type := Option (Str × Str × Arguments × FuncBody × Scope × Addr × List Str × Addr)
def fnC (K : PySem.W.Frag) (x : Str) : FnC := match K.lookup (He.ma K (He.ga K x) "__init__") with
  | some ⟨_, _, .func fd, _⟩ => some (fd.name, fd.qualname, fd.params, fd.body, fd.scope, fd.globals, fd.closure.map (·.1), fd.builtins)
  | _ => none
def ExD.val (e : ExD) : FnC := some ("__init__", e.name ++ ".__init__", e.args, .stmts e.body, e.scope, mainGlobals, ["__class__"], builtinsNs)
def cellB (K : PySem.W.Frag) (cc C : Addr) : Bool := match K.lookup cc with
  | some ⟨_, _, .cell (some (.ref C')), _⟩ => C' == C
  | _ => false
def codeB (K : PySem.W.Frag) (P : Program) (c : Addr) : Bool := match K.lookup c with
  | some ⟨_, _, .fields vs, _⟩ => (match (vs[2]? : Option Value) with | some (Value.str file _) => (P.main.file : Str) == file | _ => false)
  | _ => false
def initB (K : PySem.W.Frag) (P : Program) (C fI : Addr) : Bool := match K.lookup fI with
  | some ⟨_, _, .func fd, _⟩ => (match fd.closure, fd.code, fd.defaults with
    | [(_, cc)], .ref c, .none => cellB K cc C && (codeB K P c && PySem.W.codeIn K (.ref c) fd.qualname)
    | _, _, _ => false)
  | _ => false
def exB (K : PySem.W.Frag) (P : Program) (e : ExD) : Bool :=
  oexB K (He.ga K e.name) && (He.eqO (PySem.W.findIn K (.ref (He.ga K e.name)) "__init__") (some (some (.ref (He.ma K (He.ga K e.name) "__init__")))) && (decide (PySem.W.typeIn K (.ref (He.ma K (He.ga K e.name) "__init__")) = some (.type "function")) &&
    ((e.fld.all fun f => He.eqO (PySem.W.findIn K (.ref (He.ga K e.name)) f) (some none)) && (He.eqO (PySem.W.nsIn K cStatics "thirdparty.any") (some none) && (He.eqO (PySem.W.ks_superIn K (He.ga K e.name) (He.ga K e.name) "__init__") (some (some (.builtin "ValueError.__init__"))) &&
      (decide (PySem.W.mroIn K (He.ga K e.name) (.ref (He.ga K e.name)) = some true) && (decide (PySem.W.subIn K (.ref (He.ga K e.name)) (.type "ValueError") = some true) && initB K P (He.ga K e.name) (He.ma K (He.ga K e.name) "__init__"))))))))
theorem andB {a b : Bool} (h : (a && b) = true) : a = true ∧ b = true := Bool.and_eq_true_iff.mp h
/-- what raising one asks for -/
structure ExOk1 (P : Program) (w : World) (K : PySem.W.Frag) (mg : Str → Option Value) (base : Heap) (x slf f : Str) : Prop where
  at_ : ∃ (C fI : Addr) (fd : FuncData), mg x = some (.ref C) ∧ OexC K C ∧ PySem.W.findIn K (.ref C) "__init__" = some (some (.ref fI)) ∧ PySem.W.typeIn K (.ref fI) = some (.type "function") ∧ (∀ k, FnOk P w K mg base (L2.CX P w) (k + 1) fI fd [slf, f] (sp1 C f)) ∧
    ∀ (s : Shared) (us : List Value), us.length = 2 → BindsTo s fd ⟨us, []⟩ ([slf, f].zip us)
theorem ex1_of {P : Program} {w : World} {K : PySem.W.Frag} {mg : Str → Option Value} {base : Heap} {e : ExD} {slf f : Str} {p0 p1 p2 p3 p4 r1 : Pos} {q1 : Pos × Pos × Pos × Pos} (hv : fnC K e.name = e.val) (hb : exB K P e = true) (hg : mg e.name = some (.ref (He.ga K e.name))) (hs : mg "super" = none)
    (hf : e.fld = [f]) (hbody : e.body = [supS [.Name f r1] p0 p1 p2 p3 p4, keepS slf f q1]) (hhead : ∃ ar : Arg, (e.args.posonlyargs ++ e.args.args).head? = some ar ∧ ar.arg = slf) (htop : (P.main.scope.names.lookup ("super" : Str)).isSome = false)
    (NS : NdefX.NScope [slf, f, "__class__"] [slf, f] ["__class__"] e.scope) (hks : e.scope.names.lookup ("super" : Str) = some .globalImplicit) (hev : SupEv [.Name f r1] p0 p1 p2 p3)
    (hbind : ∀ (kV doc pm ct : Value) (an : Option Addr) (cc c : Addr) (us : List Value), us.length = 2 → bindArgs (PySem.W.fnX "__init__" (e.name ++ ".__init__") e.args e.body e.scope [("__class__", cc)] .none kV doc pm an (.ref c) ct) ⟨us, []⟩ = pure ([slf, f].zip us))
    (hx : (f == ("__debug__" : Str)) = false := by decide) (hx2 : (f == ("__classdict__" : Str)) = false := by decide) (hs1 : (slf == ("__debug__" : Str)) = false := by decide) (hs2 : (slf == ("__classdict__" : Str)) = false := by decide) : ExOk1 P w K mg base e.name slf f := by
  obtain ⟨name, fld, args, body, scope⟩ := e
  dsimp only at hf hbody hhead NS hks hbind hg hb hv
  subst hf hbody
  obtain ⟨b1, hb⟩ := andB hb
  obtain ⟨b2, hb⟩ := andB hb
  obtain ⟨b3, hb⟩ := andB hb
  obtain ⟨b4, hb⟩ := andB hb
  obtain ⟨b5, hb⟩ := andB hb
  obtain ⟨b6, hb⟩ := andB hb
  obtain ⟨b7, hb⟩ := andB hb
  obtain ⟨b8, b9⟩ := andB hb
  dsimp only at b1 b2 b3 b4 b6 b7 b8 b9
  have T := oexB_ok b1
  have hno : PySem.W.findIn K (.ref (He.ga K name)) f = some none := He.eqO_ok (List.all_eq_true.mp b4 f (by simp))
  unfold initB at b9
  unfold fnC at hv
  generalize He.ma K (He.ga K name) "__init__" = fI at *
  generalize He.ga K name = C at *
  split at b9
  · rename_i oc od fd osl lk
    rw [lk] at hv
    split at b9
    · rename_i nm cc c ecl ecd edv
      obtain ⟨c1, b9⟩ := andB b9
      obtain ⟨c2, c3⟩ := andB b9
      obtain ⟨n1, n2, n3, n4, n5, n6, n7, n8, n9, n10, n11, n12, n13, n14, n15⟩ := fd
      unfold ExD.val at hv
      simp only [Option.some.injEq, Prod.mk.injEq] at hv
      obtain ⟨e1, e2, e3, e4, e5, e6, hcl, e8⟩ := hv
      subst e1 e2 e4 e6 e8
      obtain rfl := e3
      obtain rfl := e5
      dsimp only at ecl ecd edv c3
      subst ecl ecd edv
      obtain rfl : nm = "__class__" := by simpa using hcl
      have S : SupI K P C cc c fI (PySem.W.fnX "__init__" (name ++ ".__init__") n3 [supS [.Name f r1] p0 p1 p2 p3 p4, keepS slf f q1] n5 [("__class__", cc)] .none n9 n10 n11 n12 (.ref c) n14) slf := by
        refine ⟨⟨_, _, _, lk⟩, hhead, ?_, ?_, htop, He.eqO_ok b5, He.eqO_ok b6, of_decide_eq_true b7, of_decide_eq_true b8⟩
        · unfold codeB at c2
          split at c2
          · rename_i lk2
            split at c2
            · rename_i ev
              exact ⟨_, _, _, _, _, _, lk2, ev, c2⟩
            · cases c2
          · cases c2
        · unfold cellB at c1
          split at c1
          · rename_i C' _ lk2
            obtain rfl : C' = C := beq_iff_eq.mp c1
            exact ⟨_, _, _, lk2⟩
          · cases c1
      exact ⟨⟨C, fI, _, hg, T, He.eqO_ok b2, of_decide_eq_true b3, fun k => init1 T S c3 NS hks hs hev hno hx hx2 hs1 hs2, fun s us hl M A Q E h => by
        rw [hbind n9 n10 n11 n14 n12 cc c us hl]
        exact wpAny_pure h⟩⟩
    · cases b9
  · cases b9
end Sm
namespace Sm
open PySem PySem.Spec PyProof.Rows L2
def frE (n : Nat) (g : Addr → Option Obj) : PySem.W.Frag := He.frT g (cStatics :: lvlK g n [mainGlobals])
abbrev AlE : Type := (He.AlD × Bool) × List FnC
def obsE (n : Nat) (fa : List He.Fa) (fn : List He.DefD) (ex : PySem.W.Frag → Bool) (es : List ExD) (g : Addr → Option Obj) : AlE := ((He.obsD fa fn (frE n g), ex (frE n g)), es.map fun e => fnC (frE n g) e.name)
def hookE (n : Nat) (fa : List He.Fa) (fn : List He.DefD) (ex : PySem.W.Frag → Bool) (es : List ExD) : PySem.W.Hook where
  α := AlE
  obs := fun s => obsE n fa fn ex es s.heap.get?
  val := fun _ => ((He.valD fn, true), es.map ExD.val)
  says := fun w h => ∃ K : PySem.W.Frag, K.In h ∧ He.SaysX fa fn [] [] ex w h K ∧ (es.map fun e => fnC K e.name) = es.map ExD.val
  of := fun w h e => ⟨frE n _, He.frT_in, ⟨by
    have e1 := congrArg (fun z : AlE => z.1.1) e
    exact Prod.ext e1 rfl, congrArg (fun z : AlE => z.1.2) e, (fun _ z => nomatch z), (fun _ z => nomatch z), fun _ z => nomatch z⟩, congrArg (fun z : AlE => z.2) e⟩
  keeps := fun _ _ _ ⟨K, hK, c, e⟩ k => ⟨K, PySem.W.Frag.In.keeps hK k, ⟨c.t, c.more, c.hd, c.out, fun p hp => k _ _ (c.empty p hp)⟩, e⟩
theorem obsE_eq {n : Nat} {fa : List He.Fa} {fn : List He.DefD} {ex : PySem.W.Frag → Bool} {es : List ExD} {g : Addr → Option Obj} {s : Shared} (h : ∀ a, g a = s.heap.get? a) : obsE n fa fn ex es g = (hookE n fa fn ex es).obs s := by
  have e : g = s.heap.get? := funext h
  rw [e] <;> rfl
/-- what catching one and reading its field asks for -/
structure XfOk (K : PySem.W.Frag) (mg : Str → Option Value) (x f : Str) : Prop where
  at_ : ∃ C, mg x = some (.ref C) ∧ PySem.W.exmOne K (.ref C) (.ref C) = some true ∧ XfC K C ∧ PySem.W.findIn K (.ref C) f = some none
/-- k's clause takes k alone -/
structure ExmOk (K : PySem.W.Frag) (mg : Str → Option Value) (kn : List Str) (k : Str) : Prop where
  ex : ∃ C, mg k = some (.ref C) ∧ ∀ c ∈ kn, ∃ C', mg c = some (.ref C') ∧ PySem.W.exmOne K (.ref C') (.ref C) = some (decide (c = k))
/-- the law's code object and its table -/
structure LawT (K : PySem.W.Frag) (mg : Str → Option Value) : Prop where
  ex : ∃ (fa c P : Addr) (fd : FuncData) (oc : Value) (od : Option Addr) (osl : Array (Option Value)), mg "law" = some (.ref fa) ∧ PySem.W.tabIn K "law" = some (c, P) ∧ K.lookup fa = some ⟨oc, od, .func fd, osl⟩ ∧ fd.code = .ref c
structure FactsE (P : Program) (exs : List (Str × Str × Str)) (fn : List He.DefD) (fre : List Str) (cis : List (Str × Int)) (css : List (Str × Str)) (cts : List (Str × List Str)) (noats : List (Str × Str)) (mds : List He.DefD) (K : PySem.W.Frag) (mg : Str → Option Value) : Prop extends FactsY fn fre cis css cts noats mds K mg where
  exc : ∀ (i : Nat) {x slf f : Str}, exs[i]? = some (x, slf, f) → ∀ (w : World) (base : Heap), ExOk1 P w K mg base x slf f
  xf : ∀ (i : Nat) {x slf f : Str}, exs[i]? = some (x, slf, f) → XfOk K mg x f
  exm : ∀ (i : Nat) {x slf f : Str}, exs[i]? = some (x, slf, f) → ExmOk K mg (exs.map (·.1)) x
  law : LawT K mg
def faE (exs : List (Str × Str × Str)) (fa : List He.Fa) : List He.Fa := fa ++ (He.Fa.free "super" :: exs.flatMap fun e => He.Fa.glo e.1 :: exs.map fun e' => He.Fa.exm e'.1 e.1 (decide (e'.1 = e.1)))
/-- the law's function stands in its place, its code has a table -/
def lawTB (K : PySem.W.Frag) : Bool := (PySem.W.tabIn K "law").isSome
theorem lawT_of {K : PySem.W.Frag} {mg : Str → Option Value} {h : Heap} (X : K.In h) (G : h.Ns mainGlobals mg) (b : lawTB K = true) : LawT K mg := by
  obtain ⟨⟨c, P⟩, e⟩ := Option.isSome_iff_exists.mp b
  have e0 := e
  unfold PySem.W.tabIn at e
  split at e
  · rename_i f hf
    split at e
    · rename_i oc od fd osl lk
      split at e
      · rename_i c' hc
        split at e
        · split at e
          · cases e
            exact ⟨f, _, _, fd, oc, od, osl, PySem.W.mg_of X G hf, e0, lk, hc⟩
          · cases e
        · cases e
      · cases e
    · cases e
  · cases e
def exE (cts : List (Str × List Str)) (P : Program) (es : List ExD) (K : PySem.W.Frag) : Bool := (noTabB K && lawTB K) && (exX cts K && es.all fun e => exB K P e && xfB K (He.ga K e.name))
section
variable {X : Cx} {W : WX} {n f c slf x : Str} {i k : Nat} {body : List Stmt} {mb : MSt} {e : Expr} {es : List Expr} {m : MA} {p p1 p2 p3 np pos pos' pos2 : Pos}
theorem s_raiseE (E : ExOk1 X.prog X.w X.K X.mg X.base c slf x) (hr : Room (k + 2) X.A) (tk : Takes X W) (ha : SA X W (e :: es) m) (hl : ALen m 1)
    (hg : X.env.kindOf c = some .globalImplicit := by kernel_rfl) (hc : X.calm = true := by kernel_rfl) (hdb : (c == ("__debug__" : Str)) = false := by kernel_rfl) (he : starEach (e :: es) X.env = (false, eval e X.env) :: starEach es X.env := by kernel_rfl) (hpl : (backTo pos (starEach es X.env)).any (·.1) = false := by kernel_rfl) :
    SS X W (.Raise (some (.Call (.Name c p) (e :: es) [] pos)) none pos2) (mRaise c [x] m) := by
  obtain ⟨C, fI, fd, hm, T, iC, tI, F, hb⟩ := E.at_
  exact s_raise1 T iC tI (F k) hb hr hm tk ha hl hg hc hdb he hpl
end
theorem saysD_left {fa fb : List He.Fa} {fn : List He.DefD} {K : PySem.W.Frag} (c : He.SaysD (fa ++ fb) fn K) : He.SaysD fa fn K := by
  have c0 : He.obsD (fa ++ fb) fn K = He.valD fn := c
  unfold He.obsD He.valD at c0
  have e1 := congrArg Prod.fst c0
  have e2 := congrArg Prod.snd c0
  show He.obsD _ fn K = He.valD fn
  unfold He.obsD He.valD
  obtain ⟨a1, a2⟩ := Bool.and_eq_true_iff.mp e1
  exact Prod.ext (Bool.and_eq_true_iff.mpr ⟨List.all_eq_true.mpr fun f hf => List.all_eq_true.mp a1 f (List.mem_append_left _ hf), a2⟩) e2
/-- what each class's own lines prove -/
def ExsOk (P : Program) (es : List ExD) (exs : List (Str × Str × Str)) : Prop := ∀ (K : PySem.W.Frag) (mg : Str → Option Value) (w : World) (base : Heap), (∀ e ∈ es, fnC K e.name = e.val ∧ exB K P e = true) → (∀ t ∈ exs, mg t.1 = some (.ref (He.ga K t.1))) → mg "super" = none →
  ∀ (i : Nat) (x slf f : Str), exs[i]? = some (x, slf, f) → ExOk1 P w K mg base x slf f
theorem gokE_of {P : Program} {es : List ExD} {exs : List (Str × Str × Str)} {fn : List He.DefD} {fre : List Str} {cis : List (Str × Int)} {css : List (Str × Str)} {cts : List (Str × List Str)} {noats : List (Str × Str)} {mds : List He.DefD} {K : PySem.W.Frag} {mg : Str → Option Value} {h : Heap} (X : K.In h) (G : h.Ns mainGlobals mg)
    (c : He.SaysD (faE exs (faY fn fre cis css cts noats mds)) (fn ++ mds) K) (hx : exE cts P es K = true) (hf : fn.all flatD = true) (hm : mds.all flatM = true) (hes : (es.map fun e => fnC K e.name) = es.map ExD.val) (hk : es.map (fun e => (e.name, e.fld)) = exs.map fun t => (t.1, [t.2.2])) (ho : ExsOk P es exs) : FactsE P exs fn fre cis css cts noats mds K mg := by
  obtain ⟨x0, hx⟩ := Bool.and_eq_true_iff.mp hx
  obtain ⟨x1, x2⟩ := Bool.and_eq_true_iff.mp hx
  have fact : ∀ f : He.Fa, f ∈ faE exs (faY fn fre cis css cts noats mds) → f.ok K = true := fun f hm => He.SaysD.facts c hm
  have hg : ∀ t ∈ exs, mg t.1 = some (.ref (He.ga K t.1)) := fun t ht => He.glo_ok X G (fact _ (List.mem_append_right _ (List.mem_cons_of_mem _ (List.mem_flatMap.mpr ⟨t, ht, by simp⟩))))
  have hs : mg "super" = none := He.free_ok X G (fact _ (List.mem_append_right _ (by simp)))
  have hexm : ∀ (i : Nat) {x slf f : Str}, exs[i]? = some (x, slf, f) → ExmOk K mg (exs.map (·.1)) x := fun i x slf f e => by
    have ht := List.mem_of_getElem? e
    refine ⟨_, hg _ ht, fun c hc => ?_⟩
    obtain ⟨u, hu, rfl⟩ := List.mem_map.mp hc
    exact ⟨_, hg _ hu, He.exm_ok (fact _ (List.mem_append_right _ (List.mem_cons_of_mem _ (List.mem_flatMap.mpr ⟨_, ht, List.mem_cons_of_mem _ (List.mem_map.mpr ⟨u, hu, rfl⟩)⟩))))⟩
  refine { toFactsY := gokY_of X G (saysD_left c) x1 hf hm, exc := fun i x slf f e w base => ho K mg w base (fun e he => ⟨List.map_inj_left.mp hes e he, (Bool.and_eq_true_iff.mp (List.all_eq_true.mp x2 e he)).1⟩) hg hs i x slf f e, law := lawT_of X G (Bool.and_eq_true_iff.mp x0).2, exm := hexm, xf := fun i x slf f e => ?_ }
  have ht := List.mem_of_getElem? e
  have hpair : ∀ u ∈ exs, He.Fa.exm u.1 x (decide (u.1 = x)) ∈ faE exs (faY fn fre cis css cts noats mds) := fun u hu => List.mem_append_right _ (List.mem_cons_of_mem _ (List.mem_flatMap.mpr ⟨_, ht, List.mem_cons_of_mem _ (List.mem_map.mpr ⟨u, hu, rfl⟩)⟩))
  have hmem : (x, [f]) ∈ es.map (fun e => (e.name, e.fld)) := by rw [hk]; exact List.mem_map.mpr ⟨_, ht, rfl⟩
  obtain ⟨d, hd, ed⟩ := List.mem_map.mp hmem
  obtain ⟨b1, b2⟩ := Bool.and_eq_true_iff.mp (List.all_eq_true.mp x2 d hd)
  obtain ⟨nm, fl, ar, bo, sc⟩ := d
  cases ed
  refine ⟨_, hg _ ht, by have z := He.exm_ok (fact _ (hpair _ ht)); rw [show decide ((nm : Str) = nm) = true from decide_eq_true rfl] at z; exact z, xfB_ok b2, ?_⟩
  unfold exB at b1
  obtain ⟨_, b1⟩ := andB b1
  obtain ⟨_, b1⟩ := andB b1
  obtain ⟨_, b1⟩ := andB b1
  exact He.eqO_ok (List.all_eq_true.mp (andB b1).1 _ (by simp))
/-- a law from its mirror, classes and own exceptions among the names -/
theorem law_endE {l : PySem.W.OpenLaw} {n k : Nat} {q : Program} {loose : List Str} {XP : (Str → Option Value) → Heap → Prop} {d : DefRec} {x : Str} {hh : Nat} {es : List ExD} {exs : List (Str × Str × Str)} {fn : List He.DefD} {fre : List Str} {cis : List (Str × Int)} {css : List (Str × Str)} {cts : List (Str × List Str)} {noats : List (Str × Str)} {mds : List He.DefD} {f : MF}
    (hn : l.most = some n) (hn2 : n ≤ sizeLine) (hdf : d.params.defaults = []) (hr : Room k callerA) (hdn : d.name = ("law" : Str)) (hrec : ((PyProof.Rows.recsOf q).find? (fun e => e.name == ("law" : Str))).isSome = true) (hf : fn.all flatD = true) (hm : mds.all flatM = true) (hk : es.map (fun e => (e.name, e.fld)) = exs.map fun t => (t.1, [t.2.2])) (ho : ExsOk l.prog es exs)
    (law : ∀ (w : World) (K : PySem.W.Frag) (mg : Str → Option Value) (base : Heap), FactsE l.prog exs fn fre cis css cts noats mds K mg → LTB K mg base → FnS l.prog w K mg base k "law" [x] f)
    (pure : ∀ (ns : List Int) (o : MO), ns.length ≤ n → (∀ z ∈ ns, Builtin.Int.intBits z ≤ 1048576) → lsAt [o] 0 = some (ns.map D.int) → ∃ h, f [.ref 0] [o] = .ok (.bl true) h) :
    PySem.W.WalkO q loose XP (hookE hh (faE exs (faY fn fre cis css cts noats mds)) (fn ++ mds) (exE cts l.prog es) es).says l.row.toRowW d [] (fun f vs => PySem.call f vs) :=
  law_fin hn hn2 hdf hr hdn hrec (fun w mg h ⟨K, KX, c, hes⟩ G => ⟨K, KX, (Bool.and_eq_true_iff.mp (Bool.and_eq_true_iff.mp c.more).1).1, fun base tb => law w K mg base (gokE_of KX G c.t.d c.more hf hm hes hk ho) tb⟩) pure
end Sm
namespace Lw
open PySem PySem.Spec PyProof.Rows L2 Sm
def topS (i : Nat) : Stmt := PySem.Challenge.pw_symbolruns_k21_conditions_refused.main.body.getD i (.Pass ⟨0, 0, 0, 0⟩)
def defL : List He.DefD := [⟨("is_number", none), "is_number", "is_number", defArgs (topS 6), defBody (topS 6), defScope (topS 6), [], []⟩, ⟨("is_within", none), "is_within", "is_within", defArgs (topS 7), defBody (topS 7), defScope (topS 7), [], []⟩, ⟨("is_listed", none), "is_listed", "is_listed", defArgs (topS 8), defBody (topS 8), defScope (topS 8), [], []⟩, ⟨("is_word_of", none), "is_word_of", "is_word_of", defArgs (topS 9), defBody (topS 9), defScope (topS 9), [], []⟩, ⟨("is_item", none), "is_item", "is_item", defArgs (topS 13), defBody (topS 13), defScope (topS 13), [], []⟩, ⟨("is_condition", none), "is_condition", "is_condition", defArgs (topS 14), defBody (topS 14), defScope (topS 14), [], []⟩, ⟨("check_conditions", none), "check_conditions", "check_conditions", defArgs (topS 15), defBody (topS 15), defScope (topS 15), [], []⟩, ⟨("number_of", none), "number_of", "number_of", defArgs (topS 16), defBody (topS 16), defScope (topS 16), [], []⟩, ⟨("is_kept", none), "is_kept", "is_kept", defArgs (topS 17), defBody (topS 17), defScope (topS 17), [], []⟩, ⟨("keeps", none), "keeps", "keeps", defArgs (topS 18), defBody (topS 18), defScope (topS 18), [], []⟩, ⟨("told_numbers", none), "told_numbers", "told_numbers", defArgs (topS 19), defBody (topS 19), defScope (topS 19), [], []⟩, ⟨("raised", none), "raised", "raised", defArgs (topS 20), defBody (topS 20), defScope (topS 20), [], []⟩, ⟨("turn_of", none), "turn_of", "turn_of", defArgs (topS 21), defBody (topS 21), defScope (topS 21), [], []⟩, ⟨("least_numbers", none), "least_numbers", "least_numbers", defArgs (topS 22), defBody (topS 22), defScope (topS 22), [], []⟩, ⟨("numbers_for", none), "numbers_for", "numbers_for", defArgs (topS 23), defBody (topS 23), defScope (topS 23), [], []⟩, ⟨("place_of_item", none), "place_of_item", "place_of_item", defArgs (topS 24), defBody (topS 24), defScope (topS 24), [], []⟩, ⟨("edges_of", none), "edges_of", "edges_of", defArgs (topS 25), defBody (topS 25), defScope (topS 25), [], []⟩, ⟨("ring_along", none), "ring_along", "ring_along", defArgs (topS 26), defBody (topS 26), defScope (topS 26), [], []⟩, ⟨("found_ring", none), "found_ring", "found_ring", defArgs (topS 27), defBody (topS 27), defScope (topS 27), [], []⟩, ⟨("ring_of", none), "ring_of", "ring_of", defArgs (topS 28), defBody (topS 28), defScope (topS 28), [], []⟩, ⟨("ends_of", none), "ends_of", "ends_of", defArgs (topS 29), defBody (topS 29), defScope (topS 29), [], []⟩, ⟨("is_pair_of_ring", none), "is_pair_of_ring", "is_pair_of_ring", defArgs (topS 30), defBody (topS 30), defScope (topS 30), [], []⟩, ⟨("is_ring", none), "is_ring", "is_ring", defArgs (topS 31), defBody (topS 31), defScope (topS 31), [], []⟩, ⟨("_law_pot", none), "_law_pot", "_law_pot", defArgs (topS 33), defBody (topS 33), defScope (topS 33), [], []⟩, ⟨("_law_draw", none), "_law_draw", "_law_draw", defArgs (topS 34), defBody (topS 34), defScope (topS 34), [], []⟩, ⟨("_law_pick", none), "_law_pick", "_law_pick", defArgs (topS 35), defBody (topS 35), defScope (topS 35), [], []⟩, ⟨("_law_within", none), "_law_within", "_law_within", defArgs (topS 36), defBody (topS 36), defScope (topS 36), [], []⟩, ⟨("_law_item", none), "_law_item", "_law_item", defArgs (topS 37), defBody (topS 37), defScope (topS 37), [], []⟩, ⟨("_law_conditions", none), "_law_conditions", "_law_conditions", defArgs (topS 38), defBody (topS 38), defScope (topS 38), [], []⟩, ⟨("_law_is_number", none), "_law_is_number", "_law_is_number", defArgs (topS 39), defBody (topS 39), defScope (topS 39), [], []⟩, ⟨("_law_item_right", none), "_law_item_right", "_law_item_right", defArgs (topS 40), defBody (topS 40), defScope (topS 40), [], []⟩, ⟨("_law_right", none), "_law_right", "_law_right", defArgs (topS 41), defBody (topS 41), defScope (topS 41), [], []⟩, ⟨("_law_found", none), "_law_found", "_law_found", defArgs (topS 42), defBody (topS 42), defScope (topS 42), [], []⟩, ⟨("law", none), "law", "law", defArgs (topS 43), defBody (topS 43), defScope (topS 43), [], []⟩]
def freL : List Str := ["int", "isinstance", "bool", "tuple", "list", "str", "len", "enumerate", "all", "min", "range", "abs", "repr"]
def intL : List (Str × Int) := [("MOST_INPUTS", 200), ("MOST_CONDITIONS", 1000)]
def strL : List (Str × Str) := []
def tupL : List (Str × List Str) := []
def clsS (i j : Nat) : Stmt := (clsBodyS (topS i)).getD j (.Pass ⟨0, 0, 0, 0⟩)
def exL : List (Str × Str × Str) := [("BadConditions", "self", "at"), ("BadNumber", "self", "value"), ("NoInput", "self", "at")]
def EXL : List ExD := [⟨"BadConditions", ["at"], defArgs (clsS 2 0), defBody (clsS 2 0), defScope (clsS 2 0)⟩, ⟨"BadNumber", ["value"], defArgs (clsS 3 0), defBody (clsS 3 0), defScope (clsS 3 0)⟩, ⟨"NoInput", ["at"], defArgs (clsS 4 0), defBody (clsS 4 0), defScope (clsS 4 0)⟩]
def mdL : List He.DefD := []
def noaL : List (Str × Str) := []
abbrev GOk (P : Program) (K : PySem.W.Frag) (mg : Str → Option Value) : Prop := FactsE P exL defL freL intL strL tupL noaL mdL K mg
def looseL : List Str := (["RunError", "BadConditions", "BadNumber", "NoInput", "is_number", "is_within", "is_listed", "is_word_of", "MOST_CONDITIONS", "MOST_INPUTS", "is_item", "is_condition", "check_conditions", "number_of", "is_kept", "keeps", "told_numbers", "raised", "turn_of", "least_numbers"] : List Str) ++ (["numbers_for", "place_of_item", "edges_of", "ring_along", "found_ring", "ring_of", "ends_of", "is_pair_of_ring", "is_ring", "_law_pot", "_law_draw", "_law_pick", "_law_within", "_law_item", "_law_conditions", "_law_is_number", "_law_item_right", "_law_right", "_law_found"] : List Str)
abbrev Rr : PySem.W.OpenRow := PySem.W.OpenLaw.row PySem.Challenge.rw_symbolruns_k21_conditions_refused
def FA : List He.Fa := faE exL (faY defL freL intL strL tupL noaL mdL)
def FN : List He.DefD := defL ++ mdL
def EX : PySem.W.Frag → Bool := exE tupL Rr.prog EXL
abbrev hk : PySem.W.Hook := hookE 4 FA FN EX EXL
def ob (s : PySem.W.SharedT) : AlE := obsE 4 FA FN EX EXL (HandSHeadRun.getT s)
theorem ob_eq (s : PySem.W.SharedT) : ob s = hk.obs s.abs := obsE_eq (HandSHeadRun.getT_eq s)
section
open PySem.W
theorem runA (w : World) (os : OsState) : (HandSHeadRun.endF (HandSHeadRun.stepQ (HandSHeadRun.denQ HandSHeadRun.tabQ) Rr.prog w) 30000 Rr.prog w os).map (fun s => HandSHeadRun.looksF Rr.prog (PySem.W.boot_heap w.params) s.abs) = some (true) := by
  kernel_rfl
theorem runB (w : World) (os : OsState) : (HandSHeadRun.endF (HandSHeadRun.stepQ (HandSHeadRun.denQ HandSHeadRun.tabQ) Rr.prog w) 30000 Rr.prog w os).map (fun s => (HandSHeadRun.seenQ (PySem.W.view Rr.prog [43]) looseL (importedModules Rr.prog.main.body) (fun s => xlAt (PySem.W.view Rr.prog [43]) [] s && recOk Rr.toRowW.records s) s.abs, EX (frE 4 (HandSHeadRun.getT s)))) = some (openGood (PySem.W.view Rr.prog [43]) looseL, true) := by
  kernel_rfl
theorem runC (w : World) (os : OsState) : (HandSHeadRun.endF (HandSHeadRun.stepQ (HandSHeadRun.denQ HandSHeadRun.tabQ) Rr.prog w) 30000 Rr.prog w os).map (fun s => FA.all fun f => f.ok (frE 4 (HandSHeadRun.getT s))) = some (true) := by
  kernel_rfl
theorem runD (w : World) (os : OsState) : (HandSHeadRun.endF (HandSHeadRun.stepQ (HandSHeadRun.denQ HandSHeadRun.tabQ) Rr.prog w) 30000 Rr.prog w os).map (fun s => (FN.all fun d => d.ok (frE 4 (HandSHeadRun.getT s)), FN.map fun d => He.fnW (frE 4 (HandSHeadRun.getT s)) d.at_)) = some (true, FN.map He.DefD.val) := by
  kernel_rfl
theorem runE (w : World) (os : OsState) : (HandSHeadRun.endF (HandSHeadRun.stepQ (HandSHeadRun.denQ HandSHeadRun.tabQ) Rr.prog w) 30000 Rr.prog w os).map (fun s => EXL.map fun e => fnC (frE 4 (HandSHeadRun.getT s)) e.name) = some (EXL.map ExD.val) := by
  kernel_rfl
end
theorem exsOk : ExsOk Rr.prog EXL exL := fun K mg w base hv hg hs i x slf f e => by
  match i, e with
  | 0, rfl => exact ex1_of (e := ⟨"BadConditions", ["at"], defArgs (clsS 2 0), defBody (clsS 2 0), defScope (clsS 2 0)⟩) (p0 := ⟨7, 8, 7, 13⟩) (p1 := ⟨7, 8, 7, 15⟩) (p2 := ⟨7, 8, 7, 24⟩) (p3 := ⟨7, 8, 7, 28⟩) (p4 := ⟨7, 8, 7, 28⟩) (r1 := ⟨7, 25, 7, 27⟩) (q1 := (⟨8, 8, 8, 12⟩, ⟨8, 8, 8, 15⟩, ⟨8, 18, 8, 20⟩, ⟨8, 8, 8, 20⟩)) (hv _ (List.mem_of_getElem? (i := 0) rfl)).1 (hv _ (List.mem_of_getElem? (i := 0) rfl)).2 (hg _ (List.mem_of_getElem? (i := 0) rfl)) hs rfl (by kernel_rfl) ⟨_, rfl, rfl⟩ (by kernel_rfl) (NdefX.nscope_by (by kernel_rfl)) (by kernel_rfl) ⟨_, fun env => rfl⟩ (fun _ _ _ _ _ _ _ us hl => match us, hl with | [_, _], _ => rfl)
  | 1, rfl => exact ex1_of (e := ⟨"BadNumber", ["value"], defArgs (clsS 3 0), defBody (clsS 3 0), defScope (clsS 3 0)⟩) (p0 := ⟨12, 8, 12, 13⟩) (p1 := ⟨12, 8, 12, 15⟩) (p2 := ⟨12, 8, 12, 24⟩) (p3 := ⟨12, 8, 12, 31⟩) (p4 := ⟨12, 8, 12, 31⟩) (r1 := ⟨12, 25, 12, 30⟩) (q1 := (⟨13, 8, 13, 12⟩, ⟨13, 8, 13, 18⟩, ⟨13, 21, 13, 26⟩, ⟨13, 8, 13, 26⟩)) (hv _ (List.mem_of_getElem? (i := 1) rfl)).1 (hv _ (List.mem_of_getElem? (i := 1) rfl)).2 (hg _ (List.mem_of_getElem? (i := 1) rfl)) hs rfl (by kernel_rfl) ⟨_, rfl, rfl⟩ (by kernel_rfl) (NdefX.nscope_by (by kernel_rfl)) (by kernel_rfl) ⟨_, fun env => rfl⟩ (fun _ _ _ _ _ _ _ us hl => match us, hl with | [_, _], _ => rfl)
  | 2, rfl => exact ex1_of (e := ⟨"NoInput", ["at"], defArgs (clsS 4 0), defBody (clsS 4 0), defScope (clsS 4 0)⟩) (p0 := ⟨17, 8, 17, 13⟩) (p1 := ⟨17, 8, 17, 15⟩) (p2 := ⟨17, 8, 17, 24⟩) (p3 := ⟨17, 8, 17, 28⟩) (p4 := ⟨17, 8, 17, 28⟩) (r1 := ⟨17, 25, 17, 27⟩) (q1 := (⟨18, 8, 18, 12⟩, ⟨18, 8, 18, 15⟩, ⟨18, 18, 18, 20⟩, ⟨18, 8, 18, 20⟩)) (hv _ (List.mem_of_getElem? (i := 2) rfl)).1 (hv _ (List.mem_of_getElem? (i := 2) rfl)).2 (hg _ (List.mem_of_getElem? (i := 2) rfl)) hs rfl (by kernel_rfl) ⟨_, rfl, rfl⟩ (by kernel_rfl) (NdefX.nscope_by (by kernel_rfl)) (by kernel_rfl) ⟨_, fun env => rfl⟩ (fun _ _ _ _ _ _ _ us hl => match us, hl with | [_, _], _ => rfl)
  | n + 3, e => cases e
theorem run (w : World) : HandSHeadRun.RunEq Rr (PySem.W.view Rr.prog [43]) hk ob 30000 looseL w := fun os => map_pair (runA w os) (map_pair (map_l (runB w os)) (map_pair (map_pair (map_pair (map_both (runC w os) (map_l (runD w os))) (map_r (runD w os))) (map_r (runB w os))) (runE w os)))
end Lw
section
open PySem PySem.W PySem.Calls PyProof.Rows
theorem Lw.end0 {f : Sm.MF} (hlaw : ∀ (w : World) (K : PySem.W.Frag) (mg : PySem.Str → Option Value) (base : Heap), Lw.GOk (OpenLaw.row PySem.Challenge.rw_symbolruns_k21_conditions_refused).prog K mg → Sm.LTB K mg base → Sm.FnS (OpenLaw.row PySem.Challenge.rw_symbolruns_k21_conditions_refused).prog w K mg base 11 "law" ["script"] f)
    (hpure : ∀ (ns : List Int) (o : Sm.MO), ns.length ≤ 63 → (∀ z ∈ ns, Builtin.Int.intBits z ≤ 1048576) → Sm.lsAt [o] 0 = some (ns.map Sm.D.int) → ∃ h, f [.ref 0] [o] = .ok (.bl true) h) : PySem.Challenge.rw_symbolruns_k21_conditions_refused.Holds := by
  w_on; o_law
  refine HandSHeadRun.head_any (r := OpenLaw.row PySem.Challenge.rw_symbolruns_k21_conditions_refused) (q := view (OpenLaw.row PySem.Challenge.rw_symbolruns_k21_conditions_refused).prog [43]) (H := Lw.hk) (ob := Lw.ob) (M := 30000) (loose := Lw.looseL) (d := HandSHeadRun.topDef (OpenLaw.row PySem.Challenge.rw_symbolruns_k21_conditions_refused).prog 43) (kwd := []) Lw.ob_eq
    (by kernel_rfl) (fun s => by kernel_rfl) Lw.run (by kernel_rfl) (by kernel_rfl) (by kernel_rfl) (by rfl) (by first | assumption | decide +kernel) (by decide +kernel) ⟨rfl, rfl, rfl, rfl, rfl, by decide +kernel⟩ ?hw ?hc
  case hw => w_witness2
  case hc => exact Sm.law_endE (es := Lw.EXL) (exs := Lw.exL) (hh := 4) (n := 63) (k := 11) (x := "script") (fn := Lw.defL) (fre := Lw.freL) (cis := Lw.intL) (css := Lw.strL) (cts := Lw.tupL) (noats := Lw.noaL) (mds := Lw.mdL) rfl (by decide) (by kernel_rfl) ⟨by decide, by decide, by decide⟩ (by kernel_rfl) (by kernel_rfl) (by kernel_rfl) (by kernel_rfl) (by kernel_rfl) Lw.exsOk hlaw hpure
end
namespace Sm
open PySem PySem.Spec PyProof.Rows L2
end Sm
namespace L2
open PySem PySem.Spec PyProof.Rows
/-- a clause: its class, the slot of its name, what its suite reads -/
structure Cls1 where
  c : Value
  slot : Option Nat
  ts : Addr → Value → Option Addr → TS
/-- what holds behind a suite whose name is gone -/
def Ends.gone (D : Ends) (i : Nat) : Ends := ⟨fun σ' H' => D.nx (σ'.set i none) H', D.rt, fun σ' H' => D.bk (σ'.set i none) H', fun σ' H' => D.ct (σ'.set i none) H'⟩
def Cls1.go (k : Cls1) (D : Ends) (a : Addr) (cls : Value) (d : Option Addr) (σ : St) (H : Hp) : Prop := match k.slot with
  | none => k.ts a cls d D σ H
  | some i => k.ts a cls d (D.gone i) (σ.set i (some (.ref a))) H
def wMix (K : PySem.W.Frag) (Wout : WX) (D : Ends) : List Cls1 → WX
  | [] => Wout
  | k :: r => fun cls d σ H => ∃ b, PySem.W.exmOne K cls k.c = some b ∧ (b = true → ∀ a, H a = none → k.go D a cls d σ H) ∧ (b = false → wMix K Wout D r cls d σ H)
inductive HdMix (X : Cx) : List ExceptHandler → List Cls1 → Prop
  | nil : HdMix X [] []
  | bare {x : Str} {c : Value} {ts : Addr → Value → Option Addr → TS} {b₀ : Stmt} {suite : List Stmt} {np p' : Pos} {hds : List ExceptHandler} {l : List Cls1} (hc : Names X x c)
      (hsu : ∀ (a : Addr) (oe : Obj) (cls : Value) (d : Option Addr) (pn : List (Addr × Obj)), Zc cls d oe → (∃ vs, oe.data = .fields vs) → PSs (X.suite a ((a, oe) :: pn)) (b₀ :: suite) (ts a cls d))
      (r : HdMix X hds l) : HdMix X (.ExceptHandler (some (.Name x np)) none (b₀ :: suite) p' :: hds) (⟨c, none, ts⟩ :: l)
  | as_ {x n : Str} {i : Nat} {c : Value} {ts : Addr → Value → Option Addr → TS} {b₀ : Stmt} {suite : List Stmt} {np p' : Pos} {hds : List ExceptHandler} {l : List Cls1} (hc : Names X x c) (hi : X.N[i]? = some n) (hln : X.env.kindOf n = some .local)
      (hsu : ∀ (a : Addr) (oe : Obj) (cls : Value) (d : Option Addr) (pn : List (Addr × Obj)), Zc cls d oe → (∃ vs, oe.data = .fields vs) → PSs (X.suite a ((a, oe) :: pn)) (b₀ :: suite) (ts a cls d))
      (r : HdMix X hds l) : HdMix X (.ExceptHandler (some (.Name x np)) (some n) (b₀ :: suite) p' :: hds) (⟨c, some i, ts⟩ :: l)
section
variable {X : Cx} {body : List Stmt} {h₀ : ExceptHandler} {hds : List ExceptHandler} {l : List Cls1} {pos : Pos} {tb : WX → TS} {Wout : WX}
theorem ps_try_mix (hs : X.stack = X.env :: X.outer) (hf : X.env.frame = some X.env.locals) (hN : X.N.Nodup) (tk : Takes X Wout)
    (hb : ∀ (W : WX) (pn : List (Addr × Obj)) (xe : Value → Shared → Prop), Takes (X.tr pn xe) W → PassesOwn (model X.prog X.w) X.A X.env xe → PSs (X.tr pn xe) body (tb W))
    (hh : HdMix X (h₀ :: hds) l) : PS X (.Try body (h₀ :: hds) [] [] pos) (fun D σ H => tb (wMix X.K Wout D l) D σ H) := by
  refine ⟨fun pins s σ H D I h => ?_⟩
  have okI := I.ok
  have hfr : X.A.frames = some (X.env :: X.outer) := by
    have z := okI.frames
    rw [hs] at z
    exact z
  refine wpAny_Try_except (wpAny_mono ((hb (wMix X.K Wout D l) (X.pn ++ pins)
    (fun e s₁ => wpAny (model X.prog X.w) X.A (noteFrame e X.env)
      (fun _ s₂ => wpAny (model X.prog X.w) X.A (setFlight e none)
        (fun _ s₃ => wpAny (model X.prog X.w) X.A (handleBy e X.env (h₀ :: hds)) (SP X pins D) X.xe s₃) X.xe s₂) X.xe s₁)
    (fun u s' xx => ?_) PassesOwn.looking).run [] s σ H D (I.toTry _) h) (fun f s1 hsp => ?_) (fun e s1 he => he))
  · obtain ⟨a, B, sI, pins', σ', H', cls, d, rfl, J', nb, up, sky, na, os, ag, wm⟩ := xx
    have J : Inv X pins σ' H' sI := J'.ofTry okI
    have sky' := sky
    rw [show (X.tr _ _).stack = X.env :: X.outer from hs] at sky'
    refine Sky.land Zc.steady hfr hf sky' fun h3 fl3 up3 => ?_
    have up4 := up.trans up3
    have J3 : Inv X pins σ' H' { s' with heap := h3 } := J.landed nb fl3.1 up4 os ag
    obtain ⟨oe3, vs3, he3, hz3, hd3⟩ := fl3.there
    have nfr : a ∉ frs (X.env :: X.outer) := fun hm => by
      obtain ⟨_, o', e', hnf⟩ := fl3.2.2.1.mem hm
      rw [he3] at e'
      cases e'
      exact hnf _ hd3
    have nL : a ≠ X.env.locals := fun z => nfr (List.mem_filterMap.mpr ⟨X.env, List.mem_cons_self, hf.trans (congrArg some z.symm)⟩)
    have nF : a ∉ X.fs := fun hm => by
      obtain ⟨en, hen, q⟩ := List.mem_filterMap.mp hm
      exact nfr (List.mem_filterMap.mpr ⟨en, List.mem_cons_of_mem _ hen, q⟩)
    have S3 := J3.suite he3 hd3 na nL nF
    -- the class of a clause is looked up
    have test : ∀ {x : Str} {c : Value} {np : Pos} {Q E : Value → Shared → Prop}, Names X x c → Q c { s' with heap := h3 } →
        wpAny (model X.prog X.w) (X.A.mark (some (.ref a))) (eval (.Name x np) X.env) Q E { s' with heap := h3 } := fun {x c np Q E} hc q => by
      obtain ⟨hg, hdb, hm | ⟨hm, hv, hnn⟩⟩ := hc
      · exact ld_glob (X := X.suite a ((a, oe3) :: (X.pn ++ pins))) S3 hg hm q hdb
      · exact ld_blt (X := X.suite a ((a, oe3) :: (X.pn ++ pins))) S3 hg hm hv q hnn hdb
    have lk : PySem.W.Looks (model X.prog X.w) h3 (typeOf (.ref a)) cls := fun A Q E s k q =>
      wpAny_typeOf_ref (k _ _ he3) (by rw [hz3.1]; exact q)
    -- the suite begins
    have enter : ∀ {h4 : Heap}, HandSPX.FlyingZ B (X.env :: X.outer) a (Zc cls d) h4 → { s' with heap := h3 }.heap.UpToSlots h4 →
        ∃ oe4, Zc cls d oe4 ∧ (∃ vs, oe4.data = .fields vs) ∧ Inv (X.suite a ((a, oe4) :: (X.pn ++ pins))) [] σ' H' { s' with heap := h4 } := fun {h4} fl4 u4 => by
      have J4 : Inv X pins σ' H' { s' with heap := h4 } := J.landed nb fl4.1 (up4.trans u4) os ag
      obtain ⟨oe4, vs4, he4, hz4, hd4⟩ := fl4.there
      exact ⟨oe4, hz4, ⟨_, hd4⟩, J4.suite he4 hd4 na nL nF⟩
    have go : ∀ {hds' : List ExceptHandler} {l' : List Cls1}, HdMix X hds' l' → wMix X.K Wout D l' cls d σ' H' →
        wpAny (model X.prog X.w) X.A (handleBy (.ref a) X.env hds') (SP X pins D) X.xe { s' with heap := h3 } := by
      intro hds' l' hk
      induction hk with
      | nil =>
        intro wn
        refine wpAny_handleBy_nil ?_
        obtain ⟨_, _, _, oe, vs, T, _, _, he, hz, hd, h1, _⟩ := id fl3
        unfold PySem.passOn
        refine wpAny_bind (wpAny_field he hd h1 ?_)
        rw [if_neg (show ¬ ((Value.ref T == Value.none) = true) from by simp)]
        have out : wpAny (model X.prog X.w) X.A (setFlight (.ref a) X.env.frame)
            (fun _ s4 => wpAny (model X.prog X.w) X.A (throw (.ref a) : Sem Flow) (SP X pins D) X.xe s4) X.xe { s' with heap := h3 } := by
          rw [hf]
          exact HandSPX.setFlight_upZ fl3 fun h4 hh4 u4 => wpAny_throw (tk _ _
            ⟨a, B, sI, pins, σ', H', cls, d, rfl, J, nb, up4.trans u4, .inr (.inr (by rw [hs]; exact hh4)), na, os, ag, wn⟩)
        first
          | exact wpAny_bind (wpAny_pure (wpAny_bind out))
          | exact wpAny_bind out
      | @bare x c ts b₀ suite np p' hds2 l2 hc hsu r ih =>
        intro ⟨b, hb1, hyes, hno⟩
        refine wpAny_handleBy_cons (codeAny_handlers_test ?_) (by intro q; cases q)
        refine test hc ((PySem.W.exm_one (M := model X.prog X.w) J3.kIn lk hb1).here ?_)
        cases b with
        | false => exact ih (hno rfl)
        | true =>
          refine codeAny_handlers_suite (HandSPX.lands_againZ fl3 fun h4 fl4 u4 => ?_)
          obtain ⟨oe4, z4, d4, S4⟩ := enter fl4 u4
          refine wpAny_mono ((hsu a oe4 cls d _ z4 d4).run [] _ _ H' _ S4 (hyes rfl a na)) (fun f s6 hsp => ?_) (fun _ _ z => False.elim z)
          cases f with
          | ret u => exact let ⟨_, _, _, S6, r6, q6⟩ := hsp; ⟨_, _, _, S6.unsuite okI, r6, q6⟩
          | _ => exact let ⟨_, _, S6, q6⟩ := hsp; ⟨_, _, S6.unsuite okI, q6⟩
      | @as_ x n i c ts b₀ suite np p' hds2 l2 hc hi hln hsu r ih =>
        intro ⟨b, hb1, hyes, hno⟩
        refine wpAny_handleBy_cons (codeAny_handlers_test ?_) (by intro q; cases q)
        refine test hc ((PySem.W.exm_one (M := model X.prog X.w) J3.kIn lk hb1).here ?_)
        cases b with
        | false => exact ih (hno rfl)
        | true =>
          refine codeAny_handlers_suite_as (HandSPX.lands_againZ fl3 fun h4 fl4 u4 => ?_)
          obtain ⟨oe4, z4, d4, S4⟩ := enter fl4 u4
          refine store_ok (X := X.suite a ((a, oe4) :: (X.pn ++ pins))) (v := .ref a) S4 hN hi (.inl hln) rfl (fun s5 S5 => ?_) (.inr hln)
          refine wpAny_mono ((hsu a oe4 cls d _ z4 d4).run [] s5 _ H' _ S5 (hyes rfl a na)) (fun f s6 hsp => ?_) (fun _ _ z => False.elim z)
          have end_ : ∀ {σ6 : St} {H6 : Hp} {Q : Shared → Prop}, Inv (X.suite a ((a, oe4) :: (X.pn ++ pins))) [] σ6 H6 s6 →
              (∀ s7, Inv X pins (σ6.set i none) H6 s7 → Q s7) →
              wpAny (model X.prog X.w) X.A (do bindName X.env n .none; unbindBehindTheSuite X.env n p') (fun _ s7 => Q s7) X.xe s6 :=
            fun S6 hq => gone_ok (S6.unsuite okI) hN hi hln hq
          cases f with
          | ret u => exact let ⟨_, _, _, S6, r6, q6⟩ := hsp; end_ S6 fun s7 J7 => ⟨_, _, _, J7, r6, q6⟩
          | _ => exact let ⟨_, _, S6, q6⟩ := hsp; end_ S6 fun s7 J7 => ⟨_, _, J7, q6⟩
    exact go hh wm
  · cases f with
    | next => exact let ⟨_, _, J', q⟩ := hsp; wpAny_execs_nil ⟨_, _, J'.ofTry okI, q⟩
    | ret u => exact let ⟨_, _, _, J', r, q⟩ := hsp; ⟨_, _, _, J'.ofTry okI, r, q⟩
    | _ => exact let ⟨_, _, J', q⟩ := hsp; ⟨_, _, J'.ofTry okI, q⟩
end
end L2
namespace Sm
open PySem PySem.Spec PyProof.Rows L2
def reprD : D → Option D
  | .non => some (.str "None")
  | .bl b => some (.str (if b = true then "True" else "False"))
  | .int i => if i.natAbs.log2 < 1920 then some (.str (toString i)) else none
  | .str x => if (reprText x).length ≤ sizeLine then some (.str (reprText x)) else none
  | _ => none
def fRepr : MF := fun ds h => match ds with
  | [d] => match reprD d with
    | some e => .ok e h
    | none => .bad
  | _ => .bad
def reprV : V → Option V
  | .non => some (.str "None")
  | .bl b => some (.str (if b = true then "True" else "False"))
  | .int i => if i.natAbs.log2 < 1920 then some (.str (toString i)) else none
  | .str x => if (reprText x).length ≤ sizeLine then some (.str (reprText x)) else none
  | _ => none
def rRepr : List V → Hp → VK → Prop := fun xs H Q => ∃ x y, xs = [x] ∧ reprV x = some y ∧ Q y H
theorem c_repr {X : Cx} : CallR X (.builtin "repr") rRepr := by
  intro pins s σ H xs us Q I r ⟨x, y, e, ey, q⟩
  subst e
  obtain ⟨u, rfl, ru⟩ := vals1 r
  cases x with
  | non =>
    cases ey
    obtain rfl : u = Value.none := ru
    exact PySem.P.repr_of_none ⟨.str _, H, I.tok _, ⟨_, rfl⟩, q⟩
  | bl b =>
    cases ey
    obtain rfl : u = Value.bool b := ru
    exact PySem.P.repr_of_bool ⟨.str _, H, I.tok _, by cases b <;> exact ⟨_, rfl⟩, q⟩
  | int i =>
    obtain ⟨t, rfl⟩ := ru
    have ey : (if i.natAbs.log2 < 1920 then some (V.str (toString i)) else none) = some y := ey
    split at ey
    · rename_i hz
      cases ey
      exact PySem.P.repr_of_int hz ⟨.str _, H, I.tok _, ⟨_, rfl⟩, q⟩
    · cases ey
  | str z =>
    obtain ⟨t, rfl⟩ := ru
    have ey : (if (reprText z).length ≤ sizeLine then some (V.str (reprText z)) else none) = some y := ey
    split at ey
    · rename_i hz
      cases ey
      exact PySem.P.repr_of_str ⟨.str _, H, I.tok _, ⟨_, rfl⟩, q⟩ hz
    · cases ey
  | _ => cases ey
theorem reprD_V {K : PySem.W.Frag} {mg : NW} {H : Hp} {r : List Addr} {d e : D} {x : V} (h : reprD d = some e) (q : RV K mg H r d x) : ∃ y, reprV x = some y ∧ ∀ H' r', RV K mg H' r' e y := by
  cases q with
  | non => cases h; exact ⟨_, rfl, fun _ _ => .str _⟩
  | bl b => cases h; exact ⟨_, rfl, fun _ _ => .str _⟩
  | int i =>
    have h : (if i.natAbs.log2 < 1920 then some (D.str (toString i)) else none) = some e := h
    split at h
    · rename_i hz; cases h; exact ⟨.str (toString i), (if_pos hz : (if i.natAbs.log2 < 1920 then some (V.str (toString i)) else none) = _), fun _ _ => .str _⟩
    · cases h
  | str z =>
    have h : (if (reprText z).length ≤ sizeLine then some (D.str (reprText z)) else none) = some e := h
    split at h
    · rename_i hz; cases h; exact ⟨.str (reprText z), (if_pos hz : (if (reprText z).length ≤ sizeLine then some (V.str (reprText z)) else none) = _), fun _ _ => .str _⟩
    · cases h
  | _ => cases h
theorem fRepr_ok {K : PySem.W.Frag} {mg : NW} : OpC K mg rRepr fRepr := by
  intro W r H mh σ ds vs Q rh q p
  unfold fRepr at p
  split at p
  · obtain ⟨v, rfl, rv⟩ := q.one
    split at p
    · rename_i e he
      obtain ⟨y, e1, e2⟩ := reprD_V he rv
      exact ⟨v, y, rfl, e1, p r H y .refl rh (e2 H r)⟩
    · exact p.elim
  · exact p.elim
/-- the clauses of a try: the class, what the suite makes of the things that the exception keeps -/
structure MHd where
  c : Str
  m : List (Str × D) → MSt
def hdl (c : Str) (fs : List (Str × D)) : List MHd → MSt
  | [] => fun ms h => .exc c fs ms h
  | k :: r => if c = k.c then k.m fs else hdl c fs r
/-- kn: the classes of which it is known which clause takes them -/
def mTry (kn : List Str) (b : MSt) (hs : List MHd) : MSt := fun ms h => match b ms h with
  | .exc c fs ms1 h1 => if c ∈ kn then hdl c fs hs ms1 h1 else .bad
  | o => o
abbrev XG := List (Str × D) → MH → Option D
/-- .. as C as e: return g(e) -/
def hRet (i : Nat) (g : XG) : List (Str × D) → MSt := fun fs ms h => if i < ms.length then match g fs h with
    | some d => .rt d h
    | none => .bad
  else .bad
section
variable (X : Cx) (i : Nat) (a : Addr) (cls : Value) (d : Option Addr) (k : Str)
def XAt (fs : List (Str × D)) (r : List Addr) (mh : MH) (σ : L2.St) (H : Hp) : Prop := RH X.K X.gw r mh H ∧ RX X.K X.gw H r k fs cls d ∧ σ[i]? = some (some (.ref a))
/-- e reads what is caught: g -/
def SXp (e : Expr) (g : XG) : Prop := PE X e fun σ H Q => ∃ fs r mh, XAt X i a cls d k fs r mh σ H ∧ ∃ dv, g fs mh = some dv ∧ ∀ v, RV X.K X.gw H r dv v → Q v H
def SXa (es : List Expr) (g : List (Str × D) → MH → Option (List D)) : Prop := PA X es fun σ H Q => ∃ fs r mh, XAt X i a cls d k fs r mh σ H ∧ ∃ ds, g fs mh = some ds ∧ ∀ vs, RVs X.K X.gw H r ds vs → Q vs H
/-- e makes something new of it -/
def SXv (e : Expr) (g : XG) : Prop := PE X e fun σ H Q => ∃ fs r mh, XAt X i a cls d k fs r mh σ H ∧ ∃ dv, g fs mh = some dv ∧ ∀ r' H' v, Stp r H r' H' → RH X.K X.gw r' mh H' → RV X.K X.gw H' r' dv v → Q v H'
end
def xC (d : D) : XG := fun _ _ => some d
def xF (f : Str) : XG := fun fs _ => fs.lookup f
def xR (g : XG) : XG := fun fs mh => (g fs mh).bind reprD
def xNil : List (Str × D) → MH → Option (List D) := fun _ _ => some []
def xCons (g : XG) (gs : List (Str × D) → MH → Option (List D)) : List (Str × D) → MH → Option (List D) := fun fs mh => (g fs mh).bind fun d => (gs fs mh).bind fun ds => some (d :: ds)
def xTup (gs : List (Str × D) → MH → Option (List D)) : XG := fun fs mh => (gs fs mh).bind fun ds => if ds.length ≤ sizeLine then some (.tup ds) else none
section
variable {X : Cx} {i : Nat} {a : Addr} {cls : Value} {d : Option Addr} {k f n : Str} {e : Expr} {es : List Expr} {g : XG} {gs : List (Str × D) → MH → Option (List D)} {pos p p1 : Pos}
theorem x_str {x j} : SXp X i a cls d k (.Constant (.str x) j pos) (xC (.str x)) := peImp pe_str fun _ _ _ ⟨_, _, _, _, dv, e, q⟩ => by cases e; exact q _ (.str x)
theorem xa_nil : SXa X i a cls d k [] xNil := paImp pa_nil fun _ _ _ ⟨_, _, _, _, dv, e, q⟩ => by cases e; exact q _ .nil
theorem xa_cons (h : SXp X i a cls d k e g) (hs : SXa X i a cls d k es gs) (hst : starEach (e :: es) X.env = (false, eval e X.env) :: starEach es X.env := by kernel_rfl) : SXa X i a cls d k (e :: es) (xCons g gs) := by
  refine paImp (pa_cons h hs hst) fun σ H Q ⟨fs, r, mh, at_, ds, ed, q⟩ => ?_
  unfold xCons at ed
  cases e1 : g fs mh with
  | none => rw [e1] at ed; cases ed
  | some d1 =>
    cases e2 : gs fs mh with
    | none => rw [e1, e2] at ed; cases ed
    | some ds1 =>
      rw [e1, e2] at ed
      cases ed
      exact ⟨fs, r, mh, at_, d1, e1, fun v rv => ⟨fs, r, mh, at_, ds1, e2, fun vs rvs => q _ (.cons rv rvs)⟩⟩
theorem xv_tup {x1} (h : SXa X i a cls d k es gs) : SXv X i a cls d k (.Tuple es x1 pos) (xTup gs) := by
  refine peImp (pe_tupN h) fun σ H Q ⟨fs, r, mh, at_, dv, ed, q⟩ => ?_
  unfold xTup at ed
  cases e1 : gs fs mh with
  | none => rw [e1] at ed; cases ed
  | some ds =>
    rw [e1] at ed
    change (if ds.length ≤ sizeLine then some (D.tup ds) else none) = _ at ed
    split at ed
    · rename_i hz
      cases ed
      refine ⟨fs, r, mh, at_, ds, e1, fun vs rvs => ⟨by rw [← rvs.len]; exact hz, fun q1 o hq ho => ?_⟩⟩
      exact q r _ (.ref q1) (stp_new hq) (at_.1.other hq) (rv_newT hq ho rvs)
    · cases ed
end
section
variable {X : Cx} {i j : Nat} {a : Addr} {cls : Value} {d : Option Addr} {k f n : Str} {oe : Obj} {pn : List (Addr × Obj)} {e : Expr} {g : XG} {pos p p1 : Pos}
theorem x_fld (E : XfOk X.K X.mg k f) (hi : X.N[i]? = some n) (hz : Zc cls d oe) (hf : ∃ vs, oe.data = .fields vs) (hln : X.env.kindOf n = some .local := by kernel_rfl) (hnd : (n == ("__debug__" : Str)) = false := by kernel_rfl) (hnc : (n == ("__classdict__" : Str)) = false := by kernel_rfl) :
    SXp (X.suite a ((a, oe) :: pn)) i a cls d k (.Attribute (.Name n p) f p1) (xF f) := by
  obtain ⟨C, hm, _, T, hno⟩ := E.at_
  refine peImp (pe_xf (pn := pn) T hno hz hf (pe_var (X := X.suite a ((a, oe) :: pn)) hi (.inl hln) hnd hnc)) fun σ H Q ⟨fs, r, mh, ⟨rh, rx, hs⟩, dv, ed, q⟩ => ?_
  obtain ⟨C', hC', ecl, hk⟩ := rx
  obtain rfl : C' = C := by
    have z := hC'.symm.trans hm
    cases z; rfl
  have ed : fs.lookup f = some dv := ed
  rcases hk with ⟨rfl, _⟩ | ⟨dd, vs, edd, hd, rf⟩
  · cases ed
  · obtain ⟨v, ev, rv⟩ := rf_look rf ed
    exact ⟨.ref a, hs, rfl, ecl, dd, vs, v, edd, hd, ev, q v rv⟩
end
/-- all clauses -/
structure HdsM (X : Cx) (kn : List Str) (hds : List ExceptHandler) (hs : List MHd) : Prop where
  ex : ∃ l : List Cls1, HdMix X hds l ∧ ∀ (W : WX) (D0 : Ends) (cls : Value) (d : Option Addr) (σ : L2.St) (H : Hp) (c : Str) (fs : List (Str × D)) (r : List Addr) (ms : MS) (mh : MH), c ∈ kn → RS X.K X.gw H r ms σ → RH X.K X.gw r mh H → RX X.K X.gw H r c fs cls d → SPost X.K X.gw W r H (hdl c fs hs ms mh) D0 → wMix X.K W D0 l cls d σ H
section
variable {X : Cx} {i j : Nat} {a : Addr} {cls : Value} {d : Option Addr} {k f n : Str} {e : Expr} {g : XG} {pos p p1 : Pos}
theorem x_repr (hm : X.mg "repr" = none) (h : SXp X i a cls d k e g) (hg : X.env.kindOf "repr" = some .globalImplicit := by kernel_rfl) (hv : bootBuiltins "repr" = some (.builtin "repr") := by decide +kernel) (he : starEach [e] X.env = (false, eval e X.env) :: starEach [] X.env := by kernel_rfl) :
    SXp X i a cls d k (.Call (.Name "repr" p) [e] [] pos) (xR g) := by
  refine peImp (pe_callB c_repr hg hm hv (pa_cons h pa_nil he) (neq_of (by kernel_rfl)) (by kernel_rfl) he (by kernel_rfl)) fun σ H Q ⟨fs, r, mh, at_, dv, ed, q⟩ => ?_
  unfold xR at ed
  cases e1 : g fs mh with
  | none => rw [e1] at ed; cases ed
  | some d1 =>
    rw [e1] at ed
    refine ⟨fs, r, mh, at_, d1, e1, fun v rv => ?_⟩
    obtain ⟨y, z1, z2⟩ := reprD_V ed rv
    exact ⟨v, y, rfl, z1, q y (z2 H r)⟩
end
/-- the class of what is thrown is one that a clause names, or the next clause is asked -/
theorem hm_nil {X : Cx} {kn : List Str} : HdsM X kn [] [] := ⟨[], .nil, fun W D cls d σ H c fs r ms mh _ rs rh rx p => p r H σ cls d .refl rh rs rx⟩
section
variable {X : Cx} {kn : List Str} {hds : List ExceptHandler} {hs : List MHd} {k n x : Str} {i j : Nat} {g : XG} {e : Expr} {b₀ : Stmt} {suite : List Stmt} {m : MSt} {pos p np tp : Pos}
theorem exm_at (E : ExmOk X.K X.mg kn k) {C : Addr} (hC : X.mg k = some (.ref C)) {H : Hp} {r : List Addr} {c : Str} {fs : List (Str × D)} {cls : Value} {d : Option Addr} (hc : c ∈ kn) (rx : RX X.K X.gw H r c fs cls d) : PySem.W.exmOne X.K cls (.ref C) = some (decide (c = k)) := by
  obtain ⟨C0, h0, hx⟩ := E.ex
  cases h0.symm.trans hC
  obtain ⟨C1, h1, h2⟩ := hx c hc
  obtain ⟨C2, h3, rfl, _⟩ := rx
  cases h3.symm.trans h1
  exact h2
/-- one clause more -/
theorem hm_step {l : List Cls1} {ts : Addr → Value → Option Addr → TS} {C : Addr} {slot : Option Nat} {mk : List (Str × D) → MSt} (E : ExmOk X.K X.mg kn k) (hC : X.mg k = some (.ref C))
    (one : ∀ (W : WX) (D0 : Ends) (a : Addr) (cls : Value) (d : Option Addr) (σ : L2.St) (H : Hp) (fs : List (Str × D)) (r : List Addr) (ms : MS) (mh : MH), RS X.K X.gw H r ms σ → RH X.K X.gw r mh H → RX X.K X.gw H r k fs cls d → SPost X.K X.gw W r H (mk fs ms mh) D0 → (Cls1.mk (.ref C) slot ts).go D0 a cls d σ H)
    (rest : ∀ (W : WX) (D0 : Ends) (cls : Value) (d : Option Addr) (σ : L2.St) (H : Hp) (c : Str) (fs : List (Str × D)) (r : List Addr) (ms : MS) (mh : MH), c ∈ kn → RS X.K X.gw H r ms σ → RH X.K X.gw r mh H → RX X.K X.gw H r c fs cls d → SPost X.K X.gw W r H (hdl c fs hs ms mh) D0 → wMix X.K W D0 l cls d σ H) :
    ∀ (W : WX) (D0 : Ends) (cls : Value) (d : Option Addr) (σ : L2.St) (H : Hp) (c : Str) (fs : List (Str × D)) (r : List Addr) (ms : MS) (mh : MH), c ∈ kn → RS X.K X.gw H r ms σ → RH X.K X.gw r mh H → RX X.K X.gw H r c fs cls d → SPost X.K X.gw W r H (hdl c fs (⟨k, mk⟩ :: hs) ms mh) D0 → wMix X.K W D0 (⟨.ref C, slot, ts⟩ :: l) cls d σ H := by
  intro W D0 cls d σ H c fs r ms mh hc rs rh rx p
  refine ⟨_, exm_at E hC hc rx, fun e a ha => ?_, fun e => ?_⟩
  · obtain rfl : c = k := of_decide_eq_true e
    rw [show hdl c fs (⟨c, mk⟩ :: hs) = mk fs from if_pos rfl] at p
    exact one W D0 a cls d σ H fs r ms mh rs rh rx p
  · have hne : ¬ c = k := of_decide_eq_false e
    rw [show hdl c fs (⟨k, mk⟩ :: hs) = hdl c fs hs from if_neg hne] at p
    exact rest W D0 cls d σ H c fs r ms mh hc rs rh rx p
theorem hm_ret (E : ExmOk X.K X.mg kn k) (hi : X.N[i]? = some n) (h : ∀ (a : Addr) (oe : Obj) (cls : Value) (d : Option Addr) (pn : List (Addr × Obj)), Zc cls d oe → (∃ vs, oe.data = .fields vs) → SXv (X.suite a ((a, oe) :: pn)) i a cls d k e g)
    (rest : HdsM X kn hds hs) (hgl : X.env.kindOf k = some .globalImplicit := by kernel_rfl) (hdb : (k == ("__debug__" : Str)) = false := by kernel_rfl) (hln : X.env.kindOf n = some .local := by kernel_rfl) :
    HdsM X kn (.ExceptHandler (some (.Name k np)) (some n) [.Return (some e) p] tp :: hds) (⟨k, hRet i g⟩ :: hs) := by
  obtain ⟨C, hC, _⟩ := id E.ex
  obtain ⟨l, hl, hw⟩ := rest.ex
  refine ⟨_, .as_ (ts := fun a cls d => tRet fun σ H Q => ∃ fs r mh, XAt X i a cls d k fs r mh σ H ∧ ∃ dv, g fs mh = some dv ∧ ∀ r' H' v, Stp r H r' H' → RH X.K X.gw r' mh H' → RV X.K X.gw H' r' dv v → Q v H') ⟨hgl, hdb, .inl hC⟩ hi hln (fun a oe cls d pn hz hd => pss_one (ps_ret (h a oe cls d pn hz hd))) hl, hm_step E hC (fun W D0 a cls d σ H fs r ms mh rs rh rx p => ?_) hw⟩
  unfold hRet at p
  split at p
  · rename_i hlt
    split at p
    · rename_i dv ed
      have hl2 : i < σ.length := by rw [← rs.1]; exact hlt
      exact ⟨fs, r, mh, ⟨rh, rx, by rw [List.getElem?_set_self hl2]⟩, dv, ed, fun r' H' v st rh' rv => p r' H' v st rh' rv⟩
    · exact p.elim
  · exact p.elim
end
end Sm
namespace Sm
open PySem PySem.Spec PyProof.Rows L2 LamX
/-- what the thunk does to the heap -/
abbrev WK := MH → Out D
def mThunk (F : WK → WK) (me : ME) : ME := fun ms h => F (fun h' => me ms h') h
def mThk (nn : Nat) (b : WK → MSt) (wk : WK) : WK := fun h => (b wk (List.replicate nn none) h).fin
def wExpr (wk : WK) : MSt := fun ms h => (wk h).toS ms fun _ h1 => .nx ms h1
section
variable (Z : Cx) (σ0 : L2.St) (H0 : Hp) (r0 : List Addr) (mh0 : MH)
/-- e, read at the beginning, does what the thunk does -/
def SE0 (W : WX) (e : Expr) (wk : WK) : Prop := PE Z e fun σ H Q => σ = σ0 ∧ H = H0 ∧ Post Z.K Z.gw W (RV Z.K Z.gw) r0 H0 σ0 (wk mh0) Q
def SS0 (W : WX) (st : Stmt) (m : MSt) : Prop := PS Z st fun D σ H => σ = σ0 ∧ H = H0 ∧ ∃ ms, RS Z.K Z.gw H0 r0 ms σ0 ∧ SPost Z.K Z.gw W r0 H0 (m ms mh0) D
def SSs0 (W : WX) (st : List Stmt) (m : MSt) : Prop := PSs Z st fun D σ H => σ = σ0 ∧ H = H0 ∧ ∃ ms, RS Z.K Z.gw H0 r0 ms σ0 ∧ SPost Z.K Z.gw W r0 H0 (m ms mh0) D
end
section
variable {Z : Cx} {W : WX} {σ0 : L2.St} {H0 : Hp} {r0 : List Addr} {mh0 : MH} {e : Expr} {wk : WK} {st : Stmt} {sts : List Stmt} {m m2 : MSt} {pos : Pos} {x : Str} {j : Nat}
theorem w_expr (h : SE0 Z σ0 H0 r0 mh0 W e wk) (hs : swapsWith e none pos.line Z.env = pure false := by kernel_rfl) : SS0 Z σ0 H0 r0 mh0 W (.Expr e pos) (wExpr wk) :=
  psImp (ps_expr h hs) fun D σ H ⟨e1, e2, ms, rs, p⟩ => ⟨e1, e2, p.ofS rs fun d h1 r1 H1 v st1 rh1 rv1 p1 => p1 r1 H1 σ .refl rh1 (by rw [e1]; exact rs.mono st1)⟩
theorem ws0_cons (h : SS0 Z σ0 H0 r0 mh0 W st m) (h2 : SSs Z W sts m2) (rh : RH Z.K Z.gw r0 mh0 H0) : SSs0 Z σ0 H0 r0 mh0 W (st :: sts) (mSeq m m2) := by
  refine pssImp (pss_cons h h2) fun D σ H ⟨e1, e2, ms, rs, p⟩ => ⟨e1, e2, ms, rs, ?_⟩
  unfold mSeq at p
  cases em : m ms mh0 with
  | nx s h1 => rw [em] at p; exact fun r' H' σ' st rh' rs' => ⟨r', s, h1, rs', rh', p.stp st⟩
  | bk s h1 => rw [em] at p; exact p
  | ct s h1 => rw [em] at p; exact p
  | rt s h1 => rw [em] at p; exact p
  | exc c fs s h1 => rw [em] at p; exact p
  | bad => rw [em] at p; exact p
theorem ws0_one (h : SS0 Z σ0 H0 r0 mh0 W st m) : SSs0 Z σ0 H0 r0 mh0 W [st] m := pss_one h
end
section
variable {Z : Cx} {W : WX} {σ0 : L2.St} {H0 : Hp} {r0 : List Addr} {mh0 : MH} {e : Expr} {wk : WK} {h₀ : ExceptHandler} {hds : List ExceptHandler} {hs : List MHd} {kn : List Str} {body : List Stmt} {m : MSt} {pos p p1 : Pos} {x : Str} {j : Nat}
theorem w_try (hN : Z.N.Nodup) (tk : Takes Z W) (rh : RH Z.K Z.gw r0 mh0 H0)
    (hb : ∀ (W' : WX) (pn : List (Addr × Obj)) (xe : Value → Shared → Prop), Takes (Z.tr pn xe) W' → SSs0 (Z.tr pn xe) σ0 H0 r0 mh0 W' body m)
    (hh : HdsM Z kn (h₀ :: hds) hs) (hs1 : Z.stack = Z.env :: Z.outer := by rfl) (hf : Z.env.frame = some Z.env.locals := by rfl) :
    SS0 Z σ0 H0 r0 mh0 W (.Try body (h₀ :: hds) [] [] pos) (mTry kn m hs) := by
  obtain ⟨l, hl, hw⟩ := hh.ex
  refine psImp (ps_try_mix (tb := fun W' D σ H => σ = σ0 ∧ H = H0 ∧ ∃ ms, RS Z.K Z.gw H0 r0 ms σ0 ∧ SPost Z.K Z.gw W' r0 H0 (m ms mh0) D) (Wout := W) hs1 hf hN tk (fun W' pn xe tk' _ => hb W' pn xe tk') hl) fun D0 σ H ⟨e1, e2, ms, rs, q⟩ => ?_
  refine ⟨e1, e2, ms, rs, ?_⟩
  unfold mTry at q
  cases e : m ms mh0 with
  | nx s h1 => rw [e] at q; exact q
  | bk s h1 => rw [e] at q; exact q
  | ct s h1 => rw [e] at q; exact q
  | rt s h1 => rw [e] at q; exact q
  | bad => rw [e] at q; exact q
  | exc c fs ms1 h1 =>
    rw [e] at q
    have q : SPost Z.K Z.gw W r0 H0 (if c ∈ kn then hdl c fs hs ms1 h1 else .bad) D0 := q
    split at q
    · rename_i hc
      intro r' H' σ' cv dx st rh' rs' rx
      exact hw W D0 cv dx σ' H' c fs r' ms1 h1 hc rs' rh' rx (q.stp st)
    · exact q.elim
end
/-- the context of such a def at f -/
abbrev ZX (P : Program) (w : World) (K : PySem.W.Frag) (mg : Str → Option Value) (base : Heap) (N : List Str) (qual : Str) (sc : Scope) (fa : Addr) (cdv : Value) (A : Around) (outer : List Env) (s : Shared) (H : Hp) (E : XK) : Cx :=
  cxOf (L2.CX P w) P w K mg base N qual sc fa cdv A outer s H E
/-- a() is the thunk -/
def Act (Z : Cx) (a : Str) (σ0 : L2.St) (H0 : Hp) (r0 : List Addr) (mh0 : MH) (wk : WK) : Prop :=
  ∀ (W : WX) (pn : List (Addr × Obj)) (xe : Value → Shared → Prop) (p1 p2 : Pos), Takes (Z.tr pn xe) W → SE0 (Z.tr pn xe) σ0 H0 r0 mh0 W (.Call (.Name a p1) [] [] p2) wk
/-- the def x of one parameter a has the mirror F -/
def FnT (P : Program) (w : World) (K : PySem.W.Frag) (mg : Str → Option Value) (base : Heap) (k : Nat) (x a : Str) (N : List Str) (sc : Scope) (F : WK → WK) : Prop :=
  ∃ (fa : Addr) (qual : Str) (cdv : Value), mg x = some (.ref fa) ∧ PySem.W.keepIn K (.ref fa) = true ∧ FnScope N [a] sc ∧
    ∀ (A : Around) (outer : List Env) (s : Shared) (H : Hp) (E : XK) (f : Addr) (r : List Addr) (mh : MH) (wk : WK) (Q : VK), Room (k + 1) A → Env0 P w K mg base A outer s H → RH K ⟨mg, w⟩ r mh H →
      (Room k (A.deeper (envOfC qual sc s.heap.objs.size fa cdv)) → Act (ZX P w K mg base N qual sc fa cdv A outer s H E) a (L2.start N [.ref f]) H r mh wk) →
      Post K ⟨mg, w⟩ (fun c d _ H => E c d H) (RV K ⟨mg, w⟩) r H [] (F wk mh) Q → codeAny (model P w) A (.call (.ref fa) ⟨[.ref f], []⟩) (CR (L2.CX P w) outer P w H s Q E) s
theorem FnT.mono {P : Program} {w : World} {K : PySem.W.Frag} {mg : Str → Option Value} {base : Heap} {j k : Nat} {x a : Str} {N : List Str} {sc : Scope} {F : WK → WK} (T : FnT P w K mg base j x a N sc F) (h : j ≤ k) : FnT P w K mg base k x a N sc F := by
  obtain ⟨fa, qual, cdv, h1, h2, h3, h4⟩ := T
  refine ⟨fa, qual, cdv, h1, h2, h3, fun A outer s H E f r mh wk Q hr e0 rh act p => h4 A outer s H E f r mh wk Q (hr.mono (by omega)) e0 rh (fun hr' => act ?_) p⟩
  exact Room.deeper hr _
section
variable {P : Program} {w : World} {K : PySem.W.Frag} {mg : Str → Option Value} {base : Heap} {nm x qual a : Str} {st : Stmt} {fa : Addr} {fd : FuncData} {N : List Str} {k : Nat} {b : WK → MSt}
theorem fnT_ok (F : FunD K x qual (defArgs st) (defBody st) (defScope st) [] [] fa fd) (g : mg nm = some (.ref fa)) (S : FnScope N [a] (defScope st)) (hn : 1 ≤ N.length)
    (hbind : ∀ (kV doc pm : Value) (an : Option Addr) (cdv ct : Value) (us : List Value), us.length = 1 → bindArgs (PySem.W.fnOf x qual (defArgs st) (defBody st) (defScope st) .none kV doc pm an cdv ct) ⟨us, []⟩ = pure ([a].zip us))
    (hb : ∀ (cdv : Value) (A : Around) (outer : List Env) (s : Shared) (H : Hp) (E : XK) (σ0 : L2.St) (r : List Addr) (mh : MH) (wk : WK), RH K ⟨mg, w⟩ r mh H →
      Room k (A.deeper (envOfC qual (defScope st) s.heap.objs.size fa cdv)) →
      Takes (ZX P w K mg base N qual (defScope st) fa cdv A outer s H E) (fun c d _ H => E c d H) →
      Act (ZX P w K mg base N qual (defScope st) fa cdv A outer s H E) a σ0 H r mh wk →
      SSs0 (ZX P w K mg base N qual (defScope st) fa cdv A outer s H E) σ0 H r mh (fun c d _ H => E c d H) (defBody st) (b wk)) :
    FnT P w K mg base k nm a N (defScope st) (mThk N.length b) := by
  have bb := F.bindsA (ps := [a]) hbind
  have kp := F.kp
  obtain ⟨oc, od, dV, kV, doc, pm, an, cdv, ct, osl, rfl, lk, hcd, _, _⟩ := F.ex
  refine ⟨fa, qual, cdv, g, kp, S, fun A outer s H E f r mh wk Q hr e0 rh act p => ?_⟩
  refine LamX.run_ofS lk hcd S hr e0 (bb s [.ref f] rfl) (us := [.ref f]) (vs := [.ref f]) (.cons rfl .nil) rfl fun hr' => ?_
  refine ⟨_, hb cdv A outer s H E (L2.start N [.ref f]) r mh wk rh hr' (takes_of rfl rfl rfl rfl) (act hr'), rfl, rfl, List.replicate N.length none, ?_, ?_⟩
  · refine ⟨by simp [L2.start]; omega, fun i d e => ?_⟩
    rw [List.getElem?_replicate] at e
    split at e <;> cases e
  · unfold mThk at p
    cases eb : b wk (List.replicate N.length none) mh with
    | nx ms h => rw [eb] at p; exact fun r' H' σ' st rh' _ => p r' H' .non st rh' .non
    | rt d h => rw [eb] at p; exact p
    | exc c fs ms h => rw [eb] at p; exact fun r' H' σ' cv dx st rh' _ rx => p r' H' cv dx st rh' rx
    | bk _ _ => rw [eb] at p; exact p.elim
    | ct _ _ => rw [eb] at p; exact p.elim
    | bad => rw [eb] at p; exact p.elim
end
end Sm
namespace Sm
open PySem PySem.Spec PyProof.Rows L2 LamX
section
variable {X : Cx} {pins : List (Addr × Obj)} {σ : L2.St} {H : Hp} {s : Shared} {r : List Addr} {ms : MS} {mh : MH} {me : ME} {E : XK}
/-- the thunk's body, wherever it is called -/
def LamB (X : Cx) (k : Nat) (scope : Scope) (body : Expr) (me : ME) : Prop :=
  ∀ (A : Around) (outer : List Env) (s : Shared) (H : Hp) (E : XK) (f c' : Addr), Room k (A.deeper (lamEnv X scope s.heap.objs.size f c')) →
    Takes (lamCx X A outer s H E scope f c') (fun c d _ H => E c d H) → SE (lamCx X A outer s H E scope f c') (fun c d _ H => E c d H) body me
theorem w_act {N : List Str} {qual a : Str} {sc scope : Scope} {fa f c' : Addr} {cdv pm ctv : Value} {params : Arguments} {body : Expr} {k : Nat} (I : Inv X pins σ H s) (L : LamS X.env.scope scope)
    (hf : s.heap.get? f = some (PySem.W.kla_obj "<lambda>" (X.env.qual ++ "<lambda>") params body scope (cloFrom X.env.cells scope.names []) pm c' ctv)) (hfn : H f = none) (hfr : f ∉ frs X.stack) (hco : H c' = some (CodeO c' (X.env.qual ++ "<lambda>")))
    (hbind : bindArgs (PySem.W.kla_fn "<lambda>" (X.env.qual ++ "<lambda>") params body scope (cloFrom X.env.cells scope.names []) pm (.ref c') ctv) ⟨[], []⟩ = pure [])
    (rs : RS X.K X.gw H r ms σ) (rh : RH X.K X.gw r mh H) (hbody : LamB X k scope body me) (S : FnScope N [a] sc)
    (hr : Room (k + 1) (X.A.deeper (envOfC qual sc s.heap.objs.size fa cdv))) (hd : (a == ("__debug__" : Str)) = false := by kernel_rfl) (hcd : (a == ("__classdict__" : Str)) = false := by kernel_rfl) :
    Act (ZX X.prog X.w X.K X.mg X.base N qual sc fa cdv X.A X.stack s H E) a (L2.start N [.ref f]) H r mh (fun h => me ms h) := by
  intro W pn xe p1 p2 tk
  refine ⟨fun pinsZ sZ σZ HZ Q IZ ⟨eσ, eH, hp⟩ => ?_⟩
  subst eσ eH
  have hN : N[0]? = some a := by
    have e := S.pre
    cases N with
    | nil => cases e
    | cons b N => simp at e; rw [e]; rfl
  have hv : Vis sc a := (S.par a (by simp)).elim .inl fun z => .inr (.inl z)
  have h0 : (L2.start N [V.ref f])[0]? = some (some (V.ref f)) := rfl
  refine wpAny_Call_Name_kw (thn ((pe_var (pos := p1) (i := 0) hN hv hd hcd).run pinsZ sZ _ HZ (fun v H1 => v = .ref f ∧ H1 = HZ) IZ ⟨.ref f, h0, rfl, rfl⟩) fun u s1 ⟨v, H1, I1, r1, ev, eH⟩ => ?_)
  subst ev
  rw [eH] at I1
  obtain rfl : u = Value.ref f := r1
  have un : Un (frs X.stack) [] HZ HZ s.heap s1.heap := I1.base
  have of1 : s1.heap.get? f = some (PySem.W.kla_obj "<lambda>" (X.env.qual ++ "<lambda>") params body scope (cloFrom X.env.cells scope.names []) pm c' ctv) := un.keep f _ hf hfn hfr (by simp)
  refine PySem.W.callWith_F0 ⟨_, _, _, _, of1⟩ ?_
  obtain ⟨⟨oc, vs, t, hoc, hdc, hvc⟩, _, _⟩ := I1.hok c' _ hco
  have rc : codeAny (model X.prog X.w) (X.A.deeper (envOfC qual sc s.heap.objs.size fa cdv)) (.call (.ref f) ⟨[], []⟩)
      (CR (L2.CX X.prog X.w) (envOfC qual sc s.heap.objs.size fa cdv :: X.stack) X.prog X.w HZ s1 Q (WE W (L2.start N [.ref f]))) s1 := by
    refine PySem.W.kla_callFunE hr.depth of1 rfl L.co L.gen rfl ⟨c', oc, vs, t, rfl, hoc, hdc, hvc⟩ ?_
    rw [hbind]
    refine wpAny_pure (wpAny_newFunctionEnv (fun y hy => (L.own y hy).2) (fun y hy => absurd hy (by simp)) (fun h₁ hns hsb => ⟨I1.nolimit.fresh _ hsb, ?_⟩) L.kind)
    have kp : ∀ b o, s1.heap.get? b = some o → h₁.get? b = some o := fun b o e =>
      hsb.extBut b o (Nat.ne_of_lt (Heap.lt_size e)) (Heap.get?_push_of_some _ e)
    have J := lam_start2 (A := X.A.deeper (envOfC qual sc s.heap.objs.size fa cdv)) (outer := envOfC qual sc s.heap.objs.size fa cdv :: X.stack) (E := WE W (L2.start N [.ref f])) (f := f) (c' := c') (tk := s1.toks + ([] : List (Str × Value)).length) I L I1.env0 hr.hd un hns kp
    have bd := hbody (X.A.deeper (envOfC qual sc s.heap.objs.size fa cdv)) (envOfC qual sc s.heap.objs.size fa cdv :: X.stack) s1 HZ (WE W (L2.start N [.ref f])) f c' (hr.deeper _) (takes_of rfl rfl rfl rfl)
    refine PySem.W.kla_codeExpr (wpAny_mono (bd.run [] _ σ HZ Q J ⟨r, ms, mh, rs, rh, ?_⟩) (fun v s' hq => ?_) fun e s' hq => hq)
    · cases e : me ms mh with
      | ok d h1 =>
        have hp : Post X.K X.gw W (RV X.K X.gw) r HZ (L2.start N [.ref f]) (me ms mh) Q := hp
        rw [e] at hp; exact hp
      | bad =>
        have hp : Post X.K X.gw W (RV X.K X.gw) r HZ (L2.start N [.ref f]) (me ms mh) Q := hp
        rw [e] at hp; exact hp.elim
      | exc c fs h1 =>
        have hp : Post X.K X.gw W (RV X.K X.gw) r HZ (L2.start N [.ref f]) (me ms mh) Q := hp
        rw [e] at hp
        exact fun r' H' cv dx st rh' rx => hp r' H' cv dx st rh' rx
    · obtain ⟨w', H', J', rv, q⟩ := hq
      exact ⟨w', H', J'.os, J'.bare, J'.base, J'.hok, rv, q⟩
  refine wpAny_call (codeAny_mono rc fun rr s' hq => ?_)
  cases rr with
  | error e => exact passAt tk _ pinsZ HZ s1 e s' I1 hq
  | ok fl =>
    cases fl with
    | ret u => exact I1.after hq
    | next => exact False.elim hq
    | brk => exact False.elim hq
    | cont => exact False.elim hq
/-- behind the making of a lambda -/
theorem lam_rel {H1 : Hp} (rs : RS X.K X.gw H r ms σ) (rh : RH X.K X.gw r mh H) (eN : ExtN H H1) (ht : LTab X.K H1) : Stp r H r H1 ∧ RS X.K X.gw H1 r ms σ ∧ RH X.K X.gw r mh H1 := by
  have st : Stp r H r H1 := ⟨⟨[], by simp⟩, fun b vs h => h.imp (fun h => eN _ _ h fun _ z => nomatch z) fun ⟨f, h⟩ => ⟨f, eN _ _ h fun _ z => nomatch z⟩, fun b o u h => eN _ _ h fun _ z => nomatch z⟩
  refine ⟨st, rs.mono st, rh.len, rh.nd, fun i o b e1 e2 => (rh.at_ i o b e1 e2).mono st fun z => ?_, ht⟩
  rcases z with z | ⟨f, u, z⟩
  · have hb := (rh.at_ i o b e1 e2).there z
    cases eb : H b with
    | none => exact absurd eb hb
    | some u => exact eN b u eb ((rh.at_ i o b e1 e2).noTab z eb).1
  · rw [z]; exact eN _ _ z fun _ y => nomatch y
end
section
variable {X : Cx} {W : WX} {x a : Str} {N : List Str} {sc scope : Scope} {F : WK → WK} {params : Arguments} {body : Expr} {me : ME} {k : Nat} {c P : Addr} {p lpos pos : Pos}
theorem s_thunk (T : FnT X.prog X.w X.K X.mg X.base (k + 1) x a N sc F) (LT : PySem.W.tabIn X.K "law" = some (c, P)) (TB : LTB X.K X.mg X.base) (hcode : X.env.code = .ref c) (hr : Room (k + 2) X.A) (tk : Takes X W) (hbody : LamB X k scope body me)
    (hgl : X.env.kindOf x = some .globalImplicit := by kernel_rfl) (L : lamSB X.env.scope scope = true := by kernel_rfl) (hq : X.env.qual ++ "<lambda>" = lamQ := by kernel_rfl) (hdef : defaultsOf params X.env = ([], []) := by kernel_rfl)
    (hbind : ∀ (q : Str) (cl : List (Str × Addr)) (pm cv ctv : Value), bindArgs (PySem.W.kla_fn "<lambda>" q params body scope cl pm cv ctv) ⟨[], []⟩ = pure [] := by intro _ _ _ _ _; rfl)
    (hdb : (x == ("__debug__" : Str)) = false := by kernel_rfl) (hd : (a == ("__debug__" : Str)) = false := by kernel_rfl) (hcd : (a == ("__classdict__" : Str)) = false := by kernel_rfl) :
    SE X W (.Call (.Name x p) [.Lambda params body scope lpos] [] pos) (mThunk F me) := by
  have L := lamS_by L
  obtain ⟨fa, qual, cdv, hm, hk, S, run⟩ := T
  refine ⟨fun pins s σ H Q I ⟨r, ms, mh, rs, rh, q⟩ => ?_⟩
  refine wpAny_Call_Name_kw (ld_glob I hgl hm ?_ hdb)
  refine PySem.W.callWith_K (h₀ := X.base) I.ok.mod.kin hk ?_ (by rfl) (by rfl)
  show wpAny _ _ (spliced ((false, eval (.Lambda params body scope lpos) X.env) :: backTo pos (starEach [] X.env))) _ _ s
  have hT : Tabs [(P, X.env.qual ++ "<lambda>")] H := fun z hz => by
    have e : z = (P, X.env.qual ++ "<lambda>") := by simpa using hz
    rw [e, hq]
    exact rh.tb c P LT
  refine Calls.spliced_cons (lam_make2 I (TB c P LT) hcode (List.mem_singleton.mpr rfl) (fun z hz _ => by
    have e : z = (P, X.env.qual ++ "<lambda>") := by simpa using hz
    rw [e]) hT hdef (L.has I.ok) fun f c' pm' ctv H1 s' I1 eN T1 hf hfn hfr hco => ?_)
  refine Calls.spliced_nil ⟨I1.kIn, ?_⟩
  obtain ⟨st1, rs1, rh1⟩ := lam_rel rs rh eN fun c2 P2 e2 => by
    rw [LT] at e2
    cases e2
    have := T1 (P, X.env.qual ++ "<lambda>") (List.mem_singleton.mpr rfl)
    rw [hq] at this
    exact this
  have rc := run X.A X.stack s' H1 (WE W σ) f r mh (fun h => me ms h) Q hr I1.env0 rh1 (fun hr' => w_act I1 L hf hfn hfr hco (hbind _ _ _ _ _) rs1 rh1 hbody S hr' hd hcd) (Post.atE (W := W) (q.stp st1))
  refine wpAny_call (codeAny_mono rc fun rr s2 hq => ?_)
  cases rr with
  | error e => exact passAt tk σ pins H1 s' e s2 I1 hq
  | ok fl =>
    cases fl with
    | ret u => exact I1.after hq
    | next => exact False.elim hq
    | brk => exact False.elim hq
    | cont => exact False.elim hq
end
section
variable {P : Program} {w : World} {K : PySem.W.Frag} {mg : Str → Option Value} {base : Heap} {x qual : Str} {st : Stmt} {fa : Addr} {fd : FuncData} {N ps : List Str} {k : Nat} {b : MSt}
/-- the law itself: its code object is known -/
theorem fn_okL (LT : LawT K mg) (F : FunD K x qual (defArgs st) (defBody st) (defScope st) [] [] fa fd) (g : mg "law" = some (.ref fa)) (S : FnScope N ps (defScope st))
    (hbind : ∀ (kV doc pm : Value) (an : Option Addr) (cdv ct : Value) (us : List Value), us.length = ps.length → bindArgs (PySem.W.fnOf x qual (defArgs st) (defBody st) (defScope st) .none kV doc pm an cdv ct) ⟨us, []⟩ = pure (ps.zip us))
    (hb : ∀ (c P' : Addr) (_ : PySem.W.tabIn K "law" = some (c, P')) (cdv : Value) (_ : cdv = .ref c) (A : Around) (outer : List Env) (s : Shared) (H : Hp) (E : XK), Room k (A.deeper (envOfC qual (defScope st) s.heap.objs.size fa cdv)) →
      Takes (cxOf (L2.CX P w) P w K mg base N qual (defScope st) fa cdv A outer s H E) (fun c d _ H => E c d H) →
      PassesOwn (model P w) (cxOf (L2.CX P w) P w K mg base N qual (defScope st) fa cdv A outer s H E).A (cxOf (L2.CX P w) P w K mg base N qual (defScope st) fa cdv A outer s H E).env (cxOf (L2.CX P w) P w K mg base N qual (defScope st) fa cdv A outer s H E).xe →
      SSs (cxOf (L2.CX P w) P w K mg base N qual (defScope st) fa cdv A outer s H E) (fun c d _ H => E c d H) (defBody st) b) :
    FnS P w K mg base (k + 1) "law" ps (mDef N.length b) := by
  obtain ⟨fa2, c, P', fd2, oc2, od2, osl2, g2, lt, lk2, hc2⟩ := LT.ex
  cases g2.symm.trans g
  have bb := F.bindsA hbind
  have kp := F.kp
  obtain ⟨oc, od, dV, kV, doc, pm, an, cdv, ct, osl, rfl, lk, hcd, _, _⟩ := F.ex
  have ec : cdv = .ref c := by
    rw [lk] at lk2
    cases lk2
    exact hc2
  refine ⟨fa, _, g, kp, ⟨_, _, _, lk⟩, bb, ?_⟩
  refine fn_of lk hcd S (fun vs H Q E h => h.1) fun A outer s H vs Q E hr hsp => ?_
  refine ⟨_, hb c P' lt cdv ec A outer s H E hr (takes_of rfl rfl rfl rfl) (passes_of rfl), ?_⟩
  obtain ⟨hn, r, ds, mh, rvs, rh, p⟩ := hsp
  refine ⟨r, _, mh, rs_start rvs N.length, rh, ?_⟩
  unfold mDef at p
  cases eb : b (ds.map some ++ List.replicate (N.length - ds.length) none) mh with
  | nx ms h => rw [eb] at p; exact fun r' H' σ' st rh' _ => p r' H' .non st rh' .non
  | rt d h => rw [eb] at p; exact p
  | exc c fs ms h => rw [eb] at p; exact fun r' H' σ' cv dx st rh' _ rx => p r' H' cv dx st rh' rx
  | bk _ _ => rw [eb] at p; exact p.elim
  | ct _ _ => rw [eb] at p; exact p.elim
  | bad => rw [eb] at p; exact p.elim
end
end Sm
namespace Lw
open PySem PySem.Spec PyProof.Rows L2 Sm
/-- o lets an error out, in Q -/
structure XE (o : Out D) (Q : Str → List (Str × D) → MH → Prop) : Prop where
  out : match o with
    | .exc c fs h => Q c fs h
    | _ => False
structure WE (o : OutS) (Q : Str → List (Str × D) → MS → MH → Prop) : Prop where
  out : match o with
    | .exc c fs ms h => Q c fs ms h
    | _ => False
section
variable {h : MH} {ms : MS} {Q : Str → List (Str × D) → MS → MH → Prop} {QX : Str → List (Str × D) → MH → Prop} {b c : MSt} {n : MA} {f : MF} {t : MT} {N : MS → MH → Prop} {R : D → MH → Prop} {B C : MS → MH → Prop}
theorem we_seq (w : WE (b ms h) Q) : WE (mSeq b c ms h) Q := by
  obtain ⟨w⟩ := w
  unfold mSeq
  cases e : b ms h <;> rw [e] at w
  case exc => exact ⟨w⟩
  all_goals exact w.elim
theorem we_seqN (w : WS (b ms h) (fun ms1 h1 => WE (c ms1 h1) Q) (fun _ _ => False) (fun _ _ => False) fun _ _ => False) : WE (mSeq b c ms h) Q := by
  obtain ⟨w⟩ := w
  unfold mSeq
  cases e : b ms h <;> rw [e] at w
  case nx => exact w
  all_goals exact w.elim
theorem we_if (w : Wp (t ms h) fun k h1 => (k = true → WE (b ms h1) Q) ∧ (k = false → WE (c ms h1) Q)) : WE (mIfS t b c ms h) Q := by
  obtain ⟨k, h1, e, q⟩ := w.get
  unfold mIfS
  rw [e]
  cases k with
  | true => exact q.1 rfl
  | false => exact q.2 rfl
theorem we_raise {x : Str} {fs : List Str} (w : Wp (n ms h) fun ds h1 => Q x (fs.zip ds).reverse ms h1) : WE (mRaise x fs n ms h) Q := by
  obtain ⟨ds, h1, e, q⟩ := w.get
  unfold mRaise
  rw [e]
  exact ⟨q⟩
theorem we_exprCall (w : Wp (n ms h) fun ds h1 => XE (f ds h1) fun c fs h2 => Q c fs ms h2) : WE (mExpr (mCall f n) ms h) Q := by
  obtain ⟨ds, h1, e, ⟨q⟩⟩ := w.get
  unfold mExpr mCall
  rw [e]
  show WE (Out.toS (f ds h1) ms _) Q
  cases e2 : f ds h1 <;> rw [e2] at q
  case exc => exact ⟨q⟩
  all_goals exact q.elim
theorem xe_def {nn : Nat} {ds : List D} (w : WE (b (ds.map some ++ List.replicate (nn - ds.length) none) h) fun c fs _ h1 => QX c fs h1) : XE (mDef nn b ds h) QX := by
  obtain ⟨w⟩ := w
  unfold mDef
  cases e : b (ds.map some ++ List.replicate (nn - ds.length) none) h <;> rw [e] at w
  case exc => exact ⟨w⟩
  all_goals exact w.elim
theorem we_for {src : MI} {g : MG} (w : Wp (src ms h) fun a h1 => WE (mLoop a.2 g b a.1 ms h1) Q) : WE (mFor src g b ms h) Q := by
  obtain ⟨a, h1, e, q⟩ := w.get
  unfold mFor
  rw [e]
  exact q
theorem we_loopX {chk : MH → Prop} {g : MG} {d : D} {ds : List D} (hc : chk h) (w : WS (g d ms h) (fun ms1 h1 => WE (b ms1 h1) Q) (fun _ _ => False) (fun _ _ => False) fun _ _ => False) : WE (mLoop chk g b (d :: ds) ms h) Q := by
  obtain ⟨w⟩ := w
  unfold mLoop
  rw [if_pos hc]
  cases e : g d ms h <;> rw [e] at w
  case nx ms1 h1 =>
    have w : WE (b ms1 h1) Q := w
    obtain ⟨w⟩ := w
    show WE (match b ms1 h1 with | .nx ms2 h2 => _ | .ct ms2 h2 => _ | .bk ms2 h2 => _ | .rt d h2 => _ | .exc c fs ms2 h2 => _ | .bad => _) Q
    cases e2 : b ms1 h1 <;> rw [e2] at w
    case exc => exact ⟨w⟩
    all_goals exact w.elim
  all_goals exact w.elim
theorem we_loopN {chk : MH → Prop} {g : MG} {d : D} {ds : List D} (hc : chk h) (w : WS (g d ms h) (fun ms1 h1 => WS (b ms1 h1) (fun ms2 h2 => WE (mLoop chk g b ds ms2 h2) Q) (fun _ _ => False) (fun _ _ => False) fun _ _ => False) (fun _ _ => False) (fun _ _ => False) fun _ _ => False) : WE (mLoop chk g b (d :: ds) ms h) Q := by
  obtain ⟨w⟩ := w
  unfold mLoop
  rw [if_pos hc]
  cases e : g d ms h <;> rw [e] at w
  case nx ms1 h1 =>
    have w : WS (b ms1 h1) (fun ms2 h2 => WE (mLoop chk g b ds ms2 h2) Q) (fun _ _ => False) (fun _ _ => False) fun _ _ => False := w
    obtain ⟨w⟩ := w
    show WE (match b ms1 h1 with | .nx ms2 h2 => _ | .ct ms2 h2 => _ | .bk ms2 h2 => _ | .rt d h2 => _ | .exc c fs ms2 h2 => _ | .bad => _) Q
    cases e2 : b ms1 h1 <;> rw [e2] at w
    case nx => exact w
    all_goals exact w.elim
  all_goals exact w.elim
end
section
variable {h : MH} {ms : MS} {Q : D → MH → Prop} {QX : Str → List (Str × D) → MH → Prop} {QE : Str → List (Str × D) → MS → MH → Prop} {N : MS → MH → Prop} {R : D → MH → Prop} {B C : MS → MH → Prop} {b : MSt} {bw : WK → MSt} {wk : WK} {me m : ME} {n : MA} {f : MF} {kn : List Str} {hs : List MHd} {i j nn : Nat} {g : XG} {d : D}
theorem xe_call (w : Wp (n ms h) fun ds h1 => XE (f ds h1) QX) : XE (mCall f n ms h) QX := by
  obtain ⟨ds, h1, e, q⟩ := w.get
  unfold mCall
  rw [e]
  exact q
theorem wp_thk (w : WS (bw wk (List.replicate nn none) h) (fun _ h1 => Q .non h1) Q (fun _ _ => False) fun _ _ => False) : Wp (mThk nn bw wk h) Q := by
  obtain ⟨w⟩ := w
  unfold mThk
  cases e : bw wk (List.replicate nn none) h <;> rw [e] at w
  case nx => exact ⟨w⟩
  case rt => exact ⟨w⟩
  all_goals exact w.elim
theorem ws_try (w : WS (b ms h) N R B C) : WS (mTry kn b hs ms h) N R B C := by
  obtain ⟨w⟩ := w
  unfold mTry
  cases e : b ms h <;> rw [e] at w
  case exc => exact w.elim
  all_goals exact ⟨w⟩
theorem ws_tryX (w : WE (b ms h) fun c fs ms1 h1 => c ∈ kn ∧ WS (hdl c fs hs ms1 h1) N R B C) : WS (mTry kn b hs ms h) N R B C := by
  obtain ⟨w⟩ := w
  unfold mTry
  cases e : b ms h <;> rw [e] at w
  case exc c fs ms1 h1 =>
    show WS (if c ∈ kn then _ else _) N R B C
    rw [if_pos w.1]
    exact w.2
  all_goals exact w.elim
theorem ws_wExpr (w : Wp (wk h) fun _ h1 => N ms h1) : WS (wExpr wk ms h) N R B C := ws_toS (w.mono fun _ _ q => ⟨q⟩)
theorem we_wExpr (w : XE (wk h) fun c fs h1 => QE c fs ms h1) : WE (wExpr wk ms h) QE := by
  obtain ⟨w⟩ := w
  unfold wExpr
  cases e : wk h <;> rw [e] at w
  case exc => exact ⟨w⟩
  all_goals exact w.elim
theorem ws_hRet {fs : List (Str × D)} (hi : i < ms.length) (e : g fs h = some d) (q : R d h) : WS (hRet i g fs ms h) N R B C := by
  unfold hRet
  rw [if_pos hi, e]
  exact ⟨q⟩
theorem XE.mono {o : Out D} {QX' : Str → List (Str × D) → MH → Prop} (w : XE o QX) (q : ∀ c fs h, QX c fs h → QX' c fs h) : XE o QX' := by
  obtain ⟨w⟩ := w
  refine ⟨?_⟩
  cases o with
  | exc c fs h => exact q _ _ _ w
  | ok _ _ => exact w
  | bad => exact w
end
end Lw
namespace Lw
open PySem PySem.Spec PyProof.Rows L2 Sm
noncomputable def b__law_pot : MSt := (mRet (mLst (aCons (mLc (iSeq (mSl (mV 0) pNo (pAt (mC (.int 63))))) [1] (gN 1) mYes (mCall fAbs (aCons (mV 1) aNil))) (aCons (mC (.int 0)) (aCons (mC (.int 20011)) (aCons (mC (.int 0)) aNil))))))
noncomputable def m__law_pot : MF := mDef 2 b__law_pot
noncomputable def b__law_draw : MSt := (mSeq (mIfS (mTest (m2 gLt (mV 1) (mC (.int 2)))) (mRet (mC (.int 0))) mNx)
  (mSeq (mIfS (mTest (m2 gGt (m2 gIx (mV 0) (mC (.int 3))) (mC (.int 0)))) (mSeq (mSet 2 (m2 gMod (mCall fInt (aCons (m2 gIx (mV 0) (mC (.int 3))) aNil)) (mV 1)))
    (mSeq (mAsg (m2 gDiv (m2 gIx (mV 0) (mC (.int 3))) (mV 1)) fun d ms h => onlyG ((gIt (mV 0) (mC (.int 3)) setA) d ms h))
    (mRet (mV 2)))) mNx)
  (mSeq (mSet 3 (mC (.int 0)))
  (mSeq (mIfS (mTest (m2 gLt (m2 gIx (mV 0) (mC (.int 1))) (mCall fLen (aCons (m2 gIx (mV 0) (mC (.int 0))) aNil)))) (mSeq (mSet 3 (m2 gIx (m2 gIx (mV 0) (mC (.int 0))) (m2 gIx (mV 0) (mC (.int 1)))))
    (mSeq (mAsg (m2 gAdd (m2 gIx (mV 0) (mC (.int 1))) (mC (.int 1))) fun d ms h => onlyG ((gIt (mV 0) (mC (.int 1)) setA) d ms h))
    (mIfS (mTest (m2 gGe (mV 3) (m2 gPow (mC (.int 10)) (mC (.int 18))))) (mSeq (mAsg (m2 gDiv (mV 3) (mV 1)) fun d ms h => onlyG ((gIt (mV 0) (mC (.int 3)) setA) d ms h))
    (mRet (m2 gMod (mCall fInt (aCons (mV 3) aNil)) (mV 1)))) mNx))) mNx)
  (mSeq (mAsg (m2 gMod (mCall fInt (aCons (m2 gAdd (m2 gAdd (m2 gMul (m2 gIx (mV 0) (mC (.int 2))) (mC (.int 48271))) (mV 3)) (mC (.int 12345))) aNil)) (mC (.int 2147483647))) fun d ms h => onlyG ((gIt (mV 0) (mC (.int 2)) setA) d ms h))
  (mRet (m2 gMod (mCall fInt (aCons (m2 gAdd (m2 gDiv (m2 gMul (m2 gIx (mV 0) (mC (.int 2))) (m2 gIx (mV 0) (mC (.int 2)))) (mC (.int 64))) (m2 gDiv (m2 gIx (mV 0) (mC (.int 2))) (mC (.int 7)))) aNil)) (mV 1))))))))
noncomputable def m__law_draw : MF := mDef 4 b__law_draw
noncomputable def b__law_pick : MSt := (mRet (m2 gIx (mV 1) (mCall m__law_draw (aCons (mV 0) (aCons (mCall fLen (aCons (mV 1) aNil)) aNil)))))
noncomputable def m__law_pick : MF := mDef 2 b__law_pick
local macro_rules | `(tactic| fail) => `(tactic| ((with_reducible refine and_ty ?_ ?_); (first | rfl | exact isTy_ls (by assumption) | exact isTy_ls (lsAt_of (by assumption)) | exact isTy_dc (by assumption))))
local macro_rules | `(tactic| fail) => `(tactic| with_reducible refine wp_isi_yes (by first | with_unfolding_all rfl | exact ty_ls (by assumption) | exact ty_ls (lsAt_of (by assumption)) | exact ty_dc (dcAt_of (by assumption))) (by with_unfolding_all decide) ?_)
local macro_rules | `(tactic| fail) => `(tactic| with_reducible refine wp_isi_no (by first | with_unfolding_all rfl | exact ty_ls (by assumption) | exact ty_ls (lsAt_of (by assumption)) | exact ty_dc (dcAt_of (by assumption))) (by with_unfolding_all decide) ?_)
local macro_rules | `(tactic| fail) => `(tactic| with_reducible refine if_no ?_)
local macro_rules | `(tactic| fail) => `(tactic| with_reducible refine if_yes ?_)
local macro_rules | `(tactic| fail) => `(tactic| with_reducible refine wp_iR2' ?_)
local macro_rules | `(tactic| fail) => `(tactic| with_reducible refine wp_iR1' ?_)
local macro_rules | `(tactic| fail) => `(tactic| with_reducible refine wp_listRg1 ?_)
local macro_rules | `(tactic| fail) => `(tactic| with_reducible refine wp_listRg2 ?_)
local macro_rules | `(tactic| fail) => `(tactic| with_reducible refine ex_intL2 ?_)
local macro_rules | `(tactic| fail) => `(tactic| with_reducible refine ex_int1 ?_)
local macro_rules | `(tactic| fail) => `(tactic| with_reducible refine ex_int2 ?_)
local macro_rules | `(tactic| fail) => `(tactic| with_reducible refine ex_two ?_)
local macro_rules | `(tactic| fail) => `(tactic| with_reducible refine ex_int ?_)
local macro_rules | `(tactic| fail) => `(tactic| with_reducible refine ex_bl ?_)
local macro_rules | `(tactic| fail) => `(tactic| ((with_reducible refine and_len ?_ ?_); (exact Nat.le_of_ble_eq_true rfl)))
local macro_rules | `(tactic| fail) => `(tactic| with_reducible refine wp_dnew ?_)
local macro_rules | `(tactic| fail) => `(tactic| with_reducible refine wp_isN (by with_unfolding_all rfl) ?_)
local macro_rules | `(tactic| fail) => `(tactic| with_reducible refine wp_isY (by with_unfolding_all rfl) ?_)
local macro_rules | `(tactic| fail) => `(tactic| with_reducible refine wp_len_L (lsAt_of (by assumption)) ?_)
local macro_rules | `(tactic| fail) => `(tactic| with_reducible refine wp_ixL (lsAt_of (by assumption)) (by with_unfolding_all rfl) ?_)
local macro_rules | `(tactic| fail) => `(tactic| ((with_reducible refine wp_powI ?_ ?_); decide))
local macro_rules | `(tactic| fail) => `(tactic| with_reducible refine wp_abs ?_)
local macro_rules | `(tactic| fail) => `(tactic| with_reducible refine wp_int ?_)
local macro_rules | `(tactic| fail) => `(tactic| with_reducible refine wp_neg ?_)
local macro_rules | `(tactic| fail) => `(tactic| with_reducible refine wp_neS ?_)
local macro_rules | `(tactic| fail) => `(tactic| with_reducible refine wp_eqS ?_)
local macro_rules | `(tactic| fail) => `(tactic| with_reducible refine wp_neB ?_)
local macro_rules | `(tactic| fail) => `(tactic| with_reducible refine wp_eqB ?_)
local macro_rules | `(tactic| fail) => `(tactic| with_reducible refine wp_neI ?_)
local macro_rules | `(tactic| fail) => `(tactic| with_reducible refine wp_eqI ?_)
local macro_rules | `(tactic| fail) => `(tactic| with_reducible refine wp_geI ?_)
local macro_rules | `(tactic| fail) => `(tactic| with_reducible refine wp_gtI ?_)
local macro_rules | `(tactic| fail) => `(tactic| with_reducible refine wp_leI ?_)
local macro_rules | `(tactic| fail) => `(tactic| with_reducible refine wp_ltI ?_)
local macro_rules | `(tactic| fail) => `(tactic| with_reducible refine wp_subI ?_)
local macro_rules | `(tactic| fail) => `(tactic| with_reducible refine wp_addI ?_)
local macro_rules | `(tactic| fail) => `(tactic| with_reducible refine wp_mChain ?_)
local macro_rules | `(tactic| fail) => `(tactic| with_reducible refine wp_mMeth ?_)
local macro_rules | `(tactic| fail) => `(tactic| with_reducible refine wp_pAt ?_)
local macro_rules | `(tactic| fail) => `(tactic| with_reducible refine wp_pNo ?_)
local macro_rules | `(tactic| fail) => `(tactic| with_reducible refine wp_mSl ?_)
local macro_rules | `(tactic| fail) => `(tactic| with_reducible refine wp_mNotV ?_)
local macro_rules | `(tactic| fail) => `(tactic| with_reducible refine wp_mNotT ?_)
local macro_rules | `(tactic| fail) => `(tactic| with_reducible refine wp_mIfE ?_)
local macro_rules | `(tactic| fail) => `(tactic| with_reducible refine wp_mLst ?_)
local macro_rules | `(tactic| fail) => `(tactic| with_reducible refine wp_mTup ?_)
local macro_rules | `(tactic| fail) => `(tactic| with_reducible refine wp_m1 ?_)
local macro_rules | `(tactic| fail) => `(tactic| with_reducible refine wp_mTest ?_)
local macro_rules | `(tactic| fail) => `(tactic| with_reducible refine wp_aNil ?_)
local macro_rules | `(tactic| fail) => `(tactic| with_reducible refine wp_aCons ?_)
local macro_rules | `(tactic| fail) => `(tactic| with_reducible refine wp_mCall ?_)
local macro_rules | `(tactic| fail) => `(tactic| with_reducible refine wp_mC ?_)
local macro_rules | `(tactic| fail) => `(tactic| with_reducible refine wp_mV (by with_unfolding_all rfl) ?_)
local macro_rules | `(tactic| fail) => `(tactic| with_reducible refine wp_m2 ?_)
local macro_rules | `(tactic| fail) => `(tactic| with_reducible refine wp_neSS ?_)
local macro_rules | `(tactic| fail) => `(tactic| with_reducible refine wp_neII ?_)
local macro_rules | `(tactic| fail) => `(tactic| with_reducible refine wp_neBB ?_)
local macro_rules | `(tactic| fail) => `(tactic| with_reducible refine wp_eqSS ?_)
local macro_rules | `(tactic| fail) => `(tactic| with_reducible refine wp_eqII ?_)
local macro_rules | `(tactic| fail) => `(tactic| with_reducible refine wp_eqBB ?_)
local macro_rules | `(tactic| fail) => `(tactic| with_reducible refine wp_iaddI ?_)
local macro_rules | `(tactic| fail) => `(tactic| with_reducible refine ws_aug (by with_unfolding_all rfl) ?_)
local macro_rules | `(tactic| fail) => `(tactic| with_reducible refine ws_gTup (by with_unfolding_all rfl) ?_)
local macro_rules | `(tactic| fail) => `(tactic| with_reducible refine ws_gsNil ?_)
local macro_rules | `(tactic| fail) => `(tactic| with_reducible refine ws_gsCons ?_)
local macro_rules | `(tactic| fail) => `(tactic| with_reducible refine ws_bk ?_)
local macro_rules | `(tactic| fail) => `(tactic| with_reducible refine ws_ct ?_)
local macro_rules | `(tactic| fail) => `(tactic| with_reducible refine ws_par ?_)
local macro_rules | `(tactic| fail) => `(tactic| with_reducible refine ws_retN ?_)
local macro_rules | `(tactic| fail) => `(tactic| with_reducible refine ws_nx ?_)
local macro_rules | `(tactic| fail) => `(tactic| with_reducible refine ws_gN ?_)
local macro_rules | `(tactic| fail) => `(tactic| with_reducible refine ws_gIt ?_)
local macro_rules | `(tactic| fail) => `(tactic| with_reducible refine ws_asg ?_)
local macro_rules | `(tactic| fail) => `(tactic| with_reducible refine ws_if ?_)
local macro_rules | `(tactic| fail) => `(tactic| with_reducible refine ws_expr ?_)
local macro_rules | `(tactic| fail) => `(tactic| with_reducible refine ws_ret ?_)
local macro_rules | `(tactic| fail) => `(tactic| with_reducible refine ws_set ?_)
local macro_rules | `(tactic| fail) => `(tactic| with_reducible refine ws_seq ?_)
def PotOk (p : Nat) (h : MH) : Prop := ∃ (q : Nat) (i c l : Int) (cs : List Int), q < p ∧ h[p]? = some (.lst [.ref q, .int i, .int c, .int l]) ∧ h[q]? = some (.lst (cs.map D.int)) ∧ 0 ≤ i ∧ 0 ≤ c ∧ c < 2147483647
theorem lg {n : Int} (h : n.natAbs < 2 ^ 400) : n.natAbs.log2 < 9000 := by
  by_cases hz : n.natAbs = 0
  · rw [hz]; decide
  · exact (Nat.log2_lt hz).mpr (Nat.lt_of_lt_of_le h (Nat.pow_le_pow_right (by decide) (by decide)))
theorem draw {Q : D → MH → Prop} {p : Nat} {n : Int} {h : MH} (hp : PotOk p h) (hn : n.natAbs < 2 ^ 400)
    (k : ∀ v h1, 0 ≤ v → (0 < n → v < n) → (n ≤ 0 → v = 0) → PotOk p h1 → Fr p h h1 → h1.length = h.length → Q (.int v) h1) : Wp (m__law_draw [.ref p, .int n] h) Q := by
  obtain ⟨q, i, c, l, cs, hqp, ep, eq, hi, hc, hc2⟩ := hp
  have hq : q ≠ p := Nat.ne_of_lt hqp
  unfold m__law_draw b__law_draw
  refine wp_def ?_
  repeat fail
  refine ⟨fun e => ?_, fun e => ?_⟩
  · have e := of_decide_eq_true e
    repeat fail
    exact k _ _ (by decide) (fun z => z) (fun _ => rfl) ⟨q, i, c, l, cs, hqp, ep, eq, hi, hc, hc2⟩ .refl rfl
  have e := of_decide_eq_false e
  have hn0 : 0 < n := by omega
  have hl := lg hn
  have put : ∀ (h1 : MH) (a b c : Int) (x y z : Int), Fr p h h1 → h1.length = h.length → h1[p]? = some (.lst [.ref q, .int a, .int b, .int c]) → 0 ≤ x → 0 ≤ y → y < 2147483647 →
      PotOk p (h1.set p (.lst [.ref q, .int x, .int y, .int z])) ∧ Fr p h (h1.set p (.lst [.ref q, .int x, .int y, .int z])) ∧ (h1.set p (.lst [.ref q, .int x, .int y, .int z])).length = h.length := fun h1 a b c x y z f1 f2 f3 f4 f5 f6 =>
    ⟨⟨q, x, y, z, cs, hqp, at_set (lt_of_at f3) _, at_set_ne (f1.at hq eq) hq _, f4, f5, f6⟩, f1.trans (fr_set _), by rw [List.length_set]; exact f2⟩
  have md : ∀ x : Int, 0 ≤ x % n ∧ (0 < n → x % n < n) ∧ (n ≤ 0 → x % n = 0) := fun x => ⟨Int.emod_nonneg _ (by omega), fun z => Int.emod_lt_of_pos _ z, fun z => by omega⟩
  repeat fail
  refine ⟨fun e => ?_, fun e => ?_⟩
  · repeat fail
    refine wp_modI hn0 ?_
    repeat fail
    refine wp_divI hn0 hl ?_
    repeat fail
    refine ⟨_, setA_L ep rfl, ?_⟩
    repeat fail
    obtain ⟨z1, z2, z3⟩ := put h i c l i c (l / n) .refl rfl ep hi hc hc2
    obtain ⟨m1, m2, m3⟩ := md l
    exact k _ _ m1 m2 m3 z1 z2 z3
  -- the last row, at any heap
  have last : ∀ (h1 : MH) (i1 l1 v : Int) (o : Option D), Fr p h h1 → h1.length = h.length → h1[p]? = some (.lst [.ref q, .int i1, .int c, .int l1]) → 0 ≤ i1 →
      WS (mSeq (mAsg (m2 gMod (mCall fInt (aCons (m2 gAdd (m2 gAdd (m2 gMul (m2 gIx (mV 0) (mC (.int 2))) (mC (.int 48271))) (mV 3)) (mC (.int 12345))) aNil)) (mC (.int 2147483647))) fun d ms h => onlyG ((gIt (mV 0) (mC (.int 2)) setA) d ms h))
        (mRet (m2 gMod (mCall fInt (aCons (m2 gAdd (m2 gDiv (m2 gMul (m2 gIx (mV 0) (mC (.int 2))) (m2 gIx (mV 0) (mC (.int 2)))) (mC (.int 64))) (m2 gDiv (m2 gIx (mV 0) (mC (.int 2))) (mC (.int 7)))) aNil)) (mV 1))) [some (.ref p), some (.int n), o, some (.int v)] h1)
        (fun _ h1 => Q .non h1) Q (fun _ _ => False) fun _ _ => False := fun h1 i1 l1 v o f1 f2 f3 f4 => by
    have hcl : c.natAbs.log2 < 9000 := lg (Nat.lt_of_lt_of_le (by omega : c.natAbs < 2 ^ 32) (by decide))
    have hcm : ∀ x : Int, 0 ≤ x % 2147483647 ∧ x % 2147483647 < 2147483647 := fun x => ⟨Int.emod_nonneg _ (by decide), Int.emod_lt_of_pos _ (by decide)⟩
    repeat fail
    refine wp_mulI ?_ ?_
    · have : (48271 : Int).natAbs.log2 < 100 := by decide
      omega
    repeat fail
    refine wp_modI (by decide) ?_
    repeat fail
    refine ⟨_, setA_L f3 rfl, ?_⟩
    generalize hx : (c * 48271 + v + 12345) % 2147483647 = x
    obtain ⟨x1, x2⟩ : 0 ≤ x ∧ x < 2147483647 := by rw [← hx]; exact hcm _
    obtain ⟨z1, z2, z3⟩ := put h1 i1 c l1 i1 x l1 f1 f2 f3 f4 x1 x2
    have hxl : x.natAbs.log2 < 9000 := lg (Nat.lt_of_lt_of_le (by omega : x.natAbs < 2 ^ 32) (by decide))
    have g3 := at_set (lt_of_at f3) (.lst [.ref q, .int i1, .int x, .int l1])
    show WS (mRet _ _ (h1.set p (.lst [.ref q, .int i1, .int x, .int l1]))) _ _ _ _
    repeat fail
    refine wp_mulI (by omega) ?_
    repeat fail
    refine wp_divI (by decide) (by decide) ?_
    repeat fail
    refine wp_divI (by decide) (by decide) ?_
    repeat fail
    refine wp_modI hn0 ?_
    obtain ⟨m1, m2, m3⟩ := md (x * x / 64 + x / 7)
    exact k _ _ m1 m2 m3 z1 z2 z3
  repeat fail
  refine ⟨fun e => ?_, fun e => ?_⟩
  · have e := of_decide_eq_true e
    rw [List.length_map] at e
    obtain ⟨v, hv⟩ : ∃ v, cs[i.toNat]? = some v := ⟨_, List.getElem?_eq_getElem (by omega)⟩
    have hat : atI (cs.map D.int) i = some (.int v) := by
      unfold atI ixN
      rw [if_pos hi, if_pos (by rw [List.length_map]; exact e)]
      show (cs.map D.int)[i.toNat]? = _
      rw [List.getElem?_map, hv]; rfl
    repeat fail
    refine wp_ixL (lsAt_of eq) hat ?_
    repeat fail
    refine ⟨_, setA_L ep rfl, ?_⟩
    repeat fail
    obtain ⟨z1, z2, z3⟩ := put h i c l (i + 1) c l .refl rfl ep (by omega) hc hc2
    have g3 := at_set (lt_of_at ep) (.lst [.ref q, .int (i + 1), .int c, .int l])
    refine ⟨fun e => ?_, fun e => ?_⟩
    · repeat fail
      refine wp_divI hn0 hl ?_
      repeat fail
      refine ⟨_, setA_L g3 rfl, ?_⟩
      repeat fail
      refine wp_modI hn0 ?_
      obtain ⟨y1, y2, y3⟩ := put _ (i + 1) c l (i + 1) c (v / n) z2 z3 g3 (by omega) hc hc2
      obtain ⟨m1, m2, m3⟩ := md v
      exact k _ _ m1 m2 m3 y1 y2 y3
    · refine ws_nx ?_
      exact last _ _ _ v _ z2 z3 g3 (by omega)
  · refine ws_nx ?_
    exact last _ _ _ 0 _ .refl rfl ep hi
theorem PotOk.lt {p : Nat} {h : MH} (a : PotOk p h) : p < h.length := by
  obtain ⟨q, i, c, l, cs, hq, ep, _⟩ := a
  exact lt_of_at ep
theorem PotOk.gr {p : Nat} {h h1 : MH} (a : PotOk p h) (g : Gr h h1) : PotOk p h1 := by
  obtain ⟨q, i, c, l, cs, hq, ep, eq, z⟩ := a
  exact ⟨q, i, c, l, cs, hq, g _ _ ep, g _ _ eq, z⟩
theorem PotOk.set {p k : Nat} {h : MH} (a : PotOk p h) (hk : p < k) (o : MO) : PotOk p (h.set k o) := by
  obtain ⟨q, i, c, l, cs, hq, ep, eq, z⟩ := a
  exact ⟨q, i, c, l, cs, hq, at_set_ne ep (by omega) _, at_set_ne eq (by omega) _, z⟩
/-- one of a row -/
theorem pickL {Q : D → MH → Prop} {p r : Nat} {xs : List D} {h : MH} (hp : PotOk p h) (hr : r ≠ p) (er : lsAt h r = some xs) (h0 : 0 < xs.length) (hl : xs.length < 2 ^ 400)
    (k : ∀ x h1, x ∈ xs → PotOk p h1 → Fr p h h1 → h1.length = h.length → Q x h1) : Wp (m__law_pick [.ref p, .ref r] h) Q := by
  unfold m__law_pick b__law_pick
  refine wp_def ?_
  repeat fail
  refine wp_len_sq (xs := xs) er ?_
  repeat fail
  refine draw hp (by omega) fun v h1 v0 v1 _ p1 f1 l1 => ?_
  have hv := v1 (by omega)
  have hx := List.getElem?_eq_getElem (show v.toNat < xs.length by omega)
  refine wp_ixL (f1.ls hr er) (d := xs[v.toNat]) ?_ ?_
  · unfold atI ixN
    rw [if_pos v0, if_pos hv]
    exact hx
  · exact k _ _ (List.getElem_mem _) p1 f1 l1
/-- the pot of a script -/
theorem pot_new {Q : D → MH → Prop} {s : Nat} {ns : List Int} {h : MH} (es : lsAt h s = some (ns.map D.int)) (hl : ns.length ≤ 63)
    (k : ∀ p h1, Gr h h1 → h.length ≤ p → PotOk p h1 → Q (.ref p) h1) : Wp (m__law_pot [.ref s] h) Q := by
  unfold m__law_pot b__law_pot
  refine wp_def ?_
  repeat fail
  refine wp_lcP (fun _ => true) (fun d => match d with | .int i => .int (if i < 0 then -i else i) | d => d) ?_
  refine wp_iSq ?_
  repeat fail
  refine wp_slL es ?_
  refine ⟨_, (at_last : (h ++ [.lst _])[h.length]? = _) |> lsAt_of, fun P hP => ?_⟩
  have hcut : cutL (ns.map D.int) none (some 63) = (ns.map D.int).take (HT.sIx (ns.map D.int).length (ns.map D.int).length (some 63) - HT.sIx (ns.map D.int).length 0 none) := by
    unfold cutL
    have : HT.sIx (ns.map D.int).length 0 none = 0 := rfl
    rw [this, List.drop_zero]
  have hsub : ∀ d ∈ cutL (ns.map D.int) none (some 63), ∃ i, d = .int i := fun d hd => by
    rw [hcut] at hd
    obtain ⟨i, _, rfl⟩ := List.mem_map.mp (List.mem_of_mem_take hd)
    exact ⟨i, rfl⟩
  have hlen : (cutL (ns.map D.int) none (some 63)).length ≤ 63 := by
    rw [hcut, List.length_take, List.length_map]
    omega
  refine ⟨Nat.le_trans hlen (by decide), fun h2 g => hP h2 (g.ls (lsAt_of at_last)), fun d hd h2 g => ?_, ?_⟩
  · obtain ⟨i, rfl⟩ := hsub d hd
    repeat fail
    refine ⟨rfl, rfl, fun _ => ?_⟩
    repeat fail
    exact ⟨rfl, rfl⟩
  · repeat fail
    have g0 : Gr h (h ++ [.lst (cutL (ns.map D.int) none (some 63))]) := .app _
    obtain ⟨cs, ecs⟩ : ∃ cs : List Int, (((cutL (ns.map D.int) none (some 63)).filter fun _ => true).map fun d => match d with | .int i => D.int (if i < 0 then -i else i) | d => d) = cs.map D.int := by
      have : ∀ l : List D, (∀ d ∈ l, ∃ i, d = .int i) → ∃ cs : List Int, ((l.filter fun _ => true).map fun d => match d with | .int i => D.int (if i < 0 then -i else i) | d => d) = cs.map D.int := fun l hl => by
        induction l with
        | nil => exact ⟨[], rfl⟩
        | cons d l ih =>
          obtain ⟨i, rfl⟩ := hl d (List.mem_cons_self ..)
          obtain ⟨cs, e⟩ := ih fun x hx => hl x (List.mem_cons_of_mem _ hx)
          exact ⟨(if i < 0 then -i else i) :: cs, by simp at e ⊢; exact e⟩
      exact this _ hsub
    rw [ecs]
    refine k _ _ ((g0.trans (.app _)).trans (.app _)) (by simp) ⟨(h ++ [MO.lst (cutL (ns.map D.int) none (some 63))]).length, 0, 20011, 0, cs, by simp, at_last, at_app at_last _, by decide, by decide, by decide⟩
end Lw
namespace Lw
open PySem PySem.Spec PyProof.Rows L2 Sm
noncomputable def b_is_number : MSt := (mRet (mAndV (mCall fIsi (aCons (mV 0) (aCons (mC (.ty "int")) aNil))) (mNotV (mCall fIsi (aCons (mV 0) (aCons (mC (.ty "bool")) aNil))))))
noncomputable def m_is_number : MF := mDef 1 b_is_number
noncomputable def b_is_within : MSt := (mRet (mAndV (mCall m_is_number (aCons (mV 0) aNil)) (mChain gLe gLe (mV 1) (mV 0) (mV 2))))
noncomputable def m_is_within : MF := mDef 3 b_is_within
noncomputable def b_is_listed : MSt := (mRet (mCall fIsi (aCons (mV 0) (aCons (mTup (aCons (mC (.ty "list")) (aCons (mC (.ty "tuple")) aNil))) aNil))))
noncomputable def m_is_listed : MF := mDef 1 b_is_listed
noncomputable def b_is_word_of : MSt := (mRet (mAndV (mCall fIsi (aCons (mV 0) (aCons (mC (.ty "str")) aNil))) (m2 gIn (mV 0) (mV 1))))
noncomputable def m_is_word_of : MF := mDef 2 b_is_word_of
local macro_rules | `(tactic| fail) => `(tactic| ((with_reducible refine and_ty ?_ ?_); (first | rfl | exact isTy_ls (by assumption) | exact isTy_ls (lsAt_of (by assumption)) | exact isTy_dc (by assumption))))
local macro_rules | `(tactic| fail) => `(tactic| with_reducible refine wp_isi_yes (by first | with_unfolding_all rfl | exact ty_ls (by assumption) | exact ty_ls (lsAt_of (by assumption)) | exact ty_dc (dcAt_of (by assumption))) (by with_unfolding_all decide) ?_)
local macro_rules | `(tactic| fail) => `(tactic| with_reducible refine wp_isi_no (by first | with_unfolding_all rfl | exact ty_ls (by assumption) | exact ty_ls (lsAt_of (by assumption)) | exact ty_dc (dcAt_of (by assumption))) (by with_unfolding_all decide) ?_)
local macro_rules | `(tactic| fail) => `(tactic| with_reducible refine if_no ?_)
local macro_rules | `(tactic| fail) => `(tactic| with_reducible refine if_yes ?_)
local macro_rules | `(tactic| fail) => `(tactic| with_reducible refine if_nf ?_)
local macro_rules | `(tactic| fail) => `(tactic| with_reducible refine if_nt ?_)
local macro_rules | `(tactic| fail) => `(tactic| with_reducible refine wp_iR2' ?_)
local macro_rules | `(tactic| fail) => `(tactic| with_reducible refine wp_iR1' ?_)
local macro_rules | `(tactic| fail) => `(tactic| with_reducible refine wp_listRg1 ?_)
local macro_rules | `(tactic| fail) => `(tactic| with_reducible refine wp_listRg2 ?_)
local macro_rules | `(tactic| fail) => `(tactic| with_reducible refine ex_intL2 ?_)
local macro_rules | `(tactic| fail) => `(tactic| with_reducible refine ex_int1 ?_)
local macro_rules | `(tactic| fail) => `(tactic| with_reducible refine ex_int2 ?_)
local macro_rules | `(tactic| fail) => `(tactic| with_reducible refine ex_two ?_)
local macro_rules | `(tactic| fail) => `(tactic| with_reducible refine ex_int ?_)
local macro_rules | `(tactic| fail) => `(tactic| with_reducible refine ex_bl ?_)
local macro_rules | `(tactic| fail) => `(tactic| ((with_reducible refine and_len ?_ ?_); (exact Nat.le_of_ble_eq_true rfl)))
local macro_rules | `(tactic| fail) => `(tactic| with_reducible refine wp_dnew ?_)
local macro_rules | `(tactic| fail) => `(tactic| with_reducible refine wp_isN (by with_unfolding_all rfl) ?_)
local macro_rules | `(tactic| fail) => `(tactic| with_reducible refine wp_isY (by with_unfolding_all rfl) ?_)
local macro_rules | `(tactic| fail) => `(tactic| with_reducible refine wp_len_L (lsAt_of (by assumption)) ?_)
local macro_rules | `(tactic| fail) => `(tactic| with_reducible refine wp_ixL (lsAt_of (by assumption)) (by with_unfolding_all rfl) ?_)
local macro_rules | `(tactic| fail) => `(tactic| ((with_reducible refine wp_powI ?_ ?_); decide))
local macro_rules | `(tactic| fail) => `(tactic| with_reducible refine wp_abs ?_)
local macro_rules | `(tactic| fail) => `(tactic| with_reducible refine wp_intB ?_)
local macro_rules | `(tactic| fail) => `(tactic| with_reducible refine wp_int ?_)
local macro_rules | `(tactic| fail) => `(tactic| with_reducible refine wp_neg ?_)
local macro_rules | `(tactic| fail) => `(tactic| with_reducible refine wp_neS ?_)
local macro_rules | `(tactic| fail) => `(tactic| with_reducible refine wp_eqS ?_)
local macro_rules | `(tactic| fail) => `(tactic| with_reducible refine wp_neB ?_)
local macro_rules | `(tactic| fail) => `(tactic| with_reducible refine wp_eqB ?_)
local macro_rules | `(tactic| fail) => `(tactic| with_reducible refine wp_neI ?_)
local macro_rules | `(tactic| fail) => `(tactic| with_reducible refine wp_eqI ?_)
local macro_rules | `(tactic| fail) => `(tactic| with_reducible refine wp_geI ?_)
local macro_rules | `(tactic| fail) => `(tactic| with_reducible refine wp_gtI ?_)
local macro_rules | `(tactic| fail) => `(tactic| with_reducible refine wp_leI ?_)
local macro_rules | `(tactic| fail) => `(tactic| with_reducible refine wp_ltI ?_)
local macro_rules | `(tactic| fail) => `(tactic| with_reducible refine wp_subI ?_)
local macro_rules | `(tactic| fail) => `(tactic| with_reducible refine wp_addI ?_)
local macro_rules | `(tactic| fail) => `(tactic| with_reducible refine wp_mChain ?_)
local macro_rules | `(tactic| fail) => `(tactic| with_reducible refine wp_mMeth ?_)
local macro_rules | `(tactic| fail) => `(tactic| with_reducible refine wp_pAt ?_)
local macro_rules | `(tactic| fail) => `(tactic| with_reducible refine wp_pNo ?_)
local macro_rules | `(tactic| fail) => `(tactic| with_reducible refine wp_mSl ?_)
local macro_rules | `(tactic| fail) => `(tactic| with_reducible refine wp_mNotV ?_)
local macro_rules | `(tactic| fail) => `(tactic| with_reducible refine wp_mNotT ?_)
local macro_rules | `(tactic| fail) => `(tactic| with_reducible refine wp_mIfE ?_)
local macro_rules | `(tactic| fail) => `(tactic| with_reducible refine wp_mLst ?_)
local macro_rules | `(tactic| fail) => `(tactic| with_reducible refine wp_mTup ?_)
local macro_rules | `(tactic| fail) => `(tactic| with_reducible refine wp_m1 ?_)
local macro_rules | `(tactic| fail) => `(tactic| with_reducible refine wp_mTest ?_)
local macro_rules | `(tactic| fail) => `(tactic| with_reducible refine wp_aNil ?_)
local macro_rules | `(tactic| fail) => `(tactic| with_reducible refine wp_aCons ?_)
local macro_rules | `(tactic| fail) => `(tactic| with_reducible refine wp_mCall ?_)
local macro_rules | `(tactic| fail) => `(tactic| with_reducible refine wp_mC ?_)
local macro_rules | `(tactic| fail) => `(tactic| with_reducible refine wp_mV (by with_unfolding_all rfl) ?_)
local macro_rules | `(tactic| fail) => `(tactic| with_reducible refine wp_m2 ?_)
local macro_rules | `(tactic| fail) => `(tactic| with_reducible refine wp_neSS ?_)
local macro_rules | `(tactic| fail) => `(tactic| with_reducible refine wp_neII ?_)
local macro_rules | `(tactic| fail) => `(tactic| with_reducible refine wp_neBB ?_)
local macro_rules | `(tactic| fail) => `(tactic| with_reducible refine wp_eqSS ?_)
local macro_rules | `(tactic| fail) => `(tactic| with_reducible refine wp_eqII ?_)
local macro_rules | `(tactic| fail) => `(tactic| with_reducible refine wp_eqBB ?_)
local macro_rules | `(tactic| fail) => `(tactic| with_reducible refine wp_iaddI ?_)
local macro_rules | `(tactic| fail) => `(tactic| with_reducible refine ws_aug (by with_unfolding_all rfl) ?_)
local macro_rules | `(tactic| fail) => `(tactic| with_reducible refine ws_gTup (by with_unfolding_all rfl) ?_)
local macro_rules | `(tactic| fail) => `(tactic| with_reducible refine ws_gsNil ?_)
local macro_rules | `(tactic| fail) => `(tactic| with_reducible refine ws_gsCons ?_)
local macro_rules | `(tactic| fail) => `(tactic| with_reducible refine ws_bk ?_)
local macro_rules | `(tactic| fail) => `(tactic| with_reducible refine ws_ct ?_)
local macro_rules | `(tactic| fail) => `(tactic| with_reducible refine ws_par ?_)
local macro_rules | `(tactic| fail) => `(tactic| with_reducible refine ws_retN ?_)
local macro_rules | `(tactic| fail) => `(tactic| with_reducible refine ws_nx ?_)
local macro_rules | `(tactic| fail) => `(tactic| with_reducible refine ws_gN ?_)
local macro_rules | `(tactic| fail) => `(tactic| with_reducible refine ws_gIt ?_)
local macro_rules | `(tactic| fail) => `(tactic| with_reducible refine ws_asg ?_)
local macro_rules | `(tactic| fail) => `(tactic| with_reducible refine ws_if ?_)
local macro_rules | `(tactic| fail) => `(tactic| with_reducible refine ws_expr ?_)
local macro_rules | `(tactic| fail) => `(tactic| with_reducible refine ws_ret ?_)
local macro_rules | `(tactic| fail) => `(tactic| with_reducible refine ws_set ?_)
local macro_rules | `(tactic| fail) => `(tactic| with_reducible refine ws_seq ?_)
section
variable {Q : D → MH → Prop} {h : MH}
theorem is_number_int {i : Int} (q : Q (.bl true) h) : Wp (m_is_number [.int i] h) Q := by
  unfold m_is_number b_is_number
  refine wp_def ?_
  repeat fail
  refine wp_mAndV ?_
  repeat fail
  exact q
theorem is_number_tup {ds : List D} (q : Q (.bl false) h) : Wp (m_is_number [.tup ds] h) Q := by
  unfold m_is_number b_is_number
  refine wp_def ?_
  repeat fail
  refine wp_mAndV ?_
  repeat fail
  exact q
theorem is_within_int {i a b : Int} (q : Q (.bl (decide (a ≤ i ∧ i ≤ b))) h) : Wp (m_is_within [.int i, .int a, .int b] h) Q := by
  unfold m_is_within b_is_within
  refine wp_def ?_
  repeat fail
  refine wp_mAndV ?_
  repeat fail
  refine is_number_int ?_
  repeat fail
  with_reducible refine if_dec ?_ ?_
  · intro e1
    repeat fail
    simpa [e1] using q
  · intro e1
    simpa [e1] using q
theorem is_listed_sq {d : D} {xs : List D} (e : sqD h d = some xs) (q : Q (.bl true) h) : Wp (m_is_listed [d] h) Q := by
  unfold m_is_listed b_is_listed
  refine wp_def ?_
  repeat fail
  cases d with
  | tup ds => exact wp_isis (a := "tuple") rfl (by decide) q
  | ref k => exact wp_isis (a := "list") (ty_ls e) (by decide) q
  | _ => cases e
theorem is_word_in {x : Str} {ws : List Str} (hx : SeqAt.shaped (.str x) = true) (hw : SeqAt.shaped (.tuple (ws.map PyData.str)) = true) (q : Q (.bl ((ws.map PyData.str).any fun z => PyData.eqv z (.str x))) h) : Wp (m_is_word_of [.str x, .tup (ws.map D.str)] h) Q := by
  unfold m_is_word_of b_is_word_of
  refine wp_def ?_
  repeat fail
  refine wp_mAndV ?_
  repeat fail
  exact wp_in (inD_tup (p := .str x) rfl (pd_strs ws) hx hw) q
theorem is_word_yes {x : Str} {ws : List Str} (hx : (SeqAt.shaped (.str x) && SeqAt.shaped (.tuple (ws.map PyData.str)) && (ws.map PyData.str).any fun z => PyData.eqv z (.str x)) = true) (q : Q (.bl true) h) : Wp (m_is_word_of [.str x, .tup (ws.map D.str)] h) Q := by
  simp only [Bool.and_eq_true] at hx
  refine is_word_in hx.1.1 hx.1.2 ?_
  rw [hx.2]
  exact q
end
end Lw
namespace Lw
open PySem PySem.Spec PyProof.Rows L2 Sm
noncomputable def b_is_item : MSt := (mSeq (mIfS (mTest (mCall m_is_number (aCons (mV 0) aNil))) (mRet (mC (.bl true))) mNx)
  (mSeq (mIfS (mOrT (mNotT (mTest (mCall fIsi (aCons (mV 0) (aCons (mC (.ty "tuple")) aNil))))) (mOrT (mTest (m2 gNe (mCall fLen (aCons (mV 0) aNil)) (mC (.int 2)))) (mNotT (mTest (mCall m_is_word_of (aCons (m2 gIx (mV 0) (mC (.int 0))) (aCons (mTup (aCons (mC (.str "input")) aNil)) aNil))))))) (mRet (mC (.bl false))) mNx)
  (mRet (mCall m_is_within (aCons (m2 gIx (mV 0) (mC (.int 1))) (aCons (mC (.int 0)) (aCons (m2 gSub (mC (.int 200)) (mC (.int 1))) aNil)))))))
noncomputable def m_is_item : MF := mDef 1 b_is_item
noncomputable def b_is_condition : MSt := (mSeq (mIfS (mOrT (mNotT (mTest (mCall fIsi (aCons (mV 0) (aCons (mC (.ty "tuple")) aNil))))) (mOrT (mTest (m2 gNe (mCall fLen (aCons (mV 0) aNil)) (mC (.int 3)))) (mNotT (mTest (mCall m_is_word_of (aCons (m2 gIx (mV 0) (mC (.int 0))) (aCons (mTup (aCons (mC (.str "less")) (aCons (mC (.str "same")) aNil))) aNil))))))) (mRet (mC (.bl false))) mNx)
  (mRet (mAndV (mCall m_is_item (aCons (m2 gIx (mV 0) (mC (.int 1))) aNil)) (mCall m_is_item (aCons (m2 gIx (mV 0) (mC (.int 2))) aNil)))))
noncomputable def m_is_condition : MF := mDef 1 b_is_condition
noncomputable def b_check_conditions : MSt := (mSeq (mIfS (mOrT (mNotT (mTest (mCall m_is_listed (aCons (mV 0) aNil)))) (mTest (m2 gGt (mCall fLen (aCons (mV 0) aNil)) (mC (.int 1000))))) (mRaise "BadConditions" ["at"] (aCons (m1 gNeg (mC (.int 1))) aNil)) mNx)
  (mFor (iEnumA (aCons (mV 0) aNil)) (gTup 2 (gsCons (gN 1) (gsCons (gN 2) gsNil))) (mIfS (mNotT (mTest (mCall m_is_condition (aCons (mV 2) aNil)))) (mRaise "BadConditions" ["at"] (aCons (mV 1) aNil)) mNx)))
noncomputable def m_check_conditions : MF := mDef 3 b_check_conditions
noncomputable def b_number_of : MSt := (mSeq (mIfS (mTest (mCall fIsi (aCons (mV 0) (aCons (mC (.ty "int")) aNil)))) (mRet (mV 0)) mNx)
  (mRet (mIfE (mTest (m2 gLt (m2 gIx (mV 0) (mC (.int 1))) (mCall fLen (aCons (mV 1) aNil)))) (m2 gIx (mV 1) (m2 gIx (mV 0) (mC (.int 1)))) (mC .non))))
noncomputable def m_number_of : MF := mDef 2 b_number_of
noncomputable def b_is_kept : MSt := (mSeq (mSet 2 (mCall m_number_of (aCons (m2 gIx (mV 0) (mC (.int 1))) (aCons (mV 1) aNil))))
  (mSeq (mSet 3 (mCall m_number_of (aCons (m2 gIx (mV 0) (mC (.int 2))) (aCons (mV 1) aNil))))
  (mSeq (mIfS (mOrT (mTest (m2 gIsY (mV 2) (mC .non))) (mTest (m2 gIsY (mV 3) (mC .non)))) (mRet (mC (.bl false))) mNx)
  (mRet (mIfE (mTest (m2 gEq (m2 gIx (mV 0) (mC (.int 0))) (mC (.str "less")))) (m2 gLt (mV 2) (mV 3)) (m2 gEq (mV 2) (mV 3)))))))
noncomputable def m_is_kept : MF := mDef 4 b_is_kept
noncomputable def b_keeps : MSt := (mSeq (mExpr (mCall m_check_conditions (aCons (mV 0) aNil)))
  (mSeq (mIfS (mNotT (mTest (mCall m_is_listed (aCons (mV 1) aNil)))) (mRaise "NoInput" ["at"] (aCons (m1 gNeg (mC (.int 1))) aNil)) mNx)
  (mSeq (mFor (iEnumA (aCons (mV 1) aNil)) (gTup 2 (gsCons (gN 2) (gsCons (gN 3) gsNil))) (mIfS (mNotT (mTest (mCall m_is_number (aCons (mV 3) aNil)))) (mRaise "NoInput" ["at"] (aCons (mV 2) aNil)) mNx))
  (mRet (mCall fAll (aCons (mLc (iSeq (mV 0)) [4] (gN 4) mYes (mCall m_is_kept (aCons (mV 4) (aCons (mV 1) aNil)))) aNil))))))
noncomputable def m_keeps : MF := mDef 5 b_keeps
noncomputable def b_told_numbers : MSt := (mSeq (mSet 1 (mLst (aCons (mC (.int 0)) aNil)))
  (mSeq (mFor (iSeq (mV 0)) (gN 2) (mExpr (mMeth "list" gExtend (mV 1) (aCons (mLc (iSeq (mSl (mV 2) (pAt (mC (.int 1))) pNo)) [3] (gN 3) (mTest (mCall fIsi (aCons (mV 3) (aCons (mC (.ty "int")) aNil)))) (mV 3)) aNil))))
  (mRet (mV 1))))
noncomputable def m_told_numbers : MF := mDef 4 b_told_numbers
noncomputable def b_raised : MSt := (mSeq (mIfS (mTest (mCall fIsi (aCons (mV 1) (aCons (mC (.ty "int")) aNil)))) (mRet (mIfE (mTest (m2 gLt (mV 1) (mV 2))) (mC .non) (mC (.bl false)))) mNx)
  (mSeq (mIfS (mTest (m2 gGe (m2 gIx (mV 0) (m2 gIx (mV 1) (mC (.int 1)))) (mV 2))) (mRet (mC (.bl false))) mNx)
  (mSeq (mAsg (mV 2) fun d ms h => onlyG ((gIt (mV 0) (m2 gIx (mV 1) (mC (.int 1))) setA) d ms h))
  (mRet (mC (.bl true))))))
noncomputable def m_raised : MF := mDef 3 b_raised
noncomputable def b_turn_of : MSt := (mSeq (mSet 2 (mC (.bl false)))
  (mSeq (mFor (iSeq (mV 0)) (gTup 3 (gsCons (gN 3) (gsCons (gN 4) (gsCons (gN 5) gsNil)))) (mSeq (mSet 6 (mCall fInt (aCons (m2 gEq (mV 3) (mC (.str "less"))) aNil)))
    (mSeq (mSet 7 (mLst (aCons (mCall m_raised (aCons (mV 1) (aCons (mV 5) (aCons (m2 gAdd (mCall m_number_of (aCons (mV 4) (aCons (mV 1) aNil))) (mV 6)) aNil)))) aNil)))
    (mSeq (mIfS (mTest (m2 gEq (mV 3) (mC (.str "same")))) (mExpr (mMeth "list" gAppend (mV 7) (aCons (mCall m_raised (aCons (mV 1) (aCons (mV 4) (aCons (mCall m_number_of (aCons (mV 5) (aCons (mV 1) aNil))) aNil)))) aNil))) mNx)
    (mSeq (mIfS (mTest (m2 gIn (mC .non) (mV 7))) (mRet (mC .non)) mNx)
    (mSet 2 (mOrV (mV 2) (m2 gIn (mC (.bl true)) (mV 7)))))))))
  (mRet (mV 2))))
noncomputable def m_turn_of : MF := mDef 8 b_turn_of
noncomputable def b_least_numbers : MSt := (mSeq (mFor (iSeq (mV 0)) (gN 2) (mFor (iSeq (mSl (mV 2) (pAt (mC (.int 1))) pNo)) (gN 3) (mIfS (mAndT (mTest (mCall fIsi (aCons (mV 3) (aCons (mC (.ty "tuple")) aNil)))) (mTest (m2 gGe (m2 gIx (mV 3) (mC (.int 1))) (mV 1)))) (mRet (mC .non)) mNx)))
  (mSeq (mSet 4 (m2 gMul (mLst (aCons (m2 gSub (mCall fMin (aCons (mCall m_told_numbers (aCons (mV 0) aNil)) aNil)) (mV 1)) aNil)) (mV 1)))
  (mSeq (mFor (iRange1 (aCons (m2 gAdd (mV 1) (mC (.int 3))) aNil)) (gN 5) (mSeq (mSet 6 (mCall m_turn_of (aCons (mV 0) (aCons (mV 4) aNil))))
    (mSeq (mIfS (mTest (m2 gIsY (mV 6) (mC .non))) (mRet (mC .non)) mNx)
    (mIfS (mNotT (mTest (mV 6))) (mRet (mCall fTuple (aCons (mV 4) aNil))) mNx))))
  (mRet (mC .non)))))
noncomputable def m_least_numbers : MF := mDef 7 b_least_numbers
noncomputable def b_numbers_for : MSt := (mSeq (mExpr (mCall m_check_conditions (aCons (mV 0) aNil)))
  (mSeq (mIfS (mNotT (mTest (mCall m_is_within (aCons (mV 1) (aCons (mC (.int 0)) (aCons (mC (.int 200)) aNil)))))) (mRaise "BadNumber" ["value"] (aCons (mV 1) aNil)) mNx)
  (mRet (mCall m_least_numbers (aCons (mV 0) (aCons (mV 1) aNil))))))
noncomputable def m_numbers_for : MF := mDef 2 b_numbers_for
noncomputable def b__law_item : MSt := (mSeq (mIfS (mAndT (mTest (m2 gGt (mCall m__law_draw (aCons (mV 0) (aCons (mC (.int 3)) aNil))) (mC (.int 0)))) (mTest (m2 gGt (mV 1) (mC (.int 0))))) (mRet (mTup (aCons (mC (.str "input")) (aCons (mCall m__law_draw (aCons (mV 0) (aCons (mV 1) aNil))) aNil)))) mNx)
  (mRet (mCall m__law_pick (aCons (mV 0) (aCons (mLst (aCons (mC (.int 0)) (aCons (mC (.int 1)) (aCons (m2 gSub (mCall m__law_draw (aCons (mV 0) (aCons (m2 gAdd (m2 gMul (mC (.int 2)) (mV 2)) (mC (.int 1))) aNil))) (mV 2)) aNil)))) aNil)))))
noncomputable def m__law_item : MF := mDef 3 b__law_item
noncomputable def b__law_conditions : MSt := (mSeq (mSet 4 (mLst aNil))
  (mSeq (mFor (iRange1 (aCons (mCall m__law_draw (aCons (mV 0) (aCons (m2 gAdd (mV 2) (mC (.int 1))) aNil))) aNil)) (gN 5) (mSeq (mSet 6 (mCall m__law_pick (aCons (mV 0) (aCons (mLst (aCons (mC (.str "less")) (aCons (mC (.str "less")) (aCons (mC (.str "same")) aNil)))) aNil))))
    (mExpr (mMeth "list" gAppend (mV 4) (aCons (mTup (aCons (mV 6) (aCons (mCall m__law_item (aCons (mV 0) (aCons (mV 1) (aCons (mV 3) aNil)))) (aCons (mCall m__law_item (aCons (mV 0) (aCons (mV 1) (aCons (mV 3) aNil)))) aNil)))) aNil)))))
  (mRet (mV 4))))
noncomputable def m__law_conditions : MF := mDef 7 b__law_conditions
local macro_rules | `(tactic| fail) => `(tactic| ((with_reducible refine and_ty ?_ ?_); (first | rfl | exact isTy_ls (by assumption) | exact isTy_ls (lsAt_of (by assumption)) | exact isTy_dc (by assumption))))
local macro_rules | `(tactic| fail) => `(tactic| with_reducible refine wp_isi_yes (by first | with_unfolding_all rfl | exact ty_ls (by assumption) | exact ty_ls (lsAt_of (by assumption)) | exact ty_dc (dcAt_of (by assumption))) (by with_unfolding_all decide) ?_)
local macro_rules | `(tactic| fail) => `(tactic| with_reducible refine wp_isi_no (by first | with_unfolding_all rfl | exact ty_ls (by assumption) | exact ty_ls (lsAt_of (by assumption)) | exact ty_dc (dcAt_of (by assumption))) (by with_unfolding_all decide) ?_)
local macro_rules | `(tactic| fail) => `(tactic| with_reducible refine if_no ?_)
local macro_rules | `(tactic| fail) => `(tactic| with_reducible refine if_yes ?_)
local macro_rules | `(tactic| fail) => `(tactic| with_reducible refine if_nf ?_)
local macro_rules | `(tactic| fail) => `(tactic| with_reducible refine if_nt ?_)
local macro_rules | `(tactic| fail) => `(tactic| with_reducible refine wp_iR2' ?_)
local macro_rules | `(tactic| fail) => `(tactic| with_reducible refine wp_iR1' ?_)
local macro_rules | `(tactic| fail) => `(tactic| with_reducible refine wp_listRg1 ?_)
local macro_rules | `(tactic| fail) => `(tactic| with_reducible refine wp_listRg2 ?_)
local macro_rules | `(tactic| fail) => `(tactic| with_reducible refine ex_intL2 ?_)
local macro_rules | `(tactic| fail) => `(tactic| with_reducible refine ex_int1 ?_)
local macro_rules | `(tactic| fail) => `(tactic| with_reducible refine ex_int2 ?_)
local macro_rules | `(tactic| fail) => `(tactic| with_reducible refine ex_two ?_)
local macro_rules | `(tactic| fail) => `(tactic| with_reducible refine ex_int ?_)
local macro_rules | `(tactic| fail) => `(tactic| with_reducible refine ex_bl ?_)
local macro_rules | `(tactic| fail) => `(tactic| ((with_reducible refine and_len ?_ ?_); (exact Nat.le_of_ble_eq_true rfl)))
local macro_rules | `(tactic| fail) => `(tactic| with_reducible refine wp_dnew ?_)
local macro_rules | `(tactic| fail) => `(tactic| with_reducible refine wp_isN (by with_unfolding_all rfl) ?_)
local macro_rules | `(tactic| fail) => `(tactic| with_reducible refine wp_isY (by with_unfolding_all rfl) ?_)
local macro_rules | `(tactic| fail) => `(tactic| with_reducible refine wp_len_L (lsAt_of (by assumption)) ?_)
local macro_rules | `(tactic| fail) => `(tactic| with_reducible refine wp_ixL (lsAt_of (by assumption)) (by with_unfolding_all rfl) ?_)
local macro_rules | `(tactic| fail) => `(tactic| ((with_reducible refine wp_powI ?_ ?_); decide))
local macro_rules | `(tactic| fail) => `(tactic| with_reducible refine wp_abs ?_)
local macro_rules | `(tactic| fail) => `(tactic| with_reducible refine wp_intB ?_)
local macro_rules | `(tactic| fail) => `(tactic| with_reducible refine wp_int ?_)
local macro_rules | `(tactic| fail) => `(tactic| with_reducible refine wp_neg ?_)
local macro_rules | `(tactic| fail) => `(tactic| with_reducible refine wp_neS ?_)
local macro_rules | `(tactic| fail) => `(tactic| with_reducible refine wp_eqS ?_)
local macro_rules | `(tactic| fail) => `(tactic| with_reducible refine wp_neB ?_)
local macro_rules | `(tactic| fail) => `(tactic| with_reducible refine wp_eqB ?_)
local macro_rules | `(tactic| fail) => `(tactic| with_reducible refine wp_neI ?_)
local macro_rules | `(tactic| fail) => `(tactic| with_reducible refine wp_eqI ?_)
local macro_rules | `(tactic| fail) => `(tactic| with_reducible refine wp_geI ?_)
local macro_rules | `(tactic| fail) => `(tactic| with_reducible refine wp_gtI ?_)
local macro_rules | `(tactic| fail) => `(tactic| with_reducible refine wp_leI ?_)
local macro_rules | `(tactic| fail) => `(tactic| with_reducible refine wp_ltI ?_)
local macro_rules | `(tactic| fail) => `(tactic| with_reducible refine wp_subI ?_)
local macro_rules | `(tactic| fail) => `(tactic| with_reducible refine wp_addI ?_)
local macro_rules | `(tactic| fail) => `(tactic| with_reducible refine wp_mChain ?_)
local macro_rules | `(tactic| fail) => `(tactic| with_reducible refine wp_mMeth ?_)
local macro_rules | `(tactic| fail) => `(tactic| with_reducible refine wp_pAt ?_)
local macro_rules | `(tactic| fail) => `(tactic| with_reducible refine wp_pNo ?_)
local macro_rules | `(tactic| fail) => `(tactic| with_reducible refine wp_mSl ?_)
local macro_rules | `(tactic| fail) => `(tactic| with_reducible refine wp_mNotV ?_)
local macro_rules | `(tactic| fail) => `(tactic| with_reducible refine wp_mNotT ?_)
local macro_rules | `(tactic| fail) => `(tactic| with_reducible refine wp_mIfE ?_)
local macro_rules | `(tactic| fail) => `(tactic| with_reducible refine wp_mLst ?_)
local macro_rules | `(tactic| fail) => `(tactic| with_reducible refine wp_mTup ?_)
local macro_rules | `(tactic| fail) => `(tactic| with_reducible refine wp_m1 ?_)
local macro_rules | `(tactic| fail) => `(tactic| with_reducible refine wp_mTest ?_)
local macro_rules | `(tactic| fail) => `(tactic| with_reducible refine wp_aNil ?_)
local macro_rules | `(tactic| fail) => `(tactic| with_reducible refine wp_aCons ?_)
local macro_rules | `(tactic| fail) => `(tactic| with_reducible refine wp_mCall ?_)
local macro_rules | `(tactic| fail) => `(tactic| with_reducible refine wp_mC ?_)
local macro_rules | `(tactic| fail) => `(tactic| with_reducible refine wp_mV (by with_unfolding_all rfl) ?_)
local macro_rules | `(tactic| fail) => `(tactic| with_reducible refine wp_m2 ?_)
local macro_rules | `(tactic| fail) => `(tactic| with_reducible refine wp_neSS ?_)
local macro_rules | `(tactic| fail) => `(tactic| with_reducible refine wp_neII ?_)
local macro_rules | `(tactic| fail) => `(tactic| with_reducible refine wp_neBB ?_)
local macro_rules | `(tactic| fail) => `(tactic| with_reducible refine wp_eqSS ?_)
local macro_rules | `(tactic| fail) => `(tactic| with_reducible refine wp_eqII ?_)
local macro_rules | `(tactic| fail) => `(tactic| with_reducible refine wp_eqBB ?_)
local macro_rules | `(tactic| fail) => `(tactic| with_reducible refine wp_iaddI ?_)
local macro_rules | `(tactic| fail) => `(tactic| with_reducible refine ws_aug (by with_unfolding_all rfl) ?_)
local macro_rules | `(tactic| fail) => `(tactic| with_reducible refine ws_gTup (by with_unfolding_all rfl) ?_)
local macro_rules | `(tactic| fail) => `(tactic| with_reducible refine ws_gsNil ?_)
local macro_rules | `(tactic| fail) => `(tactic| with_reducible refine ws_gsCons ?_)
local macro_rules | `(tactic| fail) => `(tactic| with_reducible refine ws_bk ?_)
local macro_rules | `(tactic| fail) => `(tactic| with_reducible refine ws_ct ?_)
local macro_rules | `(tactic| fail) => `(tactic| with_reducible refine ws_par ?_)
local macro_rules | `(tactic| fail) => `(tactic| with_reducible refine ws_retN ?_)
local macro_rules | `(tactic| fail) => `(tactic| with_reducible refine ws_nx ?_)
local macro_rules | `(tactic| fail) => `(tactic| with_reducible refine ws_gN ?_)
local macro_rules | `(tactic| fail) => `(tactic| with_reducible refine ws_gIt ?_)
local macro_rules | `(tactic| fail) => `(tactic| with_reducible refine ws_asg ?_)
local macro_rules | `(tactic| fail) => `(tactic| with_reducible refine ws_if ?_)
local macro_rules | `(tactic| fail) => `(tactic| with_reducible refine ws_expr ?_)
local macro_rules | `(tactic| fail) => `(tactic| with_reducible refine ws_ret ?_)
local macro_rules | `(tactic| fail) => `(tactic| with_reducible refine ws_set ?_)
local macro_rules | `(tactic| fail) => `(tactic| with_reducible refine ws_seq ?_)
inductive Itm where
  | num (i : Int)
  | inp (k : Nat)
def Itm.d : Itm → D
  | .num i => .int i
  | .inp k => .tup [.str "input", .int k]
def Itm.ok : Itm → Prop
  | .num _ => True
  | .inp k => k < 200
structure Cnd where
  less : Bool
  a : Itm
  b : Itm
def Cnd.d (c : Cnd) : D := .tup [.str (if c.less = true then "less" else "same"), c.a.d, c.b.d]
def Cnd.ok (c : Cnd) : Prop := c.a.ok ∧ c.b.ok
section
variable {Q : D → MH → Prop} {h : MH}
theorem is_item_ok {t : Itm} (ht : t.ok) (q : Q (.bl true) h) : Wp (m_is_item [t.d] h) Q := by
  unfold m_is_item b_is_item
  refine wp_def ?_
  repeat fail
  cases t with
  | num i =>
    refine is_number_int ?_
    repeat fail
    exact q
  | inp k =>
    refine is_number_tup ?_
    repeat fail
    refine wp_mOrT ?_
    show Wp (mNotT _ [some (.tup [.str "input", .int k])] h) _
    repeat fail
    refine wp_mOrT ?_
    repeat fail
    refine wp_len_sq (xs := [.str "input", .int k]) rfl ?_
    repeat fail
    with_reducible refine if_ndec ?_ ?_
    · exact fun z => absurd rfl z
    intro _
    repeat fail
    refine wp_ixT rfl ?_
    repeat fail
    refine is_word_yes (ws := ["input"]) (by decide +kernel) ?_
    repeat fail
    refine wp_ixT rfl ?_
    repeat fail
    refine is_within_int ?_
    have hk : (k : Nat) < 200 := ht
    rw [decide_eq_true (by omega : (0 : Int) ≤ (k : Int) ∧ (k : Int) ≤ 200 - 1)]
    exact q
theorem word_ok (l : Bool) : (SeqAt.shaped (.str (if l = true then ("less" : Str) else "same")) && SeqAt.shaped (.tuple ([("less" : Str), "same"].map PyData.str)) && ([("less" : Str), "same"].map PyData.str).any fun z => PyData.eqv z (.str (if l = true then ("less" : Str) else "same"))) = true := by
  cases l <;> decide +kernel
theorem is_condition_ok {c : Cnd} (hc : c.ok) (q : Q (.bl true) h) : Wp (m_is_condition [c.d] h) Q := by
  obtain ⟨l, a, b⟩ := c
  unfold m_is_condition b_is_condition
  refine wp_def ?_
  repeat fail
  refine wp_mOrT ?_
  show Wp (mNotT _ [some (.tup [.str (if l = true then "less" else "same"), a.d, b.d])] h) _
  repeat fail
  refine wp_mOrT ?_
  repeat fail
  refine wp_len_sq (xs := [.str (if l = true then "less" else "same"), a.d, b.d]) rfl ?_
  repeat fail
  with_reducible refine if_ndec ?_ ?_
  · exact fun z => absurd rfl z
  intro _
  repeat fail
  refine wp_ixT rfl ?_
  repeat fail
  refine is_word_yes (ws := ["less", "same"]) (word_ok l) ?_
  repeat fail
  refine wp_mAndV ?_
  repeat fail
  refine wp_ixT rfl ?_
  repeat fail
  refine is_item_ok hc.1 ?_
  repeat fail
  refine wp_ixT rfl ?_
  repeat fail
  exact is_item_ok hc.2 q
theorem check_ok {d : D} {cs : List Cnd} (e : sqD h d = some (cs.map Cnd.d)) (hl : cs.length ≤ 1000) (hc : ∀ c ∈ cs, c.ok) (q : Q .non h) : Wp (m_check_conditions [d] h) Q := by
  unfold m_check_conditions b_check_conditions
  refine wp_def ?_
  repeat fail
  refine wp_mOrT ?_
  repeat fail
  refine is_listed_sq e ?_
  repeat fail
  refine wp_len_sq e ?_
  repeat fail
  with_reducible refine if_dec ?_ ?_
  · rw [List.length_map]
    intro z
    omega
  intro _
  repeat fail
  refine ws_for (fun done rest ms h' => h' = h ∧ done ++ rest = enumD (cs.map Cnd.d) ∧ ∃ o1 o2, ms = [some d, o1, o2]) (wp_iEA ?_)
  repeat fail
  refine ⟨d, _, rfl, e, fun P hP => ⟨⟨rfl, rfl, _, _, rfl⟩, ?_, ?_⟩⟩
  · rintro done x rest ms h' ⟨rfl, ed, o1, o2, rfl⟩
    refine ⟨hP _ e, ?_⟩
    obtain ⟨y, hy, rfl⟩ := enum_at ed
    rw [List.getElem?_map] at hy
    obtain ⟨c, hcm, rfl⟩ : ∃ c, cs[done.length]? = some c ∧ y = c.d := by
      cases hz : cs[done.length]? with
      | none => rw [hz] at hy; cases hy
      | some c => rw [hz] at hy; cases hy; exact ⟨c, rfl, rfl⟩
    repeat fail
    refine is_condition_ok (hc c (List.mem_of_getElem? hcm)) ?_
    repeat fail
    exact ⟨rfl, by simpa using ed, _, _, rfl⟩
  · rintro done ms h' ⟨rfl, ed, o1, o2, rfl⟩
    exact ⟨hP _ e, q⟩
/-- the number of an item -/
def Itm.at (t : Itm) (row : List Int) : Option Int := match t with
  | .num i => some i
  | .inp k => row[k]?
def optD : Option Int → D
  | some i => .int i
  | none => .non
theorem at_nat {row : List Int} {k : Nat} {i : Int} (e : row[k]? = some i) : atI (row.map D.int) ((k : Nat) : Int) = some (.int i) := int_at (by rw [List.getElem?_map, e]; rfl)
theorem number_of_ok {t : Itm} {r : D} {row : List Int} (e : sqD h r = some (row.map D.int)) (q : Q (optD (t.at row)) h) : Wp (m_number_of [t.d, r] h) Q := by
  unfold m_number_of b_number_of
  refine wp_def ?_
  cases t with
  | num i =>
    show WS ((mSeq _ _ : MSt) [some (.int i), some r] h) _ _ _ _
    repeat fail
    exact q
  | inp k =>
    show WS ((mSeq _ _ : MSt) [some (.tup [.str "input", .int k]), some r] h) _ _ _ _
    repeat fail
    refine wp_ixT rfl ?_
    repeat fail
    refine wp_len_sq e ?_
    repeat fail
    with_reducible refine if_dec ?_ ?_
    · intro hk
      rw [List.length_map] at hk
      obtain ⟨i, hi⟩ : ∃ i, row[k]? = some i := ⟨_, List.getElem?_eq_getElem (by omega)⟩
      repeat fail
      refine wp_ixT rfl ?_
      repeat fail
      refine wp_ixQ e (at_nat hi) ?_
      have : (Itm.inp k).at row = some i := hi
      rw [this] at q
      exact q
    · intro hk
      rw [List.length_map] at hk
      repeat fail
      have : (Itm.inp k).at row = none := List.getElem?_eq_none (by omega)
      rw [this] at q
      exact q
theorem number_of_some {t : Itm} {r : D} {row : List Int} {i : Int} (e : sqD h r = some (row.map D.int)) (hi : t.at row = some i) (q : Q (.int i) h) : Wp (m_number_of [t.d, r] h) Q := number_of_ok e (by rw [hi]; exact q)
def Cnd.kept (row : List Int) (c : Cnd) : Bool := match c.a.at row, c.b.at row with
  | some x, some y => if c.less = true then decide (x < y) else decide (x = y)
  | _, _ => false
theorem kept_tail {c : Cnd} {row : List Int} {r : D} {o : List (Option D)} (q : Q (.bl (c.kept row)) h) :
    WS ((mSeq (mIfS (mOrT (mTest (m2 gIsY (mV 2) (mC .non))) (mTest (m2 gIsY (mV 3) (mC .non)))) (mRet (mC (.bl false))) mNx)
      (mRet (mIfE (mTest (m2 gEq (m2 gIx (mV 0) (mC (.int 0))) (mC (.str "less")))) (m2 gLt (mV 2) (mV 3)) (m2 gEq (mV 2) (mV 3)))) : MSt) [some c.d, some r, some (optD (c.a.at row)), some (optD (c.b.at row))] h) (fun _ h1 => Q .non h1) Q (fun _ _ => False) fun _ _ => False := by
  unfold Cnd.kept at q
  obtain ⟨l, a, b⟩ := c
  show WS ((mSeq _ _ : MSt) [some (.tup [.str (if l = true then "less" else "same"), a.d, b.d]), some r, some (optD (a.at row)), some (optD (b.at row))] h) _ _ _ _
  cases ea : a.at row with
  | none =>
    simp only [ea] at q
    show WS ((mSeq _ _ : MSt) [_, _, some D.non, _] h) _ _ _ _
    repeat fail
    refine wp_mOrT ?_
    repeat fail
    exact q
  | some x =>
    cases eb : b.at row with
    | none =>
      simp only [ea, eb] at q
      show WS ((mSeq _ _ : MSt) [_, _, some (D.int x), some D.non] h) _ _ _ _
      repeat fail
      refine wp_mOrT ?_
      repeat fail
      exact q
    | some y =>
      simp only [ea, eb] at q
      show WS ((mSeq _ _ : MSt) [_, _, some (D.int x), some (D.int y)] h) _ _ _ _
      repeat fail
      refine wp_mOrT ?_
      repeat fail
      refine wp_ixT rfl ?_
      repeat fail
      with_reducible refine if_dec ?_ ?_
      · intro hl
        have : l = true := by
          cases l with
          | true => rfl
          | false => exact absurd hl (by decide)
        subst this
        repeat fail
        exact q
      · intro hl
        have : l = false := by
          cases l with
          | true => exact absurd rfl hl
          | false => rfl
        subst this
        repeat fail
        exact q
theorem is_kept_ok {c : Cnd} {r : D} {row : List Int} (e : sqD h r = some (row.map D.int)) (q : Q (.bl (c.kept row)) h) : Wp (m_is_kept [c.d, r] h) Q := by
  unfold m_is_kept b_is_kept
  refine wp_def ?_
  show WS ((mSeq _ _ : MSt) [some c.d, some r, none, none] h) _ _ _ _
  refine ws_seq (ws_set (wp_mCall (wp_aCons (wp_m2 (wp_mV rfl (wp_mC (wp_ixT (xs := [.str (if c.less = true then "less" else "same"), c.a.d, c.b.d]) rfl (wp_aCons (wp_mV rfl (wp_aNil (number_of_ok e ?_)))))))))))
  refine ws_seq (ws_set (wp_mCall (wp_aCons (wp_m2 (wp_mV rfl (wp_mC (wp_ixT (xs := [.str (if c.less = true then "less" else "same"), c.a.d, c.b.d]) rfl (wp_aCons (wp_mV rfl (wp_aNil (number_of_ok e ?_)))))))))))
  exact kept_tail (o := []) q
theorem keeps_ok {d r : D} {cs : List Cnd} {row : List Int} (e : sqD h d = some (cs.map Cnd.d)) (hl : cs.length ≤ 1000) (hc : ∀ c ∈ cs, c.ok) (er : sqD h r = some (row.map D.int))
    (q : ∀ h1, Gr h h1 → Q (.bl (cs.all fun c => c.kept row)) h1) : Wp (m_keeps [d, r] h) Q := by
  unfold m_keeps b_keeps
  refine wp_def ?_
  repeat fail
  refine check_ok e hl hc ?_
  repeat fail
  refine is_listed_sq er ?_
  repeat fail
  refine ws_for (fun done rest ms h' => h' = h ∧ done ++ rest = enumD (row.map D.int) ∧ ∃ o1 o2 o3, ms = [some d, some r, o1, o2, o3]) (wp_iEA ?_)
  repeat fail
  refine ⟨r, _, rfl, er, fun P hP => ⟨⟨rfl, rfl, _, _, _, rfl⟩, ?_, ?_⟩⟩
  · rintro done x rest ms h' ⟨rfl, ed, o1, o2, o3, rfl⟩
    refine ⟨hP _ er, ?_⟩
    obtain ⟨y, hy, rfl⟩ := enum_at ed
    rw [List.getElem?_map] at hy
    obtain ⟨i, rfl⟩ : ∃ i : Int, y = .int i := by
      cases hz : row[done.length]? with
      | none => rw [hz] at hy; cases hy
      | some c => rw [hz] at hy; cases hy; exact ⟨c, rfl⟩
    repeat fail
    refine is_number_int ?_
    repeat fail
    exact ⟨rfl, by simpa using ed, _, _, _, rfl⟩
  · rintro done ms h' ⟨rfl, ed, o1, o2, o3, rfl⟩
    refine ⟨hP _ er, ?_⟩
    repeat fail
    refine wp_lcT cs Cnd.d (fun _ => true) (fun c => .bl (c.kept row)) (wp_iSq ?_)
    repeat fail
    refine ⟨_, e, fun P hP => ⟨rfl, Nat.le_trans hl (by decide), fun h2 g2 => hP h2 (g2.sq e), fun c _ h2 g2 => ?_, fun h2 g2 e2 => ?_⟩⟩
    · repeat fail
      refine ⟨rfl, .refl, fun _ => ?_⟩
      repeat fail
      refine is_kept_ok (g2.sq er) ?_
      exact ⟨rfl, .refl⟩
    · repeat fail
      have e3 : lsAt h2 h'.length = some ((cs.map fun c => c.kept row).map D.bl) := by
        rw [lsAt_of e2, List.filter_eq_self.mpr (fun _ _ => rfl), List.map_map]
        rfl
      refine wp_all e3 ?_
      rw [show (cs.map fun c => c.kept row).all id = cs.all fun c => c.kept row by rw [List.all_map]; rfl]
      exact q _ g2
/-- an item that stands in a row of so many -/
def Itm.in_ (n : Nat) : Itm → Prop
  | .num _ => True
  | .inp k => k < n
theorem at_in {t : Itm} {row : List Int} (ht : t.in_ row.length) : ∃ i, t.at row = some i := by
  cases t with
  | num i => exact ⟨i, rfl⟩
  | inp k => exact ⟨_, List.getElem?_eq_getElem ht⟩
theorem raised_ok {t : Itm} {n : Nat} {row : List Int} {least : Int} (ht : t.in_ row.length) (e : h[n]? = some (.lst (row.map D.int)))
    (q : ∀ (a : Option Bool) (row' : List Int) (h1 : MH), row'.length = row.length → h1.length = h.length → h1[n]? = some (.lst (row'.map D.int)) → Fr n h h1 → Q (aD a) h1) : Wp (m_raised [.ref n, t.d, .int least] h) Q := by
  unfold m_raised b_raised
  refine wp_def ?_
  cases t with
  | num i =>
    show WS ((mSeq _ _ : MSt) [some (.ref n), some (.int i), some (.int least)] h) _ _ _ _
    repeat fail
    with_reducible refine if_dec ?_ ?_
    · intro _
      repeat fail
      exact q none row h rfl rfl e .refl
    · intro _
      repeat fail
      exact q (some false) row h rfl rfl e .refl
  | inp k =>
    have hk : k < row.length := ht
    have hi := List.getElem?_eq_getElem hk
    show WS ((mSeq _ _ : MSt) [some (.ref n), some (.tup [.str "input", .int k]), some (.int least)] h) _ _ _ _
    repeat fail
    refine wp_ixT rfl ?_
    repeat fail
    refine wp_ixL (lsAt_of e) (at_nat hi) ?_
    repeat fail
    with_reducible refine if_dec ?_ ?_
    · intro _
      repeat fail
      exact q (some false) row h rfl rfl e .refl
    · intro _
      repeat fail
      refine wp_ixT rfl ?_
      refine ⟨_, setA_L e (j := k) ?_, ?_⟩
      · rw [List.length_map]
        unfold ixN
        rw [if_pos (by omega), if_pos (by omega)]
        rfl
      · repeat fail
        refine q (some true) (row.set k least) _ (by simp) (by simp) ?_ (fr_set _)
        rw [at_set (lt_of_at e), List.map_set]
theorem turn_ok {d : D} {cs : List Cnd} {n : Nat} {row : List Int} (e : sqD h d = some (cs.map Cnd.d)) (hd : d ≠ .ref n) (hc : ∀ c ∈ cs, c.a.in_ row.length ∧ c.b.in_ row.length) (en : h[n]? = some (.lst (row.map D.int)))
    (q : ∀ (a : Option Bool) (row' : List Int) (h1 : MH), row'.length = row.length → h1[n]? = some (.lst (row'.map D.int)) → Fr n h h1 → Q (aD a) h1) : Wp (m_turn_of [d, .ref n] h) Q := by
  unfold m_turn_of b_turn_of
  refine wp_def ?_
  repeat fail
  refine ws_for (fun done rest ms h1 => ∃ (ch : Bool) (o3 o4 o5 o6 o7 : Option D) (row' : List Int), ms = [some d, some (.ref n), some (.bl ch), o3, o4, o5, o6, o7] ∧ done ++ rest = cs.map Cnd.d ∧ row'.length = row.length ∧ h1[n]? = some (.lst (row'.map D.int)) ∧ Fr n h h1) (wp_iSq ?_)
  repeat fail
  refine ⟨_, e, fun P hP => ⟨⟨false, _, _, _, _, _, row, rfl, rfl, rfl, en, .refl⟩, ?_, ?_⟩⟩
  · rintro done x rest ms h1 ⟨ch, o3, o4, o5, o6, o7, row', rfl, ed, hr, en1, f1⟩
    refine ⟨hP _ (f1.sq hd e), ?_⟩
    have hx : x ∈ cs.map Cnd.d := by rw [← ed]; simp
    obtain ⟨c, hcm, rfl⟩ := List.mem_map.mp hx
    obtain ⟨⟨l, a, b⟩, hc2⟩ : ∃ c', c' = c := ⟨c, rfl⟩
    subst hc2
    obtain ⟨ha, hb⟩ := hc _ hcm
    have ed' : (done ++ [Cnd.d ⟨l, a, b⟩]) ++ rest = cs.map Cnd.d := by simpa using ed
    rw [← hr] at ha hb
    obtain ⟨ia, hia⟩ := at_in ha
    obtain ⟨ib, hib⟩ := at_in hb
    show WS (gTup 3 _ (.tup [.str (if l = true then "less" else "same"), a.d, b.d]) _ h1) _ _ _ _
    repeat fail
    refine number_of_some (t := a) (r := .ref n) (lsAt_of en1) hia ?_
    repeat fail
    refine raised_ok (t := b) hb en1 fun ax row1 h2 hr1 hl2 en2 f2 => ?_
    repeat fail
    generalize hq1 : h2.length = q1
    have eq1 : (h2 ++ [.lst [aD ax]])[q1]? = some (.lst ([ax].map aD)) := by rw [← hq1]; exact at_last
    have en3 := at_app en2 [.lst [aD ax]]
    have hnq : n < q1 := by have := lt_of_at en2; omega
    have f3 : Fr n h (h2 ++ [.lst [aD ax]]) := f1.trans (f2.trans (Gr.app _).fr)
    have hq0 : h.length ≤ q1 := by have := (f1.trans f2).1; omega
    generalize hh3 : h2 ++ [.lst [aD ax]] = h3 at *
    with_reducible refine if_dec ?_ ?_
    · intro _
      repeat fail
      obtain ⟨ib', hib'⟩ := at_in (t := b) (row := row1) (by rw [hr1]; exact hb)
      refine number_of_some (t := b) (r := .ref n) (lsAt_of en3) hib' ?_
      repeat fail
      refine raised_ok (t := a) (by rw [hr1]; exact ha) en3 fun ay row2 h4 hr2 hl4 en4 f4 => ?_
      repeat fail
      have eq4 := f4.at (by omega) eq1
      refine wp_append eq4 (Nat.le_of_ble_eq_true rfl) ?_
      repeat fail
      have eq5 := at_set (lt_of_at eq4) (.lst ([ax].map aD ++ [aD ay]))
      have en5 := at_set_ne en4 (Nat.ne_of_lt hnq) (.lst ([ax].map aD ++ [aD ay]))
      have f5 : Fr n h (h4.set q1 (.lst ([ax].map aD ++ [aD ay]))) := fr_set_new (f3.trans f4) hq0 _
      obtain ⟨c1, hc1⟩ := in_some (as := [ax, ay]) none (lsAt_of eq5)
      obtain ⟨c2, hc2⟩ := in_some (as := [ax, ay]) (some true) (lsAt_of eq5)
      refine wp_in hc1 ?_
      repeat fail
      refine ⟨fun _ => ?_, fun _ => ?_⟩
      · repeat fail
        exact q none row2 _ (by omega) en5 f5
      · repeat fail
        refine wp_mOrV ?_
        repeat fail
        refine ⟨fun _ => ⟨true, _, _, _, _, _, row2, rfl, ed', by omega, en5, f5⟩, fun _ => ?_⟩
        repeat fail
        refine wp_in hc2 ?_
        exact ⟨c2, _, _, _, _, _, row2, rfl, ed', by omega, en5, f5⟩
    · intro _
      repeat fail
      obtain ⟨c1, hc1⟩ := in_some (as := [ax]) none (lsAt_of eq1)
      obtain ⟨c2, hc2⟩ := in_some (as := [ax]) (some true) (lsAt_of eq1)
      refine wp_in hc1 ?_
      repeat fail
      refine ⟨fun _ => ?_, fun _ => ?_⟩
      · repeat fail
        exact q none row1 _ (by omega) en3 f3
      · repeat fail
        refine wp_mOrV ?_
        repeat fail
        refine ⟨fun _ => ⟨true, _, _, _, _, _, row1, rfl, ed', by omega, en3, f3⟩, fun _ => ?_⟩
        repeat fail
        refine wp_in hc2 ?_
        exact ⟨c2, _, _, _, _, _, row1, rfl, ed', by omega, en3, f3⟩
  · rintro done ms h1 ⟨ch, o3, o4, o5, o6, o7, row', rfl, ed, hr, en1, f1⟩
    refine ⟨hP _ (f1.sq hd e), ?_⟩
    repeat fail
    exact q (some ch) row' h1 hr en1 f1
theorem told_ok {d : D} {cs : List Cnd} (e : sqD h d = some (cs.map Cnd.d)) (hl : cs.length ≤ 1000)
    (q : ∀ r (ns : List Int) h1, Gr h h1 → h.length ≤ r → h1[r]? = some (.lst ((0 :: ns).map D.int)) → Q (.ref r) h1) : Wp (m_told_numbers [d] h) Q := by
  unfold m_told_numbers b_told_numbers
  refine wp_def ?_
  repeat fail
  have g0 : Gr h (h ++ [.lst [.int 0]]) := .app _
  refine ws_for (fun done rest ms h1 => ∃ (o2 o3 : Option D) (ns : List Int), ms = [some d, some (.ref h.length), o2, o3] ∧ done ++ rest = cs.map Cnd.d ∧ ns.length ≤ 2 * done.length ∧ h1[h.length]? = some (.lst ((0 :: ns).map D.int)) ∧ Fr h.length (h ++ [.lst [.int 0]]) h1) (wp_iSq ?_)
  repeat fail
  have hd : d ≠ .ref h.length := fun z => by
    subst z
    have := ls_lt (k := h.length) (h := h) e
    omega
  refine ⟨_, g0.sq e, fun P hP => ⟨⟨_, _, [], rfl, rfl, Nat.le_refl _, at_last, .refl⟩, ?_, ?_⟩⟩
  · rintro done x rest ms h1 ⟨o2, o3, ns, rfl, ed, hn, en, f1⟩
    refine ⟨hP _ (f1.sq hd (g0.sq e)), ?_⟩
    have hx : x ∈ cs.map Cnd.d := by rw [← ed]; simp
    have hdl : done.length < 1000 := by
      have := congrArg List.length ed
      rw [List.length_append, List.length_cons, List.length_map] at this
      omega
    obtain ⟨c, hcm, rfl⟩ := List.mem_map.mp hx
    have ed' : (done ++ [c.d]) ++ rest = cs.map Cnd.d := by simpa using ed
    refine ws_gN (ws_expr (wp_mMeth (wp_mV rfl ⟨isTy_ls (lsAt_of en), wp_aCons ?_⟩)))
    refine wp_lcT [c.a, c.b] Itm.d (fun t => match t with | .num _ => true | .inp _ => false) Itm.d (wp_iSq ?_)
    repeat fail
    refine wp_slT (ds := [.str (if c.less = true then "less" else "same"), c.a.d, c.b.d]) ?_
    refine ⟨_, rfl, fun P2 hP2 => ⟨rfl, Nat.le_of_ble_eq_true rfl, fun h2 _ => hP2 h2 rfl, fun t _ h2 g2 => ?_, fun h2 g2 e2 => ?_⟩⟩
    · cases t with
      | num i =>
        show WS (gN 3 (.int i) _ h2) _ _ _ _
        repeat fail
        refine ⟨rfl, .refl, fun _ => ?_⟩
        repeat fail
        exact ⟨rfl, .refl⟩
      | inp k =>
        show WS (gN 3 (.tup [.str "input", .int k]) _ h2) _ _ _ _
        repeat fail
        exact ⟨rfl, .refl, fun z => nomatch z⟩
    · repeat fail
      obtain ⟨ms', hms, hml⟩ : ∃ ms' : List Int, ([c.a, c.b].filter fun t => match t with | .num _ => true | .inp _ => false).map Itm.d = ms'.map D.int ∧ ms'.length ≤ 2 := by
        cases c.a with
        | num i =>
          cases c.b with
          | num j => exact ⟨[i, j], rfl, Nat.le_refl _⟩
          | inp k => exact ⟨[i], rfl, by simp⟩
        | inp l =>
          cases c.b with
          | num j => exact ⟨[j], rfl, by simp⟩
          | inp k => exact ⟨[], rfl, by decide⟩
      rw [hms] at e2
      have en2 := g2 _ _ en
      refine wp_extend en2 e2 (Nat.le_trans (by simp; omega : ((0 :: ns).map D.int).length + (ms'.map D.int).length ≤ 3000) (by decide)) ?_
      refine ⟨_, _, ns ++ ms', rfl, ed', by simp; omega, ?_, (f1.trans g2.fr).trans (fr_set _)⟩
      rw [at_set (lt_of_at en2)]
      simp
  · rintro done ms h1 ⟨o2, o3, ns, rfl, ed, hn, en, f1⟩
    refine ⟨hP _ (f1.sq hd (g0.sq e)), ?_⟩
    repeat fail
    exact q _ ns h1 (gr_of_fr g0 f1 (Nat.le_refl _)) (Nat.le_refl _) en
def resD : Option (List Int) → D
  | none => .non
  | some row => .tup (row.map D.int)
theorem cons_map {α : Type} {u : α → D} {rs : List α} {d : D} {rest : List D} (e : d :: rest = rs.map u) : ∃ x rs', rs = x :: rs' ∧ d = u x ∧ rest = rs'.map u := by
  cases rs with
  | nil => cases e
  | cons x rs' => rw [List.map_cons] at e; cases e; exact ⟨x, rs', rfl, rfl, rfl⟩
theorem nil_map {α : Type} {u : α → D} {rs : List α} (e : [] = rs.map u) : rs = [] := by
  cases rs with
  | nil => rfl
  | cons x rs' => cases e
theorem least_ok {d : D} {cs : List Cnd} {many : Nat} (e : sqD h d = some (cs.map Cnd.d)) (hl : cs.length ≤ 1000) (hm : many ≤ 200)
    (q : ∀ (res : Option (List Int)) (h1 : MH), (∀ row, res = some row → row.length = many) → Gr h h1 → Q (resD res) h1) : Wp (m_least_numbers [d, .int many] h) Q := by
  unfold m_least_numbers b_least_numbers
  refine wp_def (ws_seq (ws_for (fun done rest ms h1 => h1 = h ∧ ∃ (o2 o3 : Option D) (dn rs : List Cnd), ms = [some d, some (.int many), o2, o3, none, none, none] ∧ cs = dn ++ rs ∧ rest = rs.map Cnd.d ∧ ∀ c ∈ dn, c.a.in_ many ∧ c.b.in_ many) (wp_iSq ?_)))
  repeat fail
  refine ⟨_, e, fun P hP => ⟨⟨rfl, _, _, [], cs, rfl, rfl, rfl, fun _ z => nomatch z⟩, ?_, ?_⟩⟩
  · rintro done x rest ms h1 ⟨rfl, o2, o3, dn, rs, rfl, hcs, er, hin⟩
    refine ⟨hP _ e, ?_⟩
    obtain ⟨c, rs', rfl, rfl, rfl⟩ := cons_map er
    refine ws_gN (ws_for (fun done rest ms h1' => h1' = h1 ∧ ∃ (o3 : Option D) (dn2 rs2 : List Itm), ms = [some d, some (.int many), some c.d, o3, none, none, none] ∧ [c.a, c.b] = dn2 ++ rs2 ∧ rest = rs2.map Itm.d ∧ ∀ t ∈ dn2, t.in_ many) (wp_iSq ?_))
    repeat fail
    refine wp_slT (ds := [.str (if c.less = true then "less" else "same"), c.a.d, c.b.d]) ?_
    refine ⟨_, rfl, fun P2 hP2 => ⟨⟨rfl, _, [], [c.a, c.b], rfl, rfl, rfl, fun _ z => nomatch z⟩, ?_, ?_⟩⟩
    · rintro done2 y rest2 ms2 h2 ⟨rfl, o3', dn2, rs2, rfl, hab, er2, hin2⟩
      refine ⟨hP2 _ rfl, ?_⟩
      obtain ⟨t, rs2', rfl, rfl, rfl⟩ := cons_map er2
      have next : t.in_ many → ∀ o : Option D, h2 = h2 ∧ ∃ (o3 : Option D) (dn2' rs2'' : List Itm), [some d, some (.int many), some c.d, o, none, none, none] = [some d, some (.int many), some c.d, o3, none, none, none] ∧ [c.a, c.b] = dn2' ++ rs2'' ∧ rs2'.map Itm.d = rs2''.map Itm.d ∧ ∀ t ∈ dn2', t.in_ many := fun ht o => ⟨rfl, _, dn2 ++ [t], rs2', rfl, by rw [hab]; simp, rfl, fun u hu => by
        rcases List.mem_append.mp hu with z | z
        · exact hin2 u z
        · rw [List.mem_singleton.mp z]; exact ht⟩
      cases t with
      | num i =>
        show WS (gN 3 (.int i) _ h2) _ _ _ _
        repeat fail
        refine wp_mAndT ?_
        repeat fail
        exact next trivial _
      | inp k =>
        show WS (gN 3 (.tup [.str "input", .int k]) _ h2) _ _ _ _
        repeat fail
        refine wp_mAndT ?_
        repeat fail
        refine wp_ixT rfl ?_
        repeat fail
        with_reducible refine if_dec ?_ ?_
        · intro _
          repeat fail
          exact q none h2 (fun _ z => nomatch z) .refl
        · intro hk
          repeat fail
          exact next (by show k < many; omega) _
    · rintro done2 ms2 h2 ⟨rfl, o3', dn2, rs2, rfl, hab, er2, hin2⟩
      obtain rfl := nil_map er2
      rw [List.append_nil] at hab
      refine ⟨hP2 _ rfl, rfl, _, _, dn ++ [c], rs', rfl, by rw [hcs]; simp, rfl, fun u hu => ?_⟩
      rcases List.mem_append.mp hu with z | z
      · exact hin u z
      · rw [List.mem_singleton.mp z]
        exact ⟨hin2 _ (by rw [← hab]; simp), hin2 _ (by rw [← hab]; simp)⟩
  · rintro done ms h1 ⟨rfl, o2, o3, dn, rs, rfl, hcs, er, hin⟩
    obtain rfl := nil_map er
    rw [List.append_nil] at hcs
    subst hcs
    refine ⟨hP _ e, ?_⟩
    repeat fail
    refine told_ok e hl fun r ns h2 g2 l2 e2 => ?_
    repeat fail
    refine wp_minL (lsAt_of e2) (intsD_map _) ?_
    repeat fail
    refine wp_repL at_last (by simp; exact Nat.le_trans hm (by decide)) (by omega) (by omega) ?_
    repeat fail
    generalize minI 0 ns - (many : Int) = x0
    have g3 : Gr h1 (h2 ++ [.lst [.int x0]] ++ [.lst (List.replicate (many : Int).toNat [D.int x0]).flatten]) := g2.trans ((Gr.app _).trans (.app _))
    have e3 : (h2 ++ [.lst [.int x0]] ++ [.lst (List.replicate (many : Int).toNat [D.int x0]).flatten])[(h2 ++ [MO.lst [.int x0]]).length]? = some (.lst ((List.replicate many x0).map D.int)) := by
      rw [at_last]
      have : ∀ k : Nat, (List.replicate k [D.int x0]).flatten = (List.replicate k x0).map D.int := fun k => by
        induction k with
        | zero => rfl
        | succ k ih => rw [List.replicate_succ, List.flatten_cons, ih, List.replicate_succ, List.map_cons]; rfl
      rw [this]
      simp
    have hn : h1.length ≤ (h2 ++ [MO.lst [.int x0]]).length := by have := g2.len; simp; omega
    generalize (h2 ++ [MO.lst [.int x0]]).length = n at *
    generalize h2 ++ [.lst [.int x0]] ++ [.lst (List.replicate (many : Int).toNat [D.int x0]).flatten] = h3 at *
    have hd : d ≠ .ref n := fun z => by
      subst z
      have := ls_lt (k := n) (h := h1) e
      omega
    refine ws_for (fun done rest ms h4 => ∃ (o2 o3 o5 o6 : Option D) (row : List Int), ms = [some d, some (.int many), o2, o3, some (.ref n), o5, o6] ∧ row.length = many ∧ h4[n]? = some (.lst (row.map D.int)) ∧ Fr n h3 h4) (wp_iR1 ?_)
    repeat fail
    refine ⟨by omega, by omega, ⟨_, _, _, _, List.replicate many x0, rfl, by simp, e3, .refl⟩, ?_, ?_⟩
    · rintro done2 y rest ms h4 ⟨o2, o3, o5, o6, row, rfl, hr, en, f4⟩
      refine ⟨trivial, ?_⟩
      repeat fail
      refine turn_ok ((f4.sq hd (g3.sq e))) hd (fun c hc => by rw [hr]; exact hin c hc) en fun a row' h5 hr5 en5 f5 => ?_
      have fin : Gr h1 h5 := gr_of_fr g3 (f4.trans f5) hn
      cases a with
      | none =>
        show WS ((mSeq _ _ : MSt) [some d, some (.int many), o2, o3, some (.ref n), _, some .non] h5) _ _ _ _
        repeat fail
        exact q none h5 (fun _ z => nomatch z) fin
      | some b =>
        show WS ((mSeq _ _ : MSt) [some d, some (.int many), o2, o3, some (.ref n), _, some (.bl b)] h5) _ _ _ _
        cases b with
        | false =>
          repeat fail
          refine wp_tupleL (lsAt_of en5) ?_
          exact q (some row') h5 (fun _ z => by cases z; omega) fin
        | true =>
          repeat fail
          exact ⟨_, _, _, _, row', rfl, by omega, en5, f4.trans f5⟩
    · rintro done2 ms h4 ⟨o2, o3, o5, o6, row, rfl, hr, en, f4⟩
      refine ⟨trivial, ?_⟩
      repeat fail
      exact q none h4 (fun _ z => nomatch z) (gr_of_fr g3 f4 hn)
theorem numbers_for_ok {d : D} {cs : List Cnd} {many : Nat} (e : sqD h d = some (cs.map Cnd.d)) (hl : cs.length ≤ 1000) (hc : ∀ c ∈ cs, c.ok) (hm : many ≤ 200)
    (q : ∀ (res : Option (List Int)) (h1 : MH), (∀ row, res = some row → row.length = many) → Gr h h1 → Q (resD res) h1) : Wp (m_numbers_for [d, .int many] h) Q := by
  unfold m_numbers_for b_numbers_for
  refine wp_def ?_
  repeat fail
  refine check_ok e hl hc ?_
  repeat fail
  refine is_within_int ?_
  rw [decide_eq_true (by omega : (0 : Int) ≤ (many : Int) ∧ (many : Int) ≤ 200)]
  repeat fail
  exact least_ok e hl hm q
end
section
variable {Q : D → MH → Prop} {h : MH} {p : Nat}
theorem lg3 {x : Int} (hx : x.natAbs < 2 ^ 300) : (2 : Int).natAbs.log2 + x.natAbs.log2 < 1000000 := by
  have h1 : (2 : Int).natAbs.log2 < 100 := by decide
  have h2 := lg (n := x) (Nat.lt_of_lt_of_le hx (Nat.pow_le_pow_right (by decide) (by decide)))
  omega
theorem twice_small {x : Int} (hx : x.natAbs < 2 ^ 300) : (2 * x + 1).natAbs < 2 ^ 400 := by
  have h2 : (2 : Nat) ^ 300 * 2 + 1 < 2 ^ 400 := by decide
  omega
theorem item_ok {many : Nat} {wide : Int} (hp : PotOk p h) (hm : many ≤ 1000) (hw : wide.natAbs < 2 ^ 300)
    (q : ∀ (t : Itm) (h1 : MH), t.in_ many → PotOk p h1 → Fr p h h1 → Q t.d h1) : Wp (m__law_item [.ref p, .int many, .int wide] h) Q := by
  unfold m__law_item b__law_item
  refine wp_def ?_
  repeat fail
  refine wp_mAndT ?_
  repeat fail
  refine draw hp (by decide) fun v h1 v0 v1 _ hp1 f1 l1 => ?_
  repeat fail
  have rest : WS (mRet (mCall m__law_pick (aCons (mV 0) (aCons (mLst (aCons (mC (.int 0)) (aCons (mC (.int 1)) (aCons (m2 gSub (mCall m__law_draw (aCons (mV 0) (aCons (m2 gAdd (m2 gMul (mC (.int 2)) (mV 2)) (mC (.int 1))) aNil))) (mV 2)) aNil)))) aNil))) [some (.ref p), some (.int many), some (.int wide)] h1) (fun _ h1 => Q .non h1) Q (fun _ _ => False) fun _ _ => False := by
    repeat fail
    refine wp_mulI (lg3 hw) ?_
    repeat fail
    refine draw hp1 (twice_small hw) fun u h2 _ _ _ hp2 f2 l2 => ?_
    repeat fail
    have hlt := hp2.lt
    refine pickL (xs := [0, 1, u - wide].map D.int) (hp2.gr (.app _)) (Nat.ne_of_gt hlt) (lsAt_of at_last) (by simp) (Nat.lt_of_le_of_lt (by simp : _ ≤ 3) (by decide)) fun x h3 hx hp3 f3 l3 => ?_
    obtain ⟨i, _, rfl⟩ := List.mem_map.mp hx
    exact q (.num i) h3 trivial hp3 (f1.trans (f2.trans ((Gr.app _).fr.trans f3)))
  with_reducible refine if_dec ?_ ?_
  · intro _
    repeat fail
    with_reducible refine if_dec ?_ ?_
    · intro hm0
      repeat fail
      refine draw hp1 (Nat.lt_of_le_of_lt (by omega : (many : Int).natAbs ≤ 1000) (by decide)) fun u h2 u0 u1 _ hp2 f2 l2 => ?_
      repeat fail
      have u1 := u1 hm0
      have : D.tup [.str "input", .int u] = (Itm.inp u.toNat).d := by
        show D.tup [.str "input", .int u] = D.tup [.str "input", .int (u.toNat : Nat)]
        rw [show ((u.toNat : Nat) : Int) = u by omega]
      rw [this]
      exact q (.inp u.toNat) h2 (by show u.toNat < many; omega) hp2 (f1.trans f2)
    · intro _
      refine ws_nx ?_
      exact rest
  · intro _
    refine if_no ?_
    refine ws_nx ?_
    exact rest
theorem conditions_ok {many : Nat} {most : Nat} {wide : Int} (hp : PotOk p h) (hm : many ≤ 1000) (hmo : most ≤ 1000) (hw : wide.natAbs < 2 ^ 300)
    (q : ∀ (r : Nat) (cs : List Cnd) (h1 : MH), PotOk p h1 → Fr p h h1 → h.length ≤ r → h1[r]? = some (.lst (cs.map Cnd.d)) → cs.length ≤ most → (∀ c ∈ cs, c.a.in_ many ∧ c.b.in_ many) → Q (.ref r) h1) :
    Wp (m__law_conditions [.ref p, .int many, .int most, .int wide] h) Q := by
  unfold m__law_conditions b__law_conditions
  refine wp_def ?_
  repeat fail
  have hpl := hp.lt
  have hrp : h.length ≠ p := Nat.ne_of_gt hpl
  have hp0 := hp.gr (.app [.lst []])
  have f0 : Fr p h (h ++ [.lst []]) := (Gr.app _).fr
  have e0 : (h ++ [.lst []])[h.length]? = some (.lst (([] : List Cnd).map Cnd.d)) := at_last
  generalize h ++ [.lst []] = h0 at *
  refine ws_for (fun done rest ms h1 => ∃ (o5 o6 : Option D) (cs : List Cnd), ms = [some (.ref p), some (.int many), some (.int most), some (.int wide), some (.ref h.length), o5, o6] ∧ PotOk p h1 ∧ Fr p h h1 ∧ done.length + rest.length ≤ most ∧ cs.length = done.length ∧ h1[h.length]? = some (.lst (cs.map Cnd.d)) ∧ ∀ c ∈ cs, c.a.in_ many ∧ c.b.in_ many) (wp_iR1 ?_)
  repeat fail
  refine draw hp0 (Nat.lt_of_le_of_lt (by omega : ((most : Int) + 1).natAbs ≤ 1001) (by decide)) fun v h1 v0 v1 _ hp1 f1 l1 => ?_
  have v1 := v1 (by omega)
  repeat fail
  refine ⟨by omega, by omega, ⟨_, _, [], rfl, hp1, f0.trans f1, by rw [rng_len]; simp; omega, rfl, f1.at hrp e0, fun _ z => nomatch z⟩, ?_, ?_⟩
  · rintro done d rest ms h2 ⟨o5, o6, cs, rfl, hp2, f2, hl, hcl, e2, hin⟩
    rw [List.length_cons] at hl
    refine ⟨trivial, ?_⟩
    repeat fail
    have hlt := hp2.lt
    have hhl := lt_of_at e2
    refine pickL (xs := [true, true, false].map fun l : Bool => .str (if l = true then "less" else "same")) (hp2.gr (.app _)) (Nat.ne_of_gt hlt) (lsAt_of at_last) (by simp) (Nat.lt_of_le_of_lt (by simp : _ ≤ 3) (by decide)) fun x h3 hx hp3 f3 l3 => ?_
    obtain ⟨l, _, rfl⟩ := List.mem_map.mp hx
    repeat fail
    have e3 := f3.at hrp (at_app e2 _)
    refine ⟨isTy_ls (lsAt_of e3), ?_⟩
    repeat fail
    refine item_ok hp3 hm hw fun a h4 ha hp4 f4 => ?_
    repeat fail
    refine item_ok hp4 hm hw fun b h5 hb hp5 f5 => ?_
    repeat fail
    have e5 := f5.at hrp (f4.at hrp e3)
    refine wp_append e5 (by rw [List.length_map]; exact Nat.lt_of_lt_of_le (by omega : cs.length < 1001) (by decide)) ?_
    refine ⟨_, _, cs ++ [⟨l, a, b⟩], rfl, hp5.set hpl _, fr_set_new (f2.trans ((Gr.app _).fr.trans (f3.trans (f4.trans f5)))) (Nat.le_refl _) _, by simp; omega, by simp; omega, ?_, fun c hc => ?_⟩
    · rw [at_set (lt_of_at e5)]
      simp
      rfl
    · rcases List.mem_append.mp hc with z | z
      · exact hin c z
      · rw [List.mem_singleton.mp z]; exact ⟨ha, hb⟩
  · rintro done ms h2 ⟨o5, o6, cs, rfl, hp2, f2, hl, hcl, e2, hin⟩
    refine ⟨trivial, ?_⟩
    repeat fail
    exact q _ cs h2 hp2 f2 (Nat.le_refl _) e2 (by rw [List.length_nil] at hl; omega) hin
end
end Lw
namespace Lw
open PySem PySem.Spec PyProof.Rows L2 Sm
noncomputable def b_place_of_item : MSt := (mSeq (mIfS (mTest (mCall fIsi (aCons (mV 0) (aCons (mC (.ty "int")) aNil)))) (mRet (mTup (aCons (m1 gNeg (mC (.int 1))) (aCons (mV 0) aNil)))) mNx)
  (mRet (mTup (aCons (m2 gIx (mV 0) (mC (.int 1))) (aCons (mC (.int 0)) aNil)))))
noncomputable def m_place_of_item : MF := mDef 1 b_place_of_item
noncomputable def b_edges_of : MSt := (mSeq (mSet 1 (mLst aNil))
  (mSeq (mFor (iEnumA (aCons (mV 0) aNil)) (gTup 2 (gsCons (gN 2) (gsCons (gTup 3 (gsCons (gN 3) (gsCons (gN 4) (gsCons (gN 5) gsNil)))) gsNil))) (mSeq (mAsg (mCall m_place_of_item (aCons (mV 4) aNil)) fun d ms h => onlyG ((gTup 2 (gsCons (gN 6) (gsCons (gN 7) gsNil))) d ms h))
    (mSeq (mAsg (mCall m_place_of_item (aCons (mV 5) aNil)) fun d ms h => onlyG ((gTup 2 (gsCons (gN 8) (gsCons (gN 9) gsNil))) d ms h))
    (mSeq (mExpr (mMeth "list" gAppend (mV 1) (aCons (mTup (aCons (mV 6) (aCons (mV 8) (aCons (m2 gSub (m2 gAdd (mCall fInt (aCons (m2 gEq (mV 3) (mC (.str "less"))) aNil)) (mV 7)) (mV 9)) (aCons (mTup (aCons (mV 2) (aCons (mC (.str "on")) aNil))) aNil))))) aNil)))
    (mIfS (mTest (m2 gEq (mV 3) (mC (.str "same")))) (mExpr (mMeth "list" gAppend (mV 1) (aCons (mTup (aCons (mV 8) (aCons (mV 6) (aCons (m2 gSub (mV 9) (mV 7)) (aCons (mTup (aCons (mV 2) (aCons (mC (.str "back")) aNil))) aNil))))) aNil))) mNx)))))
  (mRet (mV 1))))
noncomputable def m_edges_of : MF := mDef 10 b_edges_of
noncomputable def b_ring_along : MSt := (mSeq (mSet 3 (mCall fLen (aCons (mV 1) aNil)))
  (mSeq (mFor (iRange1 (aCons (mV 3) aNil)) (gN 4) (mSet 2 (m2 gIx (m2 gIx (mV 0) (m2 gIx (mV 1) (mV 2))) (mC (.int 0)))))
  (mSeq (mSet 5 (mV 2))
  (mSeq (mSet 6 (mLst aNil))
  (mSeq (mWhile (mOrT (mTest (m2 gEq (mCall fLen (aCons (mV 6) aNil)) (mC (.int 0)))) (mTest (m2 gNe (mV 2) (mV 5)))) (mSeq (mSet 7 (m2 gIx (mV 0) (m2 gIx (mV 1) (mV 2))))
    (mSeq (mExpr (mMeth "list" gAppend (mV 6) (aCons (m2 gIx (mV 7) (mC (.int 3))) aNil)))
    (mSet 2 (m2 gIx (mV 7) (mC (.int 0)))))))
  (mRet (mCall fTuple (aCons (m1 gRevA (mV 6)) aNil))))))))
noncomputable def m_ring_along : MF := mDef 8 b_ring_along
noncomputable def b_found_ring : MSt := (mSeq (mSet 1 (mCall m_edges_of (aCons (mV 0) aNil)))
  (mSeq (mSet 2 mDnew)
  (mSeq (mFor (iSeq (mV 1)) (gTup 4 (gsCons (gN 3) (gsCons (gN 4) (gsCons (gN 5) (gsCons (gN 6) gsNil))))) (mSeq (mAsg (mC (.int 0)) fun d ms h => onlyG ((gIt (mV 2) (mV 3) setA) d ms h))
    (mAsg (mC (.int 0)) fun d ms h => onlyG ((gIt (mV 2) (mV 4) setA) d ms h))))
  (mSeq (mSet 7 mDnew)
  (mSeq (mFor (iRange1 (aCons (m2 gAdd (mCall fLen (aCons (mV 2) aNil)) (mC (.int 1))) aNil)) (gN 8) (mSeq (mSet 9 (mC .non))
    (mSeq (mFor (iEnumA (aCons (mV 1) aNil)) (gTup 2 (gsCons (gN 10) (gsCons (gTup 4 (gsCons (gN 3) (gsCons (gN 4) (gsCons (gN 5) (gsCons (gN 6) gsNil))))) gsNil))) (mIfS (mTest (m2 gGt (m2 gAdd (m2 gIx (mV 2) (mV 3)) (mV 5)) (m2 gIx (mV 2) (mV 4)))) (mSeq (mAsg (m2 gAdd (m2 gIx (mV 2) (mV 3)) (mV 5)) fun d ms h => onlyG ((gIt (mV 2) (mV 4) setA) d ms h))
    (mSeq (mAsg (mV 10) fun d ms h => onlyG ((gIt (mV 7) (mV 4) setA) d ms h))
    (mSet 9 (mV 4)))) mNx))
    (mIfS (mTest (m2 gIsY (mV 9) (mC .non))) (mRet (mC .non)) mNx))))
  (mRet (mCall m_ring_along (aCons (mV 1) (aCons (mV 7) (aCons (mV 9) aNil))))))))))
noncomputable def m_found_ring : MF := mDef 11 b_found_ring
noncomputable def b_ring_of : MSt := (mSeq (mExpr (mCall m_check_conditions (aCons (mV 0) aNil)))
  (mRet (mCall m_found_ring (aCons (mV 0) aNil))))
noncomputable def m_ring_of : MF := mDef 1 b_ring_of
local macro_rules | `(tactic| fail) => `(tactic| ((with_reducible refine and_ty ?_ ?_); (first | rfl | exact isTy_ls (by assumption) | exact isTy_ls (lsAt_of (by assumption)) | exact isTy_dc (by assumption))))
local macro_rules | `(tactic| fail) => `(tactic| with_reducible refine wp_isi_yes (by first | with_unfolding_all rfl | exact ty_ls (by assumption) | exact ty_ls (lsAt_of (by assumption)) | exact ty_dc (dcAt_of (by assumption))) (by with_unfolding_all decide) ?_)
local macro_rules | `(tactic| fail) => `(tactic| with_reducible refine wp_isi_no (by first | with_unfolding_all rfl | exact ty_ls (by assumption) | exact ty_ls (lsAt_of (by assumption)) | exact ty_dc (dcAt_of (by assumption))) (by with_unfolding_all decide) ?_)
local macro_rules | `(tactic| fail) => `(tactic| with_reducible refine if_no ?_)
local macro_rules | `(tactic| fail) => `(tactic| with_reducible refine if_yes ?_)
local macro_rules | `(tactic| fail) => `(tactic| with_reducible refine if_nf ?_)
local macro_rules | `(tactic| fail) => `(tactic| with_reducible refine if_nt ?_)
local macro_rules | `(tactic| fail) => `(tactic| with_reducible refine wp_iR2' ?_)
local macro_rules | `(tactic| fail) => `(tactic| with_reducible refine wp_iR1' ?_)
local macro_rules | `(tactic| fail) => `(tactic| with_reducible refine wp_listRg1 ?_)
local macro_rules | `(tactic| fail) => `(tactic| with_reducible refine wp_listRg2 ?_)
local macro_rules | `(tactic| fail) => `(tactic| with_reducible refine ex_intL2 ?_)
local macro_rules | `(tactic| fail) => `(tactic| with_reducible refine ex_int1 ?_)
local macro_rules | `(tactic| fail) => `(tactic| with_reducible refine ex_int2 ?_)
local macro_rules | `(tactic| fail) => `(tactic| with_reducible refine ex_two ?_)
local macro_rules | `(tactic| fail) => `(tactic| with_reducible refine ex_int ?_)
local macro_rules | `(tactic| fail) => `(tactic| with_reducible refine ex_bl ?_)
local macro_rules | `(tactic| fail) => `(tactic| ((with_reducible refine and_len ?_ ?_); (exact Nat.le_of_ble_eq_true rfl)))
local macro_rules | `(tactic| fail) => `(tactic| with_reducible refine wp_dnew ?_)
local macro_rules | `(tactic| fail) => `(tactic| with_reducible refine wp_isN (by with_unfolding_all rfl) ?_)
local macro_rules | `(tactic| fail) => `(tactic| with_reducible refine wp_isY (by with_unfolding_all rfl) ?_)
local macro_rules | `(tactic| fail) => `(tactic| with_reducible refine wp_len_L (lsAt_of (by assumption)) ?_)
local macro_rules | `(tactic| fail) => `(tactic| with_reducible refine wp_ixL (lsAt_of (by assumption)) (by with_unfolding_all rfl) ?_)
local macro_rules | `(tactic| fail) => `(tactic| ((with_reducible refine wp_powI ?_ ?_); decide))
local macro_rules | `(tactic| fail) => `(tactic| with_reducible refine wp_abs ?_)
local macro_rules | `(tactic| fail) => `(tactic| with_reducible refine wp_intB ?_)
local macro_rules | `(tactic| fail) => `(tactic| with_reducible refine wp_int ?_)
local macro_rules | `(tactic| fail) => `(tactic| with_reducible refine wp_neg ?_)
local macro_rules | `(tactic| fail) => `(tactic| with_reducible refine wp_neS ?_)
local macro_rules | `(tactic| fail) => `(tactic| with_reducible refine wp_eqS ?_)
local macro_rules | `(tactic| fail) => `(tactic| with_reducible refine wp_neB ?_)
local macro_rules | `(tactic| fail) => `(tactic| with_reducible refine wp_eqB ?_)
local macro_rules | `(tactic| fail) => `(tactic| with_reducible refine wp_neI ?_)
local macro_rules | `(tactic| fail) => `(tactic| with_reducible refine wp_eqI ?_)
local macro_rules | `(tactic| fail) => `(tactic| with_reducible refine wp_geI ?_)
local macro_rules | `(tactic| fail) => `(tactic| with_reducible refine wp_gtI ?_)
local macro_rules | `(tactic| fail) => `(tactic| with_reducible refine wp_leI ?_)
local macro_rules | `(tactic| fail) => `(tactic| with_reducible refine wp_ltI ?_)
local macro_rules | `(tactic| fail) => `(tactic| with_reducible refine wp_subI ?_)
local macro_rules | `(tactic| fail) => `(tactic| with_reducible refine wp_addI ?_)
local macro_rules | `(tactic| fail) => `(tactic| with_reducible refine wp_mChain ?_)
local macro_rules | `(tactic| fail) => `(tactic| with_reducible refine wp_mMeth ?_)
local macro_rules | `(tactic| fail) => `(tactic| with_reducible refine wp_pAt ?_)
local macro_rules | `(tactic| fail) => `(tactic| with_reducible refine wp_pNo ?_)
local macro_rules | `(tactic| fail) => `(tactic| with_reducible refine wp_mSl ?_)
local macro_rules | `(tactic| fail) => `(tactic| with_reducible refine wp_mNotV ?_)
local macro_rules | `(tactic| fail) => `(tactic| with_reducible refine wp_mNotT ?_)
local macro_rules | `(tactic| fail) => `(tactic| with_reducible refine wp_mIfE ?_)
local macro_rules | `(tactic| fail) => `(tactic| with_reducible refine wp_mLst ?_)
local macro_rules | `(tactic| fail) => `(tactic| with_reducible refine wp_mTup ?_)
local macro_rules | `(tactic| fail) => `(tactic| with_reducible refine wp_m1 ?_)
local macro_rules | `(tactic| fail) => `(tactic| with_reducible refine wp_mTest ?_)
local macro_rules | `(tactic| fail) => `(tactic| with_reducible refine wp_aNil ?_)
local macro_rules | `(tactic| fail) => `(tactic| with_reducible refine wp_aCons ?_)
local macro_rules | `(tactic| fail) => `(tactic| with_reducible refine wp_mCall ?_)
local macro_rules | `(tactic| fail) => `(tactic| with_reducible refine wp_mC ?_)
local macro_rules | `(tactic| fail) => `(tactic| with_reducible refine wp_mV (by with_unfolding_all rfl) ?_)
local macro_rules | `(tactic| fail) => `(tactic| with_reducible refine wp_m2 ?_)
local macro_rules | `(tactic| fail) => `(tactic| with_reducible refine wp_neSS ?_)
local macro_rules | `(tactic| fail) => `(tactic| with_reducible refine wp_neII ?_)
local macro_rules | `(tactic| fail) => `(tactic| with_reducible refine wp_neBB ?_)
local macro_rules | `(tactic| fail) => `(tactic| with_reducible refine wp_eqSS ?_)
local macro_rules | `(tactic| fail) => `(tactic| with_reducible refine wp_eqII ?_)
local macro_rules | `(tactic| fail) => `(tactic| with_reducible refine wp_eqBB ?_)
local macro_rules | `(tactic| fail) => `(tactic| with_reducible refine wp_iaddI ?_)
local macro_rules | `(tactic| fail) => `(tactic| with_reducible refine ws_aug (by with_unfolding_all rfl) ?_)
local macro_rules | `(tactic| fail) => `(tactic| with_reducible refine ws_gTup (by with_unfolding_all rfl) ?_)
local macro_rules | `(tactic| fail) => `(tactic| with_reducible refine ws_gsNil ?_)
local macro_rules | `(tactic| fail) => `(tactic| with_reducible refine ws_gsCons ?_)
local macro_rules | `(tactic| fail) => `(tactic| with_reducible refine ws_bk ?_)
local macro_rules | `(tactic| fail) => `(tactic| with_reducible refine ws_ct ?_)
local macro_rules | `(tactic| fail) => `(tactic| with_reducible refine ws_par ?_)
local macro_rules | `(tactic| fail) => `(tactic| with_reducible refine ws_retN ?_)
local macro_rules | `(tactic| fail) => `(tactic| with_reducible refine ws_nx ?_)
local macro_rules | `(tactic| fail) => `(tactic| with_reducible refine ws_gN ?_)
local macro_rules | `(tactic| fail) => `(tactic| with_reducible refine ws_gIt ?_)
local macro_rules | `(tactic| fail) => `(tactic| with_reducible refine ws_asg ?_)
local macro_rules | `(tactic| fail) => `(tactic| with_reducible refine ws_if ?_)
local macro_rules | `(tactic| fail) => `(tactic| with_reducible refine ws_expr ?_)
local macro_rules | `(tactic| fail) => `(tactic| with_reducible refine ws_ret ?_)
local macro_rules | `(tactic| fail) => `(tactic| with_reducible refine ws_set ?_)
local macro_rules | `(tactic| fail) => `(tactic| with_reducible refine ws_seq ?_)
structure Edg where
  a : Int
  b : Int
  w : Int
  at_ : Nat
  on : Bool
def Edg.pair (e : Edg) : D := .tup [.int (e.at_ : Nat), .str (if e.on = true then "on" else "back")]
def Edg.d (e : Edg) : D := .tup [.int e.a, .int e.b, .int e.w, e.pair]
def Itm.pl : Itm → Int × Int
  | .num i => (-1, i)
  | .inp k => (k, 0)
def Cnd.edges (i : Nat) (c : Cnd) : List Edg :=
  ⟨c.a.pl.1, c.b.pl.1, (if c.less = true then 1 else 0) + c.a.pl.2 - c.b.pl.2, i, true⟩ :: (if c.less = true then [] else [⟨c.b.pl.1, c.a.pl.1, c.b.pl.2 - c.a.pl.2, i, false⟩])
def edgesF : Nat → List Cnd → List Edg
  | _, [] => []
  | i, c :: r => c.edges i ++ edgesF (i + 1) r
section
variable {Q : D → MH → Prop} {h : MH}
theorem place_ok {t : Itm} (q : Q (.tup [.int t.pl.1, .int t.pl.2]) h) : Wp (m_place_of_item [t.d] h) Q := by
  unfold m_place_of_item b_place_of_item
  refine wp_def ?_
  cases t with
  | num i =>
    show WS ((mSeq _ _ : MSt) [some (.int i)] h) _ _ _ _
    repeat fail
    exact q
  | inp k =>
    show WS ((mSeq _ _ : MSt) [some (.tup [.str "input", .int k])] h) _ _ _ _
    repeat fail
    refine wp_ixT rfl ?_
    repeat fail
    exact q
theorem edgesF_app : ∀ (l r : List Cnd) (i : Nat), edgesF i (l ++ r) = edgesF i l ++ edgesF (i + l.length) r
  | [], r, i => rfl
  | c :: l, r, i => by
    show c.edges i ++ edgesF (i + 1) (l ++ r) = (c.edges i ++ edgesF (i + 1) l) ++ _
    rw [edgesF_app l r (i + 1), List.append_assoc, List.length_cons, show i + 1 + l.length = i + (l.length + 1) by omega]
theorem edgesF_len : ∀ (l : List Cnd) (i : Nat), (edgesF i l).length ≤ 2 * l.length
  | [], i => Nat.zero_le _
  | c :: l, i => by
    have := edgesF_len l (i + 1)
    have h2 : (c.edges i).length ≤ 2 := by
      unfold Cnd.edges
      split <;> simp
    show (c.edges i ++ edgesF (i + 1) l).length ≤ _
    rw [List.length_append, List.length_cons]
    omega
theorem edges_ok {d : D} {cs : List Cnd} (e : sqD h d = some (cs.map Cnd.d)) (hl : cs.length ≤ 1000)
    (q : ∀ (r : Nat) (h1 : MH), Gr h h1 → h.length ≤ r → h1[r]? = some (.lst ((edgesF 0 cs).map Edg.d)) → Q (.ref r) h1) : Wp (m_edges_of [d] h) Q := by
  unfold m_edges_of b_edges_of
  refine wp_def ?_
  repeat fail
  have g0 : Gr h (h ++ [.lst []]) := .app _
  have e0 : (h ++ [.lst []])[h.length]? = some (.lst (([] : List Edg).map Edg.d)) := at_last
  have hd : d ≠ .ref h.length := fun z => by
    subst z
    have := ls_lt (k := h.length) (h := h) e
    omega
  generalize h ++ [.lst []] = h0 at *
  refine ws_for (fun done rest ms h1 => ∃ (o2 o3 o4 o5 o6 o7 o8 o9 : Option D) (dn rs : List Cnd), ms = [some d, some (.ref h.length), o2, o3, o4, o5, o6, o7, o8, o9] ∧ cs = dn ++ rs ∧ done.length = dn.length ∧ done ++ rest = enumD (cs.map Cnd.d) ∧ Fr h.length h0 h1 ∧ h1[h.length]? = some (.lst ((edgesF 0 dn).map Edg.d))) (wp_iEA ?_)
  repeat fail
  refine ⟨d, _, rfl, g0.sq e, fun P hP => ⟨⟨_, _, _, _, _, _, _, _, [], cs, rfl, rfl, rfl, rfl, .refl, e0⟩, ?_, ?_⟩⟩
  · rintro done x rest ms h1 ⟨o2, o3, o4, o5, o6, o7, o8, o9, dn, rs, rfl, hcs, hdl, ed, f1, e1⟩
    refine ⟨hP _ (f1.sq hd (g0.sq e)), ?_⟩
    obtain ⟨y, hy, rfl⟩ := enum_at ed
    have hlen := congrArg List.length ed
    rw [List.length_append, List.length_cons, enum_len, List.length_map] at hlen
    have hcl : cs.length = dn.length + rs.length := by rw [hcs]; simp
    obtain ⟨c, rs', rfl⟩ : ∃ c rs', rs = c :: rs' := by
      cases rs with
      | nil => simp at hcl; omega
      | cons c rs' => exact ⟨c, rs', rfl⟩
    have hyc : y = c.d := by
      rw [hdl, List.getElem?_map, hcs] at hy
      simp at hy
      exact hy.symm
    subst hyc
    rw [hdl]
    have ed' : (done ++ [D.tup [.int (done.length : Nat), c.d]]) ++ rest = enumD (cs.map Cnd.d) := by simpa using ed
    have hel := edgesF_len dn 0
    obtain ⟨l, a, b⟩ := c
    show WS (gTup 2 _ (.tup [.int (dn.length : Nat), .tup [.str (if l = true then "less" else "same"), a.d, b.d]]) _ h1) _ _ _ _
    repeat fail
    refine place_ok (t := a) ?_
    repeat fail
    refine place_ok (t := b) ?_
    repeat fail
    have hw : (if decide ((if l = true then ("less" : Str) else "same") = "less") = true then (1 : Int) else 0) = if l = true then 1 else 0 := by
      cases l <;> decide +kernel
    refine wp_append e1 (by rw [List.length_map]; exact Nat.lt_of_lt_of_le (by omega : (edgesF 0 dn).length < 3000) (by decide)) ?_
    repeat fail
    have e2 := at_set (lt_of_at e1) (.lst ((edgesF 0 dn).map Edg.d ++ [.tup [.int a.pl.1, .int b.pl.1, .int ((if decide ((if l = true then ("less" : Str) else "same") = "less") = true then (1 : Int) else 0) + a.pl.2 - b.pl.2), .tup [.int (dn.length : Nat), .str "on"]]]))
    have f2 : Fr h.length h0 (h1.set h.length (.lst ((edgesF 0 dn).map Edg.d ++ [.tup [.int a.pl.1, .int b.pl.1, .int ((if decide ((if l = true then ("less" : Str) else "same") = "less") = true then (1 : Int) else 0) + a.pl.2 - b.pl.2), .tup [.int (dn.length : Nat), .str "on"]]]))) := f1.trans (fr_set _)
    generalize h1.set h.length (.lst ((edgesF 0 dn).map Edg.d ++ [.tup [.int a.pl.1, .int b.pl.1, .int ((if decide ((if l = true then ("less" : Str) else "same") = "less") = true then (1 : Int) else 0) + a.pl.2 - b.pl.2), .tup [.int (dn.length : Nat), .str "on"]]])) = h2 at *
    rw [hw] at e2
    have last : edgesF 0 (dn ++ [⟨l, a, b⟩]) = edgesF 0 dn ++ Cnd.edges dn.length ⟨l, a, b⟩ := by
      rw [edgesF_app, Nat.zero_add]
      show edgesF 0 dn ++ (Cnd.edges dn.length ⟨l, a, b⟩ ++ []) = _
      rw [List.append_nil]
    cases l with
    | true =>
      with_reducible refine if_dec ?_ ?_
      · intro z; exact absurd z (by decide +kernel)
      · intro _
        repeat fail
        refine ⟨_, _, _, _, _, _, _, _, dn ++ [⟨true, a, b⟩], rs', rfl, by rw [hcs]; simp, by simp [hdl], by rw [← hdl]; exact ed', f2, ?_⟩
        rw [e2, last, List.map_append]
        rfl
    | false =>
      with_reducible refine if_dec ?_ ?_
      · intro _
        repeat fail
        refine wp_append e2 (by rw [List.length_append, List.length_map]; exact Nat.lt_of_lt_of_le (by simp; omega : _ < 3000) (by decide)) ?_
        refine ⟨_, _, _, _, _, _, _, _, dn ++ [⟨false, a, b⟩], rs', rfl, by rw [hcs]; simp, by simp [hdl], by rw [← hdl]; exact ed', f2.trans (fr_set _), ?_⟩
        rw [at_set (lt_of_at e2), last, List.map_append, List.append_assoc]
        rfl
      · intro z; exact absurd (by decide +kernel) z
  · rintro done ms h1 ⟨o2, o3, o4, o5, o6, o7, o8, o9, dn, rs, rfl, hcs, hdl, ed, f1, e1⟩
    refine ⟨hP _ (f1.sq hd (g0.sq e)), ?_⟩
    have hlen := congrArg List.length ed
    rw [List.append_nil, enum_len, List.length_map] at hlen
    have hcl : cs.length = dn.length + rs.length := by rw [hcs]; simp
    obtain rfl : rs = [] := List.eq_nil_of_length_eq_zero (by omega)
    rw [List.append_nil] at hcs
    repeat fail
    refine q _ h1 (gr_of_fr g0 f1 (Nat.le_refl _)) (Nat.le_refl _) ?_
    rw [hcs]
    exact e1
end
end Lw
namespace Lw
open PySem PySem.Spec PyProof.Rows L2 Sm
/-- heights, the edge that raised a node last, the round of that (a ghost; 0: never) -/
structure Ways where
  H : Int → Int
  L : Int → Option Nat
  T : Int → Nat
def upI {α : Type} (f : Int → α) (x : Int) (v : α) : Int → α := fun y => if y = x then v else f y
theorem upI_same {α : Type} {f : Int → α} {x : Int} {v : α} : upI f x v x = v := if_pos rfl
theorem upI_ne {α : Type} {f : Int → α} {x y : Int} {v : α} (h : y ≠ x) : upI f x v y = f y := if_neg h
/-- going back along the last edges: from x to y, by so many, so heavy -/
inductive Pth (es : List Edg) (L : Int → Option Nat) : Int → Int → Nat → Int → Prop
  | nil (x : Int) : Pth es L x x 0 0
  | cons {x y : Int} {k n : Nat} {e : Edg} {w : Int} : L x = some k → es[k]? = some e → Pth es L e.a y n w → Pth es L x y (n + 1) (w + e.w)
structure WInv (es : List Edg) (r j : Nat) (s : Ways) : Prop where
  last : ∀ b k, s.L b = some k → ∃ e, es[k]? = some e ∧ e.b = b ∧ s.H b ≤ s.H e.a + e.w ∧ s.T b ≤ s.T e.a + 1
  none : ∀ b, s.L b = none ↔ s.T b = 0
  most : ∀ b, s.T b ≤ r + 1
  edge : ∀ k e, es[k]? = some e → s.H e.a + e.w ≤ s.H e.b ∨ s.T e.a = r + 1 ∨ (j ≤ k ∧ s.T e.a = r)
  ring : ∀ x n w, Pth es s.L x x (n + 1) w → 0 < w
def relax (r k : Nat) (e : Edg) (s : Ways) : Ways := if s.H e.b < s.H e.a + e.w then ⟨upI s.H e.b (s.H e.a + e.w), upI s.L e.b (some k), upI s.T e.b (r + 1)⟩ else s
/-- a way back that does not come by b is the same in both -/
theorem pth_split {es : List Edg} {L : Int → Option Nat} {b : Int} {v : Option Nat} : ∀ {x y : Int} {n : Nat} {w : Int}, Pth es (upI L b v) x y n w → Pth es L x y n w ∨ ∃ n1 n2 w1 w2, Pth es L x b n1 w1 ∧ Pth es (upI L b v) b y n2 w2 ∧ w = w1 + w2 ∧ n = n1 + n2 := by
  intro x y n w h
  induction h with
  | nil x => exact .inl (.nil x)
  | @cons x y k n e w hx he hp ih =>
    by_cases hb : x = b
    · subst hb
      exact .inr ⟨0, n + 1, 0, w + e.w, .nil _, .cons hx he hp, by omega, by omega⟩
    · rw [upI_ne hb] at hx
      rcases ih with ih | ⟨n1, n2, w1, w2, p1, p2, e1, e2⟩
      · exact .inl (.cons hx he ih)
      · exact .inr ⟨n1 + 1, n2, w1 + e.w, w2, .cons hx he p1, p2, by omega, by omega⟩
/-- the weight of a way back is at least the difference of heights -/
theorem pth_height {es : List Edg} {s : Ways} {r j : Nat} (I : WInv es r j s) : ∀ {x y : Int} {n : Nat} {w : Int}, Pth es s.L x y n w → s.H x ≤ s.H y + w := by
  intro x y n w h
  induction h with
  | nil x => omega
  | @cons x y k n e w hx he hp ih =>
    obtain ⟨e', he', -, h1, -⟩ := I.last x k hx
    rw [he] at he'
    cases he'
    omega
theorem relax_inv {es : List Edg} {s : Ways} {r k : Nat} {e : Edg} (I : WInv es r k s) (he : es[k]? = some e) : WInv es r (k + 1) (relax r k e s) := by
  unfold relax
  by_cases hup : s.H e.b < s.H e.a + e.w
  · rw [if_pos hup]
    have hTa : r ≤ s.T e.a := by
      rcases I.edge k e he with h | h | ⟨_, h⟩ <;> omega
    have hTa2 : s.T e.a ≤ r + 1 := I.most e.a
    have Hmono : ∀ x, s.H x ≤ upI s.H e.b (s.H e.a + e.w) x := fun x => by
      by_cases hx : x = e.b
      · rw [hx, upI_same]; omega
      · rw [upI_ne hx]; exact Int.le_refl _
    have Tmono : ∀ x, s.T x ≤ upI s.T e.b (r + 1) x := fun x => by
      by_cases hx : x = e.b
      · rw [hx, upI_same]; exact I.most e.b
      · rw [upI_ne hx]; exact Nat.le_refl _
    refine ⟨fun b k' hk' => ?_, fun b => ?_, fun b => ?_, fun k' e' he' => ?_, fun x n w hp => ?_⟩
    · by_cases hb : b = e.b
      · subst hb
        have hk' : upI s.L e.b (some k) e.b = some k' := hk'
        rw [upI_same] at hk'
        cases hk'
        refine ⟨e, he, rfl, ?_, ?_⟩
        · show upI s.H e.b (s.H e.a + e.w) e.b ≤ upI s.H e.b (s.H e.a + e.w) e.a + e.w
          rw [upI_same]
          have := Hmono e.a
          omega
        · show upI s.T e.b (r + 1) e.b ≤ upI s.T e.b (r + 1) e.a + 1
          rw [upI_same]
          have := Tmono e.a
          omega
      · have hk' : upI s.L e.b (some k) b = some k' := hk'
        rw [upI_ne hb] at hk'
        obtain ⟨e', h1, h2, h3, h4⟩ := I.last b k' hk'
        refine ⟨e', h1, h2, ?_, ?_⟩
        · show upI s.H e.b (s.H e.a + e.w) b ≤ upI s.H e.b (s.H e.a + e.w) e'.a + e'.w
          rw [upI_ne hb]
          have := Hmono e'.a
          omega
        · show upI s.T e.b (r + 1) b ≤ upI s.T e.b (r + 1) e'.a + 1
          rw [upI_ne hb]
          have := Tmono e'.a
          omega
    · show upI s.L e.b (some k) b = none ↔ upI s.T e.b (r + 1) b = 0
      by_cases hb : b = e.b
      · rw [hb, upI_same, upI_same]
        exact ⟨fun z => (nomatch z), fun z => by omega⟩
      · rw [upI_ne hb, upI_ne hb]
        exact I.none b
    · show upI s.T e.b (r + 1) b ≤ r + 1
      by_cases hb : b = e.b
      · rw [hb, upI_same]; exact Nat.le_refl _
      · rw [upI_ne hb]; exact I.most b
    · show upI s.H e.b (s.H e.a + e.w) e'.a + e'.w ≤ upI s.H e.b (s.H e.a + e.w) e'.b ∨ upI s.T e.b (r + 1) e'.a = r + 1 ∨ (k + 1 ≤ k' ∧ upI s.T e.b (r + 1) e'.a = r)
      by_cases ha : e'.a = e.b
      · right; left; rw [ha, upI_same]
      · rw [upI_ne ha, upI_ne ha]
        rcases I.edge k' e' he' with h | h | ⟨h1, h2⟩
        · left
          have := Hmono e'.b
          omega
        · exact .inr (.inl h)
        · by_cases hkk : k' = k
          · subst hkk
            rw [he] at he'
            cases he'
            left
            rw [upI_same]
            exact Int.le_refl _
          · exact .inr (.inr ⟨by omega, h2⟩)
    · have hp : Pth es (upI s.L e.b (some k)) x x (n + 1) w := hp
      -- a closed way that starts at e.b: its first edge is the new one; the rest goes back to e.b, in the old way up to the first coming to e.b
      have atB : ∀ n w, Pth es (upI s.L e.b (some k)) e.b e.b (n + 1) w → 0 < w := fun n => by
        induction n using Nat.strongRecOn with
        | ind n ih =>
          intro w hp
          cases hp with
          | @cons _ _ k' _ e' w' hx he' hp' =>
            rw [upI_same] at hx
            cases hx
            rw [he] at he'
            cases he'
            rcases pth_split hp' with ho | ⟨n1, n2, w1, w2, p1, p2, e1, e2⟩
            · have := pth_height I ho
              omega
            · have h1 := pth_height I p1
              cases n2 with
              | zero =>
                cases p2
                omega
              | succ n2 =>
                have := ih n2 (by omega) w2 p2
                omega
      rcases pth_split hp with ho | ⟨n1, n2, w1, w2, p1, p2, e1, e2⟩
      · exact I.ring x n w ho
      · have g1 := pth_height I p1
        have back : ∀ n2 w2, Pth es (upI s.L e.b (some k)) e.b x n2 w2 → 0 < n2 → 0 < w1 + w2 := fun n2 => by
          induction n2 using Nat.strongRecOn with
          | ind n2 ih =>
            intro w2 p2 hpos
            cases p2 with
            | nil => omega
            | @cons _ _ k' _ e' w' hx he' hp' =>
              rw [upI_same] at hx
              cases hx
              rw [he] at he'
              cases he'
              rcases pth_split hp' with ho | ⟨n3, n4, w3, w4, p3, p4, e3, e4⟩
              · have := pth_height I ho
                omega
              · have h3 := pth_height I p3
                cases n4 with
                | zero =>
                  cases p4
                  omega
                | succ n4 =>
                  have := ih (n4 + 1) (by omega) w4 p4 (by omega)
                  omega
        cases n2 with
        | zero =>
          cases p2
          cases n1 with
          | zero => omega
          | succ n1 =>
            have := I.ring _ _ _ p1
            omega
        | succ n2 =>
          have := back (n2 + 1) w2 p2 (by omega)
          omega
  · rw [if_neg hup]
    refine ⟨I.last, I.none, I.most, fun k' e' he' => ?_, I.ring⟩
    rcases I.edge k' e' he' with h | h | ⟨h1, h2⟩
    · exact .inl h
    · exact .inr (.inl h)
    · by_cases hkk : k' = k
      · subst hkk
        rw [he] at he'
        cases he'
        exact .inl (by omega)
      · exact .inr (.inr ⟨by omega, h2⟩)
theorem len_of_sub {α : Type} [DecidableEq α] : ∀ {a b : List α}, a.Nodup → (∀ x ∈ a, x ∈ b) → a.length ≤ b.length
  | [], b, _, _ => Nat.zero_le _
  | x :: a, b, hn, hs => by
    have h1 := List.nodup_cons.mp hn
    have hx := hs x (List.mem_cons_self ..)
    have := len_of_sub (a := a) (b := b.erase x) h1.2 fun y hy => by
      have hne : y ≠ x := fun z => h1.1 (z ▸ hy)
      exact (List.mem_erase_of_ne hne).mpr (hs y (List.mem_cons_of_mem _ hy))
    rw [List.length_erase_of_mem hx] at this
    have hpos : 0 < b.length := List.length_pos_of_mem hx
    rw [List.length_cons]
    omega
/-- more steps than places: one comes twice -/
theorem twice {f : Nat → Int} {ks : List Int} (hf : ∀ i, i ≤ ks.length → f i ∈ ks) : ∃ i j, i < j ∧ j ≤ ks.length ∧ f i = f j := by
  by_cases h : ∃ i j, i < j ∧ j ≤ ks.length ∧ f i = f j
  · exact h
  · have hn : ((List.range (ks.length + 1)).map f).Nodup := by
      rw [List.Nodup, List.pairwise_map]
      refine (List.pairwise_lt_range).imp_of_mem fun {i j} hi hj hij e => h ⟨i, j, hij, ?_, e⟩
      have := List.mem_range.mp hj
      omega
    have := len_of_sub hn fun x hx => by
      obtain ⟨i, hi, rfl⟩ := List.mem_map.mp hx
      exact hf i (by have := List.mem_range.mp hi; omega)
    rw [List.length_map, List.length_range] at this
    omega
/-- the node that is come from -/
def nxt (es : List Edg) (L : Int → Option Nat) (x : Int) : Int := match L x with
  | some k => match es[k]? with
    | some e => e.a
    | none => x
  | none => x
def far (es : List Edg) (L : Int → Option Nat) : Nat → Int → Int
  | 0, x => x
  | n + 1, x => far es L n (nxt es L x)
theorem far_add (es : List Edg) (L : Int → Option Nat) : ∀ (m n : Nat) (x : Int), far es L (m + n) x = far es L n (far es L m x)
  | 0, n, x => by rw [Nat.zero_add]; rfl
  | m + 1, n, x => by
    rw [show m + 1 + n = (m + n) + 1 by omega]
    exact far_add es L m n (nxt es L x)
theorem far_time {es : List Edg} {s : Ways} {r j : Nat} (I : WInv es r j s) : ∀ (i : Nat) (x : Int), i ≤ s.T x → s.T x ≤ s.T (far es s.L i x) + i
  | 0, x, _ => Nat.le_refl _
  | i + 1, x, h => by
    cases hL : s.L x with
    | none => have := (I.none x).mp hL; omega
    | some k =>
      obtain ⟨e, he, -, -, ht⟩ := I.last x k hL
      have hn : nxt es s.L x = e.a := by unfold nxt; rw [hL]; simp only [he]
      show s.T x ≤ s.T (far es s.L i (nxt es s.L x)) + (i + 1)
      rw [hn]
      by_cases hi : i ≤ s.T e.a
      · have := far_time I i e.a hi
        omega
      · omega
/-- from a node that was raised in the last of more rounds than there are nodes, so many steps lead onto a ring -/
theorem on_ring {es : List Edg} {s : Ways} {r j : Nat} (I : WInv es r j s) {ks : List Int} {x : Int} (hks : ∀ y, s.L y ≠ none → y ∈ ks) (hx : ks.length < s.T x) :
    (∀ i, s.L (far es s.L i x) ≠ none) ∧ ∃ c, 0 < c ∧ c ≤ ks.length ∧ far es s.L c (far es s.L ks.length x) = far es s.L ks.length x := by
  have near : ∀ i, i ≤ ks.length → s.L (far es s.L i x) ≠ none := fun i hi z => by
    have h1 := far_time I i x (by omega)
    have h2 := (I.none _).mp z
    omega
  obtain ⟨i, k, hik, hk, he⟩ := twice (f := fun i => far es s.L i x) (ks := ks) fun i hi => hks _ (near i hi)
  have he : far es s.L i x = far es s.L k x := he
  have per : ∀ m, i ≤ m → far es s.L (m + (k - i)) x = far es s.L m x := fun m hm => by
    rw [show m + (k - i) = k + (m - i) by omega, far_add, ← he, ← far_add, show i + (m - i) = m by omega]
  refine ⟨fun m => ?_, k - i, by omega, by omega, ?_⟩
  · induction m using Nat.strongRecOn with
    | ind m ih =>
      by_cases hm : m ≤ ks.length
      · exact near m hm
      · have := per (m - (k - i)) (by omega)
        rw [show m - (k - i) + (k - i) = m by omega] at this
        rw [this]
        exact ih _ (by omega)
  · rw [← far_add]
    exact per _ (by omega)
theorem start_inv (es : List Edg) : WInv es 0 0 ⟨fun _ => 0, fun _ => none, fun _ => 0⟩ where
  last := fun b k h => nomatch h
  none := fun b => ⟨fun _ => rfl, fun _ => rfl⟩
  most := fun b => Nat.zero_le _
  edge := fun k e _ => .inr (.inr ⟨Nat.zero_le _, rfl⟩)
  ring := fun x n w h => by
    cases h with
    | cons hx _ _ => cases hx
theorem next_inv {es : List Edg} {r : Nat} {s : Ways} (I : WInv es r es.length s) : WInv es (r + 1) 0 s where
  last := I.last
  none := I.none
  most := fun b => Nat.le_succ_of_le (I.most b)
  edge := fun k e he => by
    have hk := (List.getElem?_eq_some_iff.mp he).1
    rcases I.edge k e he with h | h | ⟨h, _⟩
    · exact .inl h
    · exact .inr (.inr ⟨Nat.zero_le _, h⟩)
    · omega
  ring := I.ring
/-- a round without a raise: all edges are kept -/
theorem still {es : List Edg} {r : Nat} {s : Ways} (I : WInv es r es.length s) (h : ∀ b, s.T b ≤ r) : ∀ e ∈ es, s.H e.a + e.w ≤ s.H e.b := fun e he => by
  obtain ⟨k, hk, rfl⟩ := List.getElem_of_mem he
  have hk2 := List.getElem?_eq_getElem hk
  rcases I.edge k _ hk2 with h1 | h1 | ⟨h1, _⟩
  · exact h1
  · have := h (es[k]).a
    omega
  · omega
end Lw
namespace Lw
open PySem PySem.Spec PyProof.Rows L2 Sm
/-- the dict holds F, its keys are ks -/
structure DI (kvs : List (D × D)) (ks : List Int) (F : Int → Option Int) : Prop where
  keys : kvs.map (·.1) = ks.map D.int
  nd : ks.Nodup
  look : ∀ x : Int, lookD kvs (.inl x) = (F x).map D.int
  mem : ∀ x, x ∈ ks ↔ F x ≠ none
theorem di_nil : DI [] [] fun _ => none := ⟨rfl, List.nodup_nil, fun _ => rfl, fun x => ⟨fun h => (nomatch h), fun h => absurd rfl h⟩⟩
theorem DI.len {kvs : List (D × D)} {ks : List Int} {F : Int → Option Int} (d : DI kvs ks F) : kvs.length = ks.length := by
  have := congrArg List.length d.keys
  rwa [List.length_map, List.length_map] at this
theorem nd_dd {ks : List Int} {x : Int} (h : ks.Nodup) : (dd ks x).Nodup := nd_foldl [x] ks h
theorem DI.put {kvs : List (D × D)} {ks : List Int} {F : Int → Option Int} (d : DI kvs ks F) (x v : Int) : DI (putD kvs (.inl x) (.int x) (.int v)) (dd ks x) (upI F x (some v)) where
  keys := keys_put_int d.keys
  nd := nd_dd d.nd
  look := fun y => by
    rw [look_put rfl]
    by_cases h : y = x
    · subst h
      rw [if_pos rfl, upI_same]
      rfl
    · rw [if_neg (fun z => h (Sum.inl.inj z)), upI_ne h]
      exact d.look y
  mem := fun y => by
    rw [mem_dd]
    by_cases h : y = x
    · subst h
      rw [upI_same]
      exact ⟨fun _ z => (nomatch z), fun _ => .inr rfl⟩
    · rw [upI_ne h, ← d.mem y]
      exact ⟨fun z => z.elim id fun z => absurd z h, .inl⟩
theorem wp_ixI {h : MH} {Q : D → MH → Prop} {r : Nat} {kvs : List (D × D)} {ks : List Int} {F : Int → Option Int} {x v : Int} (e : h[r]? = some (.dic kvs)) (d : DI kvs ks F) (hx : F x = some v) (q : Q (.int v) h) : Wp (gIx (.ref r) (.int x) h) Q :=
  wp_ixD (dcAt_of e) rfl (c := .inl x) (by rw [d.look x, hx]; rfl) q
end Lw
namespace Lw
open PySem PySem.Spec PyProof.Rows L2 Sm
local macro_rules | `(tactic| fail) => `(tactic| ((with_reducible refine and_ty ?_ ?_); (first | rfl | exact isTy_ls (by assumption) | exact isTy_ls (lsAt_of (by assumption)) | exact isTy_dc (by assumption))))
local macro_rules | `(tactic| fail) => `(tactic| with_reducible refine wp_isi_yes (by first | with_unfolding_all rfl | exact ty_ls (by assumption) | exact ty_ls (lsAt_of (by assumption)) | exact ty_dc (dcAt_of (by assumption))) (by with_unfolding_all decide) ?_)
local macro_rules | `(tactic| fail) => `(tactic| with_reducible refine wp_isi_no (by first | with_unfolding_all rfl | exact ty_ls (by assumption) | exact ty_ls (lsAt_of (by assumption)) | exact ty_dc (dcAt_of (by assumption))) (by with_unfolding_all decide) ?_)
local macro_rules | `(tactic| fail) => `(tactic| with_reducible refine if_no ?_)
local macro_rules | `(tactic| fail) => `(tactic| with_reducible refine if_yes ?_)
local macro_rules | `(tactic| fail) => `(tactic| with_reducible refine if_nf ?_)
local macro_rules | `(tactic| fail) => `(tactic| with_reducible refine if_nt ?_)
local macro_rules | `(tactic| fail) => `(tactic| with_reducible refine wp_iR2' ?_)
local macro_rules | `(tactic| fail) => `(tactic| with_reducible refine wp_iR1' ?_)
local macro_rules | `(tactic| fail) => `(tactic| with_reducible refine wp_listRg1 ?_)
local macro_rules | `(tactic| fail) => `(tactic| with_reducible refine wp_listRg2 ?_)
local macro_rules | `(tactic| fail) => `(tactic| with_reducible refine ex_intL2 ?_)
local macro_rules | `(tactic| fail) => `(tactic| with_reducible refine ex_int1 ?_)
local macro_rules | `(tactic| fail) => `(tactic| with_reducible refine ex_int2 ?_)
local macro_rules | `(tactic| fail) => `(tactic| with_reducible refine ex_two ?_)
local macro_rules | `(tactic| fail) => `(tactic| with_reducible refine ex_int ?_)
local macro_rules | `(tactic| fail) => `(tactic| with_reducible refine ex_bl ?_)
local macro_rules | `(tactic| fail) => `(tactic| ((with_reducible refine and_len ?_ ?_); (exact Nat.le_of_ble_eq_true rfl)))
local macro_rules | `(tactic| fail) => `(tactic| with_reducible refine wp_dnew ?_)
local macro_rules | `(tactic| fail) => `(tactic| with_reducible refine wp_isN (by with_unfolding_all rfl) ?_)
local macro_rules | `(tactic| fail) => `(tactic| with_reducible refine wp_isY (by with_unfolding_all rfl) ?_)
local macro_rules | `(tactic| fail) => `(tactic| with_reducible refine wp_len_L (lsAt_of (by assumption)) ?_)
local macro_rules | `(tactic| fail) => `(tactic| with_reducible refine wp_ixL (lsAt_of (by assumption)) (by with_unfolding_all rfl) ?_)
local macro_rules | `(tactic| fail) => `(tactic| ((with_reducible refine wp_powI ?_ ?_); decide))
local macro_rules | `(tactic| fail) => `(tactic| with_reducible refine wp_abs ?_)
local macro_rules | `(tactic| fail) => `(tactic| with_reducible refine wp_intB ?_)
local macro_rules | `(tactic| fail) => `(tactic| with_reducible refine wp_int ?_)
local macro_rules | `(tactic| fail) => `(tactic| with_reducible refine wp_neg ?_)
local macro_rules | `(tactic| fail) => `(tactic| with_reducible refine wp_neS ?_)
local macro_rules | `(tactic| fail) => `(tactic| with_reducible refine wp_eqS ?_)
local macro_rules | `(tactic| fail) => `(tactic| with_reducible refine wp_neB ?_)
local macro_rules | `(tactic| fail) => `(tactic| with_reducible refine wp_eqB ?_)
local macro_rules | `(tactic| fail) => `(tactic| with_reducible refine wp_neI ?_)
local macro_rules | `(tactic| fail) => `(tactic| with_reducible refine wp_eqI ?_)
local macro_rules | `(tactic| fail) => `(tactic| with_reducible refine wp_geI ?_)
local macro_rules | `(tactic| fail) => `(tactic| with_reducible refine wp_gtI ?_)
local macro_rules | `(tactic| fail) => `(tactic| with_reducible refine wp_leI ?_)
local macro_rules | `(tactic| fail) => `(tactic| with_reducible refine wp_ltI ?_)
local macro_rules | `(tactic| fail) => `(tactic| with_reducible refine wp_subI ?_)
local macro_rules | `(tactic| fail) => `(tactic| with_reducible refine wp_addI ?_)
local macro_rules | `(tactic| fail) => `(tactic| with_reducible refine wp_mChain ?_)
local macro_rules | `(tactic| fail) => `(tactic| with_reducible refine wp_mMeth ?_)
local macro_rules | `(tactic| fail) => `(tactic| with_reducible refine wp_pAt ?_)
local macro_rules | `(tactic| fail) => `(tactic| with_reducible refine wp_pNo ?_)
local macro_rules | `(tactic| fail) => `(tactic| with_reducible refine wp_mSl ?_)
local macro_rules | `(tactic| fail) => `(tactic| with_reducible refine wp_mNotV ?_)
local macro_rules | `(tactic| fail) => `(tactic| with_reducible refine wp_mNotT ?_)
local macro_rules | `(tactic| fail) => `(tactic| with_reducible refine wp_mIfE ?_)
local macro_rules | `(tactic| fail) => `(tactic| with_reducible refine wp_mLst ?_)
local macro_rules | `(tactic| fail) => `(tactic| with_reducible refine wp_mTup ?_)
local macro_rules | `(tactic| fail) => `(tactic| with_reducible refine wp_m1 ?_)
local macro_rules | `(tactic| fail) => `(tactic| with_reducible refine wp_mTest ?_)
local macro_rules | `(tactic| fail) => `(tactic| with_reducible refine wp_aNil ?_)
local macro_rules | `(tactic| fail) => `(tactic| with_reducible refine wp_aCons ?_)
local macro_rules | `(tactic| fail) => `(tactic| with_reducible refine wp_mCall ?_)
local macro_rules | `(tactic| fail) => `(tactic| with_reducible refine wp_mC ?_)
local macro_rules | `(tactic| fail) => `(tactic| with_reducible refine wp_mV (by with_unfolding_all rfl) ?_)
local macro_rules | `(tactic| fail) => `(tactic| with_reducible refine wp_m2 ?_)
local macro_rules | `(tactic| fail) => `(tactic| with_reducible refine wp_neSS ?_)
local macro_rules | `(tactic| fail) => `(tactic| with_reducible refine wp_neII ?_)
local macro_rules | `(tactic| fail) => `(tactic| with_reducible refine wp_neBB ?_)
local macro_rules | `(tactic| fail) => `(tactic| with_reducible refine wp_eqSS ?_)
local macro_rules | `(tactic| fail) => `(tactic| with_reducible refine wp_eqII ?_)
local macro_rules | `(tactic| fail) => `(tactic| with_reducible refine wp_eqBB ?_)
local macro_rules | `(tactic| fail) => `(tactic| with_reducible refine wp_iaddI ?_)
local macro_rules | `(tactic| fail) => `(tactic| with_reducible refine ws_aug (by with_unfolding_all rfl) ?_)
local macro_rules | `(tactic| fail) => `(tactic| with_reducible refine ws_gTup (by with_unfolding_all rfl) ?_)
local macro_rules | `(tactic| fail) => `(tactic| with_reducible refine ws_gsNil ?_)
local macro_rules | `(tactic| fail) => `(tactic| with_reducible refine ws_gsCons ?_)
local macro_rules | `(tactic| fail) => `(tactic| with_reducible refine ws_bk ?_)
local macro_rules | `(tactic| fail) => `(tactic| with_reducible refine ws_ct ?_)
local macro_rules | `(tactic| fail) => `(tactic| with_reducible refine ws_par ?_)
local macro_rules | `(tactic| fail) => `(tactic| with_reducible refine ws_retN ?_)
local macro_rules | `(tactic| fail) => `(tactic| with_reducible refine ws_nx ?_)
local macro_rules | `(tactic| fail) => `(tactic| with_reducible refine ws_gN ?_)
local macro_rules | `(tactic| fail) => `(tactic| with_reducible refine ws_gIt ?_)
local macro_rules | `(tactic| fail) => `(tactic| with_reducible refine ws_asg ?_)
local macro_rules | `(tactic| fail) => `(tactic| with_reducible refine ws_if ?_)
local macro_rules | `(tactic| fail) => `(tactic| with_reducible refine ws_expr ?_)
local macro_rules | `(tactic| fail) => `(tactic| with_reducible refine ws_ret ?_)
local macro_rules | `(tactic| fail) => `(tactic| with_reducible refine ws_set ?_)
local macro_rules | `(tactic| fail) => `(tactic| with_reducible refine ws_seq ?_)
theorem zero_loop {re rh : Nat} {d : D} {o3 o4 o5 o6 o7 o8 o9 o10 : Option D} {es : List Edg} {h : MH} {N : MS → MH → Prop} {R : D → MH → Prop} {B C : MS → MH → Prop} (hne : re ≠ rh) (ee : h[re]? = some (.lst (es.map Edg.d))) (eh : h[rh]? = some (.dic [])) (hl : es.length ≤ 3000)
    (hN : ∀ o3 o4 o5 o6 kvs ks F h1, Fr rh h h1 → h1[rh]? = some (.dic kvs) → DI kvs ks F → (∀ x, F x ≠ none → F x = some 0) → (∀ e ∈ es, F e.a ≠ none ∧ F e.b ≠ none) → ks.length ≤ 2 * es.length → N [some d, some (.ref re), some (.ref rh), o3, o4, o5, o6, o7, o8, o9, o10] h1) :
    WS (mFor (iSeq (mV 1)) (gTup 4 (gsCons (gN 3) (gsCons (gN 4) (gsCons (gN 5) (gsCons (gN 6) gsNil))))) (mSeq (mAsg (mC (.int 0)) fun d ms h => onlyG ((gIt (mV 2) (mV 3) setA) d ms h)) (mAsg (mC (.int 0)) fun d ms h => onlyG ((gIt (mV 2) (mV 4) setA) d ms h))) [some d, some (.ref re), some (.ref rh), o3, o4, o5, o6, o7, o8, o9, o10] h) N R B C := by
  refine ws_for (fun done rest ms h1 => ∃ (o3 o4 o5 o6 : Option D) (dn rs : List Edg) (kvs : List (D × D)) (ks : List Int) (F : Int → Option Int), ms = [some d, some (.ref re), some (.ref rh), o3, o4, o5, o6, o7, o8, o9, o10] ∧ es = dn ++ rs ∧ rest = rs.map Edg.d ∧ Fr rh h h1 ∧ h1[rh]? = some (.dic kvs) ∧ DI kvs ks F ∧ (∀ x, F x ≠ none → F x = some 0) ∧ (∀ e ∈ dn, F e.a ≠ none ∧ F e.b ≠ none) ∧ ks.length ≤ 2 * dn.length) (wp_iSq ?_)
  repeat fail
  refine ⟨_, (lsAt_of ee : sqD h (.ref re) = _), fun P hP => ⟨⟨_, _, _, _, [], es, [], [], _, rfl, rfl, rfl, .refl, eh, di_nil, fun _ z => absurd rfl z, fun _ z => (nomatch z), Nat.le_refl _⟩, ?_, ?_⟩⟩
  · rintro done x rest ms h1 ⟨o3, o4, o5, o6, dn, rs, kvs, ks, F, rfl, hes, er, f1, e1, dI, hz, hin, hk⟩
    refine ⟨hP _ (lsAt_of (f1.at hne ee) : sqD h1 (.ref re) = _), ?_⟩
    obtain ⟨e, rs', rfl, rfl, rfl⟩ := cons_map er
    have hdl : dn.length < es.length := by rw [hes]; simp
    have d1 := dI.put e.a 0
    have d2 := d1.put e.b 0
    have k1 := len_put (kvs := kvs) (c := .inl e.a) (k := .int e.a) (v := .int 0)
    have k2 := len_put (kvs := putD kvs (.inl e.a) (.int e.a) (.int 0)) (c := .inl e.b) (k := .int e.b) (v := .int 0)
    have l0 := dI.len
    have l2 := d2.len
    show WS (gTup 4 _ (.tup [.int e.a, .int e.b, .int e.w, e.pair]) _ h1) _ _ _ _
    repeat fail
    refine ⟨_, setA_D e1 rfl (c := .inl e.a) (Nat.lt_of_lt_of_le (by omega : kvs.length < 7000) (by decide)), ?_⟩
    repeat fail
    refine ⟨_, setA_D (at_set (lt_of_at e1) _) rfl (c := .inl e.b) (Nat.lt_of_lt_of_le (by omega : (putD kvs (.inl e.a) (.int e.a) (.int 0)).length < 7000) (by decide)), ?_⟩
    have hup : ∀ x, upI (upI F e.a (some 0)) e.b (some 0) x ≠ none → upI (upI F e.a (some 0)) e.b (some 0) x = some 0 := fun x hx => by
      by_cases hb : x = e.b
      · rw [hb, upI_same]
      · rw [upI_ne hb] at hx ⊢
        by_cases ha : x = e.a
        · rw [ha, upI_same]
        · rw [upI_ne ha] at hx ⊢
          exact hz x hx
    have hmono : ∀ x, F x ≠ none → upI (upI F e.a (some 0)) e.b (some 0) x ≠ none := fun x hx => by
      by_cases hb : x = e.b
      · rw [hb, upI_same]; exact fun z => nomatch z
      · rw [upI_ne hb]
        by_cases ha : x = e.a
        · rw [ha, upI_same]; exact fun z => nomatch z
        · rw [upI_ne ha]; exact hx
    refine ⟨_, _, _, _, dn ++ [e], rs', _, _, _, rfl, by rw [hes]; simp, rfl, (f1.trans (fr_set _)).trans (fr_set _), at_set (by simp; exact lt_of_at e1) _, d2, hup, fun u hu => ?_, ?_⟩
    · rcases List.mem_append.mp hu with z | z
      · exact ⟨hmono _ (hin u z).1, hmono _ (hin u z).2⟩
      · rw [List.mem_singleton.mp z]
        refine ⟨?_, by rw [upI_same]; exact fun z => nomatch z⟩
        by_cases hb : e.a = e.b
        · rw [hb, upI_same]; exact fun z => nomatch z
        · rw [upI_ne hb, upI_same]; exact fun z => nomatch z
    · rw [List.length_append, List.length_singleton]
      omega
  · rintro done ms h1 ⟨o3, o4, o5, o6, dn, rs, kvs, ks, F, rfl, hes, er, f1, e1, dI, hz, hin, hk⟩
    obtain rfl := nil_map er
    rw [List.append_nil] at hes
    subst hes
    exact ⟨hP _ (lsAt_of (f1.at hne ee) : sqD h1 (.ref re) = _), hN _ _ _ _ _ _ _ h1 f1 e1 dI hz hin hk⟩
def asI (o : Option Nat) : Option Int := o.map Int.ofNat
/-- one round over all edges -/
theorem round_loop {re rh rl r : Nat} {d : D} {o3 o4 o5 o6 o8 o10 : Option D} {es : List Edg} {h : MH} {N : MS → MH → Prop} {R : D → MH → Prop} {B C : MS → MH → Prop} {s : Ways} {kh kl : List Int} {vh vl : List (D × D)} (h1 : re ≠ rh) (h2 : re ≠ rl) (h3 : rh ≠ rl)
    (ee : h[re]? = some (.lst (es.map Edg.d))) (eh : h[rh]? = some (.dic vh)) (el : h[rl]? = some (.dic vl)) (dh : DI vh kh fun x => if x ∈ kh then some (s.H x) else none) (dl : DI vl kl fun x => asI (s.L x)) (hin : ∀ e ∈ es, e.a ∈ kh ∧ e.b ∈ kh) (hkl : ∀ x ∈ kl, x ∈ kh) (hl : kh.length ≤ 7000)
    (I : WInv es r 0 s) (hT : ∀ b, s.T b ≤ r)
    (hN : ∀ (o3 o4 o5 o6 o10 : Option D) (met : Option Int) (s' : Ways) (kl' : List Int) (vh' vl' : List (D × D)) (h' : MH), h'[re]? = some (.lst (es.map Edg.d)) → h'[rh]? = some (.dic vh') → h'[rl]? = some (.dic vl') → DI vh' kh (fun x => if x ∈ kh then some (s'.H x) else none) → DI vl' kl' (fun x => asI (s'.L x)) → (∀ x ∈ kl', x ∈ kh) →
      WInv es r es.length s' → (∀ b, met = some b → s'.T b = r + 1) → (met = none → ∀ b, s'.T b ≤ r) → (∀ i o, i ≠ rh → i ≠ rl → h[i]? = some o → h'[i]? = some o) →
      N [some d, some (.ref re), some (.ref rh), o3, o4, o5, o6, some (.ref rl), o8, some (match met with | some b => .int b | none => .non), o10] h') :
    WS (mFor (iEnumA (aCons (mV 1) aNil)) (gTup 2 (gsCons (gN 10) (gsCons (gTup 4 (gsCons (gN 3) (gsCons (gN 4) (gsCons (gN 5) (gsCons (gN 6) gsNil))))) gsNil))) (mIfS (mTest (m2 gGt (m2 gAdd (m2 gIx (mV 2) (mV 3)) (mV 5)) (m2 gIx (mV 2) (mV 4)))) (mSeq (mAsg (m2 gAdd (m2 gIx (mV 2) (mV 3)) (mV 5)) fun d ms h => onlyG ((gIt (mV 2) (mV 4) setA) d ms h))
      (mSeq (mAsg (mV 10) fun d ms h => onlyG ((gIt (mV 7) (mV 4) setA) d ms h)) (mSet 9 (mV 4)))) mNx) [some d, some (.ref re), some (.ref rh), o3, o4, o5, o6, some (.ref rl), o8, some .non, o10] h) N R B C := by
  refine ws_for (fun done rest ms h' => ∃ (o3 o4 o5 o6 o10 : Option D) (met : Option Int) (s' : Ways) (kl' : List Int) (vh' vl' : List (D × D)), ms = [some d, some (.ref re), some (.ref rh), o3, o4, o5, o6, some (.ref rl), o8, some (match met with | some b => D.int b | none => .non), o10] ∧ done ++ rest = enumD (es.map Edg.d) ∧
      h'[re]? = some (.lst (es.map Edg.d)) ∧ h'[rh]? = some (.dic vh') ∧ h'[rl]? = some (.dic vl') ∧ DI vh' kh (fun x => if x ∈ kh then some (s'.H x) else none) ∧ DI vl' kl' (fun x => asI (s'.L x)) ∧ (∀ x ∈ kl', x ∈ kh) ∧
      WInv es r done.length s' ∧ (∀ b, met = some b → s'.T b = r + 1) ∧ (met = none → ∀ b, s'.T b ≤ r) ∧ (∀ i o, i ≠ rh → i ≠ rl → h[i]? = some o → h'[i]? = some o)) (wp_iEA ?_)
  repeat fail
  refine ⟨.ref re, _, rfl, lsAt_of ee, fun P hP => ⟨⟨_, _, _, _, _, none, s, kl, vh, vl, rfl, rfl, ee, eh, el, dh, dl, hkl, I, fun _ z => (nomatch z), fun _ => hT, fun _ _ _ _ z => z⟩, ?_, ?_⟩⟩
  · rintro done x rest ms h' ⟨o3, o4, o5, o6, o10, met, s', kl', vh', vl', rfl, ed, e1, e2, e3, d1, d2, d3, I', m1, m2, fr⟩
    refine ⟨hP _ (lsAt_of e1), ?_⟩
    obtain ⟨y, hy, rfl⟩ := enum_at ed
    rw [List.getElem?_map] at hy
    obtain ⟨e, hek, rfl⟩ : ∃ e, es[done.length]? = some e ∧ y = e.d := by
      cases hz : es[done.length]? with
      | none => rw [hz] at hy; cases hy
      | some c => rw [hz] at hy; cases hy; exact ⟨c, rfl, rfl⟩
    obtain ⟨ha, hb⟩ := hin e (List.mem_of_getElem? hek)
    have ed' : (done ++ [D.tup [.int (done.length : Nat), e.d]]) ++ rest = enumD (es.map Edg.d) := by simpa using ed
    have hdl : (done ++ [D.tup [.int (done.length : Nat), e.d]]).length = done.length + 1 := by simp
    have IR := relax_inv I' hek
    unfold relax at IR
    show WS (gTup 2 _ (.tup [.int (done.length : Nat), .tup [.int e.a, .int e.b, .int e.w, e.pair]]) _ h') _ _ _ _
    repeat fail
    refine wp_ixI e2 d1 (if_pos ha) ?_
    repeat fail
    refine wp_ixI e2 d1 (if_pos hb) ?_
    repeat fail
    with_reducible refine if_dec ?_ ?_
    · intro hup
      rw [if_pos hup] at IR
      repeat fail
      refine wp_ixI e2 d1 (if_pos ha) ?_
      repeat fail
      refine ⟨_, setA_D e2 rfl (c := .inl e.b) (Nat.lt_of_lt_of_le (by rw [d1.len]; omega : vh'.length < 7001) (by decide)), ?_⟩
      repeat fail
      have e3' := at_set_ne e3 (Ne.symm h3) (.dic (putD vh' (.inl e.b) (.int e.b) (.int (s'.H e.a + e.w))))
      have hkl' : kl'.length ≤ kh.length := len_of_sub d2.nd d3
      refine ⟨_, setA_D e3' rfl (c := .inl e.b) (Nat.lt_of_lt_of_le (by rw [d2.len]; omega : vl'.length < 7001) (by decide)), ?_⟩
      repeat fail
      have q1 := d1.put e.b (s'.H e.a + e.w)
      have q2 := d2.put e.b (done.length : Nat)
      have kk : dd kh e.b = kh := by unfold dd; rw [if_pos hb]
      rw [kk] at q1
      have hF1 : upI (fun x => if x ∈ kh then some (s'.H x) else none) e.b (some (s'.H e.a + e.w)) = fun x => if x ∈ kh then some (upI s'.H e.b (s'.H e.a + e.w) x) else none := funext fun x => by
        by_cases hx : x = e.b
        · rw [hx, upI_same, if_pos hb, upI_same]
        · rw [upI_ne hx, upI_ne hx]
      have hF2 : upI (fun x => asI (s'.L x)) e.b (some ((done.length : Nat) : Int)) = fun x => asI (upI s'.L e.b (some done.length) x) := funext fun x => by
        by_cases hx : x = e.b
        · rw [hx, upI_same, upI_same]; rfl
        · rw [upI_ne hx, upI_ne hx]
      rw [hF1] at q1
      rw [hF2] at q2
      refine ⟨_, _, _, _, _, some e.b, ⟨upI s'.H e.b (s'.H e.a + e.w), upI s'.L e.b (some done.length), upI s'.T e.b (r + 1)⟩, dd kl' e.b, _, _, rfl, ed', at_set_ne (at_set_ne e1 h1 _) h2 _, at_set_ne (at_set (lt_of_at e2) _) h3 _, at_set (by simp; exact lt_of_at e3) _, q1, q2, fun x hx => ?_, hdl ▸ IR, fun b hb' => ?_, fun z => (nomatch z), fun i o i1 i2 z => at_set_ne (at_set_ne (fr i o i1 i2 z) i1 _) i2 _⟩
      · rcases mem_dd.mp hx with z | z
        · exact d3 x z
        · rw [z]; exact hb
      · cases hb'
        exact upI_same
    · intro hup
      rw [if_neg hup] at IR
      repeat fail
      exact ⟨_, _, _, _, _, met, s', kl', vh', vl', rfl, ed', e1, e2, e3, d1, d2, d3, hdl ▸ IR, m1, m2, fr⟩
  · rintro done ms h' ⟨o3, o4, o5, o6, o10, met, s', kl', vh', vl', rfl, ed, e1, e2, e3, d1, d2, d3, I', m1, m2, fr⟩
    have hlen := congrArg List.length ed
    rw [List.append_nil, enum_len, List.length_map] at hlen
    exact ⟨hP _ (lsAt_of e1), hN _ _ _ _ _ met s' kl' vh' vl' h' e1 e2 e3 d1 d2 d3 (hlen ▸ I') m1 m2 fr⟩
end Lw
namespace Lw
open PySem PySem.Spec PyProof.Rows L2 Sm
local macro_rules | `(tactic| fail) => `(tactic| ((with_reducible refine and_ty ?_ ?_); (first | rfl | exact isTy_ls (by assumption) | exact isTy_ls (lsAt_of (by assumption)) | exact isTy_dc (by assumption))))
local macro_rules | `(tactic| fail) => `(tactic| with_reducible refine wp_isi_yes (by first | with_unfolding_all rfl | exact ty_ls (by assumption) | exact ty_ls (lsAt_of (by assumption)) | exact ty_dc (dcAt_of (by assumption))) (by with_unfolding_all decide) ?_)
local macro_rules | `(tactic| fail) => `(tactic| with_reducible refine wp_isi_no (by first | with_unfolding_all rfl | exact ty_ls (by assumption) | exact ty_ls (lsAt_of (by assumption)) | exact ty_dc (dcAt_of (by assumption))) (by with_unfolding_all decide) ?_)
local macro_rules | `(tactic| fail) => `(tactic| with_reducible refine if_no ?_)
local macro_rules | `(tactic| fail) => `(tactic| with_reducible refine if_yes ?_)
local macro_rules | `(tactic| fail) => `(tactic| with_reducible refine if_nf ?_)
local macro_rules | `(tactic| fail) => `(tactic| with_reducible refine if_nt ?_)
local macro_rules | `(tactic| fail) => `(tactic| with_reducible refine wp_iR2' ?_)
local macro_rules | `(tactic| fail) => `(tactic| with_reducible refine wp_iR1' ?_)
local macro_rules | `(tactic| fail) => `(tactic| with_reducible refine wp_listRg1 ?_)
local macro_rules | `(tactic| fail) => `(tactic| with_reducible refine wp_listRg2 ?_)
local macro_rules | `(tactic| fail) => `(tactic| with_reducible refine ex_intL2 ?_)
local macro_rules | `(tactic| fail) => `(tactic| with_reducible refine ex_int1 ?_)
local macro_rules | `(tactic| fail) => `(tactic| with_reducible refine ex_int2 ?_)
local macro_rules | `(tactic| fail) => `(tactic| with_reducible refine ex_two ?_)
local macro_rules | `(tactic| fail) => `(tactic| with_reducible refine ex_int ?_)
local macro_rules | `(tactic| fail) => `(tactic| with_reducible refine ex_bl ?_)
local macro_rules | `(tactic| fail) => `(tactic| ((with_reducible refine and_len ?_ ?_); (exact Nat.le_of_ble_eq_true rfl)))
local macro_rules | `(tactic| fail) => `(tactic| with_reducible refine wp_dnew ?_)
local macro_rules | `(tactic| fail) => `(tactic| with_reducible refine wp_isN (by with_unfolding_all rfl) ?_)
local macro_rules | `(tactic| fail) => `(tactic| with_reducible refine wp_isY (by with_unfolding_all rfl) ?_)
local macro_rules | `(tactic| fail) => `(tactic| with_reducible refine wp_len_L (lsAt_of (by assumption)) ?_)
local macro_rules | `(tactic| fail) => `(tactic| with_reducible refine wp_ixL (lsAt_of (by assumption)) (by with_unfolding_all rfl) ?_)
local macro_rules | `(tactic| fail) => `(tactic| ((with_reducible refine wp_powI ?_ ?_); decide))
local macro_rules | `(tactic| fail) => `(tactic| with_reducible refine wp_abs ?_)
local macro_rules | `(tactic| fail) => `(tactic| with_reducible refine wp_intB ?_)
local macro_rules | `(tactic| fail) => `(tactic| with_reducible refine wp_int ?_)
local macro_rules | `(tactic| fail) => `(tactic| with_reducible refine wp_neg ?_)
local macro_rules | `(tactic| fail) => `(tactic| with_reducible refine wp_neS ?_)
local macro_rules | `(tactic| fail) => `(tactic| with_reducible refine wp_eqS ?_)
local macro_rules | `(tactic| fail) => `(tactic| with_reducible refine wp_neB ?_)
local macro_rules | `(tactic| fail) => `(tactic| with_reducible refine wp_eqB ?_)
local macro_rules | `(tactic| fail) => `(tactic| with_reducible refine wp_neI ?_)
local macro_rules | `(tactic| fail) => `(tactic| with_reducible refine wp_eqI ?_)
local macro_rules | `(tactic| fail) => `(tactic| with_reducible refine wp_geI ?_)
local macro_rules | `(tactic| fail) => `(tactic| with_reducible refine wp_gtI ?_)
local macro_rules | `(tactic| fail) => `(tactic| with_reducible refine wp_leI ?_)
local macro_rules | `(tactic| fail) => `(tactic| with_reducible refine wp_ltI ?_)
local macro_rules | `(tactic| fail) => `(tactic| with_reducible refine wp_subI ?_)
local macro_rules | `(tactic| fail) => `(tactic| with_reducible refine wp_addI ?_)
local macro_rules | `(tactic| fail) => `(tactic| with_reducible refine wp_mChain ?_)
local macro_rules | `(tactic| fail) => `(tactic| with_reducible refine wp_mMeth ?_)
local macro_rules | `(tactic| fail) => `(tactic| with_reducible refine wp_pAt ?_)
local macro_rules | `(tactic| fail) => `(tactic| with_reducible refine wp_pNo ?_)
local macro_rules | `(tactic| fail) => `(tactic| with_reducible refine wp_mSl ?_)
local macro_rules | `(tactic| fail) => `(tactic| with_reducible refine wp_mNotV ?_)
local macro_rules | `(tactic| fail) => `(tactic| with_reducible refine wp_mNotT ?_)
local macro_rules | `(tactic| fail) => `(tactic| with_reducible refine wp_mIfE ?_)
local macro_rules | `(tactic| fail) => `(tactic| with_reducible refine wp_mLst ?_)
local macro_rules | `(tactic| fail) => `(tactic| with_reducible refine wp_mTup ?_)
local macro_rules | `(tactic| fail) => `(tactic| with_reducible refine wp_m1 ?_)
local macro_rules | `(tactic| fail) => `(tactic| with_reducible refine wp_mTest ?_)
local macro_rules | `(tactic| fail) => `(tactic| with_reducible refine wp_aNil ?_)
local macro_rules | `(tactic| fail) => `(tactic| with_reducible refine wp_aCons ?_)
local macro_rules | `(tactic| fail) => `(tactic| with_reducible refine wp_mCall ?_)
local macro_rules | `(tactic| fail) => `(tactic| with_reducible refine wp_mC ?_)
local macro_rules | `(tactic| fail) => `(tactic| with_reducible refine wp_mV (by with_unfolding_all rfl) ?_)
local macro_rules | `(tactic| fail) => `(tactic| with_reducible refine wp_m2 ?_)
local macro_rules | `(tactic| fail) => `(tactic| with_reducible refine wp_neSS ?_)
local macro_rules | `(tactic| fail) => `(tactic| with_reducible refine wp_neII ?_)
local macro_rules | `(tactic| fail) => `(tactic| with_reducible refine wp_neBB ?_)
local macro_rules | `(tactic| fail) => `(tactic| with_reducible refine wp_eqSS ?_)
local macro_rules | `(tactic| fail) => `(tactic| with_reducible refine wp_eqII ?_)
local macro_rules | `(tactic| fail) => `(tactic| with_reducible refine wp_eqBB ?_)
local macro_rules | `(tactic| fail) => `(tactic| with_reducible refine wp_iaddI ?_)
local macro_rules | `(tactic| fail) => `(tactic| with_reducible refine ws_aug (by with_unfolding_all rfl) ?_)
local macro_rules | `(tactic| fail) => `(tactic| with_reducible refine ws_gTup (by with_unfolding_all rfl) ?_)
local macro_rules | `(tactic| fail) => `(tactic| with_reducible refine ws_gsNil ?_)
local macro_rules | `(tactic| fail) => `(tactic| with_reducible refine ws_gsCons ?_)
local macro_rules | `(tactic| fail) => `(tactic| with_reducible refine ws_bk ?_)
local macro_rules | `(tactic| fail) => `(tactic| with_reducible refine ws_ct ?_)
local macro_rules | `(tactic| fail) => `(tactic| with_reducible refine ws_par ?_)
local macro_rules | `(tactic| fail) => `(tactic| with_reducible refine ws_retN ?_)
local macro_rules | `(tactic| fail) => `(tactic| with_reducible refine ws_nx ?_)
local macro_rules | `(tactic| fail) => `(tactic| with_reducible refine ws_gN ?_)
local macro_rules | `(tactic| fail) => `(tactic| with_reducible refine ws_gIt ?_)
local macro_rules | `(tactic| fail) => `(tactic| with_reducible refine ws_asg ?_)
local macro_rules | `(tactic| fail) => `(tactic| with_reducible refine ws_if ?_)
local macro_rules | `(tactic| fail) => `(tactic| with_reducible refine ws_expr ?_)
local macro_rules | `(tactic| fail) => `(tactic| with_reducible refine ws_ret ?_)
local macro_rules | `(tactic| fail) => `(tactic| with_reducible refine ws_set ?_)
local macro_rules | `(tactic| fail) => `(tactic| with_reducible refine ws_seq ?_)
/-- the edge that raised x -/
def into (es : List Edg) (L : Int → Option Nat) (x : Int) : Edg := match L x with
  | some k => es.getD k ⟨0, 0, 0, 0, true⟩
  | none => ⟨0, 0, 0, 0, true⟩
/-- a ring of last edges, gone once -/
structure Loop (es : List Edg) (L : Int → Option Nat) (c : Nat) (y : Int) : Prop where
  pos : 0 < c
  most : c ≤ 7000
  back : far es L c y = y
  all : ∀ i, L (far es L i y) ≠ none
  min : ∀ k, 0 < k → k < c → far es L k y ≠ y
theorem least_period {f : Nat → Prop} : ∀ c, 0 < c → f c → ∃ m, 0 < m ∧ m ≤ c ∧ f m ∧ ∀ k, 0 < k → k < m → ¬ f k := fun c => by
  induction c using Nat.strongRecOn with
  | ind c ih =>
    intro h0 hc
    by_cases h : ∃ k, 0 < k ∧ k < c ∧ f k
    · obtain ⟨k, k0, kc, fk⟩ := h
      obtain ⟨m, m0, mk, fm, hm⟩ := ih k kc k0 fk
      exact ⟨m, m0, by omega, fm, hm⟩
    · exact ⟨c, h0, Nat.le_refl _, hc, fun k k0 kc fk => h ⟨k, k0, kc, fk⟩⟩
section
variable {Q : D → MH → Prop} {h : MH} {re rl r j : Nat} {es : List Edg} {s : Ways} {kl : List Int} {vl : List (D × D)} {x : Int}
theorem into_some (I : WInv es r j s) {y : Int} (hy : s.L y ≠ none) : ∃ k : Nat, s.L y = some k ∧ es[k]? = some (into es s.L y) ∧ (into es s.L y).b = y ∧ (into es s.L y).a = nxt es s.L y := by
  cases hL : s.L y with
  | none => exact absurd hL hy
  | some k =>
    obtain ⟨e, he, hb, -, -⟩ := I.last y k hL
    have e1 : into es s.L y = e := by
      unfold into
      simp only [hL, List.getD_eq_getElem?_getD, he, Option.getD_some]
    have e2 : nxt es s.L y = e.a := by
      unfold nxt
      simp only [hL, he]
    exact ⟨k, rfl, by rw [e1]; exact he, by rw [e1]; exact hb, by rw [e1, e2]⟩
theorem ring_along_ok (ee : h[re]? = some (.lst (es.map Edg.d))) (el : h[rl]? = some (.dic vl)) (dl : DI vl kl fun x => asI (s.L x)) (I : WInv es r j s) (hx : kl.length < s.T x) (hl : kl.length ≤ 7000)
    (q : ∀ (c : Nat) (y : Int) h1, Gr h h1 → Loop es s.L c y → Q (.tup (((List.range c).map fun i => (into es s.L (far es s.L i y)).pair).reverse)) h1) : Wp (m_ring_along [.ref re, .ref rl, .int x] h) Q := by
  obtain ⟨hnn, c0, c1, c2, c3⟩ := on_ring I (ks := kl) (fun y hy => (dl.mem y).mpr fun z => hy (by
    cases hL : s.L y with
    | none => rfl
    | some k => rw [hL] at z; cases z)) hx
  unfold m_ring_along b_ring_along
  refine wp_def ?_
  repeat fail
  refine wp_len_D (dcAt_of el) ?_
  rw [dl.len]
  repeat fail
  have look : ∀ (h1 : MH) (y : Int) (Q : D → MH → Prop), h1[re]? = some (.lst (es.map Edg.d)) → h1[rl]? = some (.dic vl) → s.L y ≠ none → (∀ k, s.L y = some k → Q (.int (k : Nat)) h1) → Wp (gIx (.ref rl) (.int y) h1) Q := fun h1 y Q e1 e2 hy k => by
    obtain ⟨kk, a1, -, -, -⟩ := into_some I hy
    exact wp_ixI e2 dl (by show asI (s.L y) = some ((kk : Nat) : Int); rw [a1]; rfl) (k kk a1)
  have edge : ∀ (h1 : MH) (y : Int) (kk : Nat) (Q : D → MH → Prop), h1[re]? = some (.lst (es.map Edg.d)) → s.L y = some kk → Q (into es s.L y).d h1 → Wp (gIx (.ref re) (.int (kk : Nat)) h1) Q := fun h1 y kk Q e1 hy k => by
    obtain ⟨k2, a1, a2, -, -⟩ := into_some I (y := y) (by rw [hy]; exact fun z => nomatch z)
    rw [hy] at a1
    cases a1
    exact wp_ixL (lsAt_of e1) (int_at (by rw [List.getElem?_map, a2]; rfl)) k
  refine ws_for (fun done rest ms h1 => h1 = h ∧ ∃ o4 : Option D, ms = [some (.ref re), some (.ref rl), some (.int (far es s.L done.length x)), some (.int (kl.length : Nat)), o4, none, none, none] ∧ done.length + rest.length = kl.length) (wp_iR1 ?_)
  repeat fail
  refine ⟨by omega, by omega, ⟨rfl, _, rfl, by rw [rng_len]; simp⟩, ?_, ?_⟩
  · rintro done d rest ms h1 ⟨rfl, o4, rfl, hdl⟩
    refine ⟨trivial, ?_⟩
    repeat fail
    refine look _ _ _ ee el (hnn _) fun kk hkk => ?_
    refine edge _ _ kk _ ee hkk ?_
    repeat fail
    refine wp_ixT (xs := [.int (into es s.L (far es s.L done.length x)).a, .int (into es s.L (far es s.L done.length x)).b, .int (into es s.L (far es s.L done.length x)).w, (into es s.L (far es s.L done.length x)).pair]) rfl ?_
    obtain ⟨_, _, _, _, b4⟩ := into_some I (hnn done.length)
    refine ⟨rfl, some d, ?_, by simp at hdl ⊢; omega⟩
    rw [List.length_append, List.length_singleton, far_add]
    show [some (D.ref re), some (D.ref rl), some (D.int (into es s.L (far es s.L done.length x)).a), some (D.int (kl.length : Nat)), some d, none, none, none] = [some (D.ref re), some (D.ref rl), some (D.int (nxt es s.L (far es s.L done.length x))), some (D.int (kl.length : Nat)), some d, none, none, none]
    rw [b4]
  · rintro done ms h1 ⟨rfl, o4, rfl, hdl⟩
    refine ⟨trivial, ?_⟩
    have hd0 : done.length = kl.length := by simpa using hdl
    rw [hd0]
    repeat fail
    generalize hst : far es s.L kl.length x = st at *
    have hn2 : ∀ i, s.L (far es s.L i st) ≠ none := fun i => by rw [← hst, ← far_add]; exact hnn _
    obtain ⟨c, k0, kc, fc, hmin⟩ := least_period (f := fun k => far es s.L k st = st) c0 c1 c3
    have g0 : Gr h1 (h1 ++ [.lst []]) := .app _
    have e0 : (h1 ++ [.lst []])[h1.length]? = some (.lst ([] : List D)) := at_last
    have hre := lt_of_at ee
    have hrl := lt_of_at el
    generalize h1 ++ [.lst []] = h0 at *
    refine ws_while (fun n ms h2 => ∃ (t : Nat) (o7 : Option D), t + n = c ∧ ms = [some (.ref re), some (.ref rl), some (.int (far es s.L t st)), some (.int (kl.length : Nat)), o4, some (.int st), some (.ref h1.length), o7] ∧ Fr h1.length h0 h2 ∧ h2[h1.length]? = some (.lst ((List.range t).map fun i => (into es s.L (far es s.L i st)).pair))) c ⟨0, none, by omega, rfl, .refl, e0⟩ ?_
    rintro n ms h2 ⟨t, o7, htn, rfl, f2, e2⟩
    have ee2 : h2[re]? = some (.lst (es.map Edg.d)) := f2.at (by omega) (g0 _ _ ee)
    have el2 : h2[rl]? = some (.dic vl) := f2.at (by omega) (g0 _ _ el)
    refine wp_mOrT ?_
    repeat fail
    rw [List.length_map, List.length_range]
    have go : t < c → WS (mSeq (mSet 7 (m2 gIx (mV 0) (m2 gIx (mV 1) (mV 2)))) (mSeq (mExpr (mMeth "list" gAppend (mV 6) (aCons (m2 gIx (mV 7) (mC (.int 3))) aNil))) (mSet 2 (m2 gIx (mV 7) (mC (.int 0))))) [some (.ref re), some (.ref rl), some (.int (far es s.L t st)), some (.int (kl.length : Nat)), o4, some (.int st), some (.ref h1.length), o7] h2)
        (fun ms h2 => ∃ (t' : Nat) (o7 : Option D), t' + (n - 1) = c ∧ ms = [some (.ref re), some (.ref rl), some (.int (far es s.L t' st)), some (.int (kl.length : Nat)), o4, some (.int st), some (.ref h1.length), o7] ∧ Fr h1.length h0 h2 ∧ h2[h1.length]? = some (.lst ((List.range t').map fun i => (into es s.L (far es s.L i st)).pair))) Q (fun _ _ => False) fun _ _ => False := fun htc => by
      repeat fail
      refine look _ _ _ ee2 el2 (hn2 _) fun kk hkk => ?_
      refine edge _ _ kk _ ee2 hkk ?_
      repeat fail
      refine wp_ixT (xs := [.int (into es s.L (far es s.L t st)).a, .int (into es s.L (far es s.L t st)).b, .int (into es s.L (far es s.L t st)).w, (into es s.L (far es s.L t st)).pair]) rfl ?_
      repeat fail
      refine wp_append e2 (by rw [List.length_map, List.length_range]; exact Nat.lt_of_lt_of_le (by omega : t < 7001) (by decide)) ?_
      repeat fail
      refine wp_ixT (xs := [.int (into es s.L (far es s.L t st)).a, .int (into es s.L (far es s.L t st)).b, .int (into es s.L (far es s.L t st)).w, (into es s.L (far es s.L t st)).pair]) rfl ?_
      obtain ⟨_, _, _, _, b4⟩ := into_some I (hn2 t)
      refine ⟨t + 1, some (into es s.L (far es s.L t st)).d, by omega, ?_, f2.trans (fr_set _), ?_⟩
      · rw [far_add]
        show [some (D.ref re), some (D.ref rl), some (D.int (into es s.L (far es s.L t st)).a), some (D.int (kl.length : Nat)), o4, some (D.int st), some (D.ref h1.length), _] = [some (D.ref re), some (D.ref rl), some (D.int (nxt es s.L (far es s.L t st))), some (D.int (kl.length : Nat)), o4, some (D.int st), some (D.ref h1.length), _]
        rw [b4]
      · rw [at_set (lt_of_at e2), List.range_succ, List.map_append]
        rfl
    with_reducible refine if_dec ?_ ?_
    · intro ht0
      refine if_yes ⟨n - 1, by omega, (go (by omega)).mono (fun _ _ z => z) (fun _ _ z => z) (fun _ _ z => z.elim) fun _ _ z => z.elim⟩
    · intro ht0
      repeat fail
      with_reducible refine if_ndec ?_ ?_
      · intro hne
        have htc : t < c := by
          by_cases z : t = c
          · rw [z] at hne; exact absurd fc hne
          · omega
        exact ⟨n - 1, by omega, (go htc).mono (fun _ _ z => z) (fun _ _ z => z) (fun _ _ z => z.elim) fun _ _ z => z.elim⟩
      · intro heq
        have htc : t = c := by
          by_cases z : t < c
          · exact absurd heq (hmin t (by omega) z)
          · omega
        subst htc
        repeat fail
        refine wp_revL (lsAt_of e2) ?_
        repeat fail
        refine wp_tupleL (lsAt_of at_last) ?_
        exact q t st _ ((gr_of_fr g0 f2 (Nat.le_refl _)).trans (.app _)) ⟨k0, by omega, fc, hn2, hmin⟩
end
end Lw
namespace Lw
open PySem PySem.Spec PyProof.Rows L2 Sm
local macro_rules | `(tactic| fail) => `(tactic| ((with_reducible refine and_ty ?_ ?_); (first | rfl | exact isTy_ls (by assumption) | exact isTy_ls (lsAt_of (by assumption)) | exact isTy_dc (by assumption))))
local macro_rules | `(tactic| fail) => `(tactic| with_reducible refine wp_isi_yes (by first | with_unfolding_all rfl | exact ty_ls (by assumption) | exact ty_ls (lsAt_of (by assumption)) | exact ty_dc (dcAt_of (by assumption))) (by with_unfolding_all decide) ?_)
local macro_rules | `(tactic| fail) => `(tactic| with_reducible refine wp_isi_no (by first | with_unfolding_all rfl | exact ty_ls (by assumption) | exact ty_ls (lsAt_of (by assumption)) | exact ty_dc (dcAt_of (by assumption))) (by with_unfolding_all decide) ?_)
local macro_rules | `(tactic| fail) => `(tactic| with_reducible refine if_no ?_)
local macro_rules | `(tactic| fail) => `(tactic| with_reducible refine if_yes ?_)
local macro_rules | `(tactic| fail) => `(tactic| with_reducible refine if_nf ?_)
local macro_rules | `(tactic| fail) => `(tactic| with_reducible refine if_nt ?_)
local macro_rules | `(tactic| fail) => `(tactic| with_reducible refine wp_iR2' ?_)
local macro_rules | `(tactic| fail) => `(tactic| with_reducible refine wp_iR1' ?_)
local macro_rules | `(tactic| fail) => `(tactic| with_reducible refine wp_listRg1 ?_)
local macro_rules | `(tactic| fail) => `(tactic| with_reducible refine wp_listRg2 ?_)
local macro_rules | `(tactic| fail) => `(tactic| with_reducible refine ex_intL2 ?_)
local macro_rules | `(tactic| fail) => `(tactic| with_reducible refine ex_int1 ?_)
local macro_rules | `(tactic| fail) => `(tactic| with_reducible refine ex_int2 ?_)
local macro_rules | `(tactic| fail) => `(tactic| with_reducible refine ex_two ?_)
local macro_rules | `(tactic| fail) => `(tactic| with_reducible refine ex_int ?_)
local macro_rules | `(tactic| fail) => `(tactic| with_reducible refine ex_bl ?_)
local macro_rules | `(tactic| fail) => `(tactic| ((with_reducible refine and_len ?_ ?_); (exact Nat.le_of_ble_eq_true rfl)))
local macro_rules | `(tactic| fail) => `(tactic| with_reducible refine wp_dnew ?_)
local macro_rules | `(tactic| fail) => `(tactic| with_reducible refine wp_isN (by with_unfolding_all rfl) ?_)
local macro_rules | `(tactic| fail) => `(tactic| with_reducible refine wp_isY (by with_unfolding_all rfl) ?_)
local macro_rules | `(tactic| fail) => `(tactic| with_reducible refine wp_len_L (lsAt_of (by assumption)) ?_)
local macro_rules | `(tactic| fail) => `(tactic| with_reducible refine wp_ixL (lsAt_of (by assumption)) (by with_unfolding_all rfl) ?_)
local macro_rules | `(tactic| fail) => `(tactic| ((with_reducible refine wp_powI ?_ ?_); decide))
local macro_rules | `(tactic| fail) => `(tactic| with_reducible refine wp_abs ?_)
local macro_rules | `(tactic| fail) => `(tactic| with_reducible refine wp_intB ?_)
local macro_rules | `(tactic| fail) => `(tactic| with_reducible refine wp_int ?_)
local macro_rules | `(tactic| fail) => `(tactic| with_reducible refine wp_neg ?_)
local macro_rules | `(tactic| fail) => `(tactic| with_reducible refine wp_neS ?_)
local macro_rules | `(tactic| fail) => `(tactic| with_reducible refine wp_eqS ?_)
local macro_rules | `(tactic| fail) => `(tactic| with_reducible refine wp_neB ?_)
local macro_rules | `(tactic| fail) => `(tactic| with_reducible refine wp_eqB ?_)
local macro_rules | `(tactic| fail) => `(tactic| with_reducible refine wp_neI ?_)
local macro_rules | `(tactic| fail) => `(tactic| with_reducible refine wp_eqI ?_)
local macro_rules | `(tactic| fail) => `(tactic| with_reducible refine wp_geI ?_)
local macro_rules | `(tactic| fail) => `(tactic| with_reducible refine wp_gtI ?_)
local macro_rules | `(tactic| fail) => `(tactic| with_reducible refine wp_leI ?_)
local macro_rules | `(tactic| fail) => `(tactic| with_reducible refine wp_ltI ?_)
local macro_rules | `(tactic| fail) => `(tactic| with_reducible refine wp_subI ?_)
local macro_rules | `(tactic| fail) => `(tactic| with_reducible refine wp_addI ?_)
local macro_rules | `(tactic| fail) => `(tactic| with_reducible refine wp_mChain ?_)
local macro_rules | `(tactic| fail) => `(tactic| with_reducible refine wp_mMeth ?_)
local macro_rules | `(tactic| fail) => `(tactic| with_reducible refine wp_pAt ?_)
local macro_rules | `(tactic| fail) => `(tactic| with_reducible refine wp_pNo ?_)
local macro_rules | `(tactic| fail) => `(tactic| with_reducible refine wp_mSl ?_)
local macro_rules | `(tactic| fail) => `(tactic| with_reducible refine wp_mNotV ?_)
local macro_rules | `(tactic| fail) => `(tactic| with_reducible refine wp_mNotT ?_)
local macro_rules | `(tactic| fail) => `(tactic| with_reducible refine wp_mIfE ?_)
local macro_rules | `(tactic| fail) => `(tactic| with_reducible refine wp_mLst ?_)
local macro_rules | `(tactic| fail) => `(tactic| with_reducible refine wp_mTup ?_)
local macro_rules | `(tactic| fail) => `(tactic| with_reducible refine wp_m1 ?_)
local macro_rules | `(tactic| fail) => `(tactic| with_reducible refine wp_mTest ?_)
local macro_rules | `(tactic| fail) => `(tactic| with_reducible refine wp_aNil ?_)
local macro_rules | `(tactic| fail) => `(tactic| with_reducible refine wp_aCons ?_)
local macro_rules | `(tactic| fail) => `(tactic| with_reducible refine wp_mCall ?_)
local macro_rules | `(tactic| fail) => `(tactic| with_reducible refine wp_mC ?_)
local macro_rules | `(tactic| fail) => `(tactic| with_reducible refine wp_mV (by with_unfolding_all rfl) ?_)
local macro_rules | `(tactic| fail) => `(tactic| with_reducible refine wp_m2 ?_)
local macro_rules | `(tactic| fail) => `(tactic| with_reducible refine wp_neSS ?_)
local macro_rules | `(tactic| fail) => `(tactic| with_reducible refine wp_neII ?_)
local macro_rules | `(tactic| fail) => `(tactic| with_reducible refine wp_neBB ?_)
local macro_rules | `(tactic| fail) => `(tactic| with_reducible refine wp_eqSS ?_)
local macro_rules | `(tactic| fail) => `(tactic| with_reducible refine wp_eqII ?_)
local macro_rules | `(tactic| fail) => `(tactic| with_reducible refine wp_eqBB ?_)
local macro_rules | `(tactic| fail) => `(tactic| with_reducible refine wp_iaddI ?_)
local macro_rules | `(tactic| fail) => `(tactic| with_reducible refine ws_aug (by with_unfolding_all rfl) ?_)
local macro_rules | `(tactic| fail) => `(tactic| with_reducible refine ws_gTup (by with_unfolding_all rfl) ?_)
local macro_rules | `(tactic| fail) => `(tactic| with_reducible refine ws_gsNil ?_)
local macro_rules | `(tactic| fail) => `(tactic| with_reducible refine ws_gsCons ?_)
local macro_rules | `(tactic| fail) => `(tactic| with_reducible refine ws_bk ?_)
local macro_rules | `(tactic| fail) => `(tactic| with_reducible refine ws_ct ?_)
local macro_rules | `(tactic| fail) => `(tactic| with_reducible refine ws_par ?_)
local macro_rules | `(tactic| fail) => `(tactic| with_reducible refine ws_retN ?_)
local macro_rules | `(tactic| fail) => `(tactic| with_reducible refine ws_nx ?_)
local macro_rules | `(tactic| fail) => `(tactic| with_reducible refine ws_gN ?_)
local macro_rules | `(tactic| fail) => `(tactic| with_reducible refine ws_gIt ?_)
local macro_rules | `(tactic| fail) => `(tactic| with_reducible refine ws_asg ?_)
local macro_rules | `(tactic| fail) => `(tactic| with_reducible refine ws_if ?_)
local macro_rules | `(tactic| fail) => `(tactic| with_reducible refine ws_expr ?_)
local macro_rules | `(tactic| fail) => `(tactic| with_reducible refine ws_ret ?_)
local macro_rules | `(tactic| fail) => `(tactic| with_reducible refine ws_set ?_)
local macro_rules | `(tactic| fail) => `(tactic| with_reducible refine ws_seq ?_)
section
variable {Q : D → MH → Prop} {h : MH}
theorem found_ring_ok {d : D} {cs : List Cnd} (e : sqD h d = some (cs.map Cnd.d)) (hl : cs.length ≤ 1000)
    (q0 : ∀ (H : Int → Int) (h1 : MH), (∀ e ∈ edgesF 0 cs, H e.a + e.w ≤ H e.b) → Gr h h1 → Q .non h1)
    (q1 : ∀ (s : Ways) (r c : Nat) (y : Int) (h1 : MH), Gr h h1 → WInv (edgesF 0 cs) r (edgesF 0 cs).length s → Loop (edgesF 0 cs) s.L c y →
      Q (.tup (((List.range c).map fun i => (into (edgesF 0 cs) s.L (far (edgesF 0 cs) s.L i y)).pair).reverse)) h1) : Wp (m_found_ring [d] h) Q := by
  unfold m_found_ring b_found_ring
  refine wp_def ?_
  repeat fail
  refine edges_ok e hl fun re h1 g1 l1 e1 => ?_
  have hel := edgesF_len cs 0
  generalize hes : edgesF 0 cs = es at *
  repeat fail
  have g2 : Gr h1 (h1 ++ [.dic []]) := .app _
  have e2 : (h1 ++ [.dic []])[h1.length]? = some (.dic []) := at_last
  have hre := lt_of_at e1
  refine zero_loop (d := d) (o3 := none) (o4 := none) (o5 := none) (o6 := none) (o7 := none) (o8 := none) (o9 := none) (o10 := none) (rh := h1.length) (re := re) (es := es) (Nat.ne_of_lt hre) (g2 _ _ e1) e2 (by omega) fun o3 o4 o5 o6 vh kh F h3 f3 e3 dF hz hin hk => ?_
  have g3 : Gr h1 h3 := gr_of_fr g2 f3 (Nat.le_refl _)
  repeat fail
  have hrh := lt_of_at e3
  have g4 : Gr h3 (h3 ++ [.dic []]) := .app _
  have e4 : (h3 ++ [.dic []])[h3.length]? = some (.dic []) := at_last
  have hF : F = fun x => if x ∈ kh then some 0 else none := funext fun x => by
    by_cases hx : x ∈ kh
    · rw [if_pos hx]; exact hz x ((dF.mem x).mp hx)
    · rw [if_neg hx]
      cases hFx : F x with
      | none => rfl
      | some v => exact absurd ((dF.mem x).mpr (by rw [hFx]; exact fun z => nomatch z)) hx
  have hrl : h1.length < h3.length := by have := f3.1; simp at this; omega
  have a1 := g4 _ _ (g3 _ _ e1)
  have a3 := g4 _ _ e3
  have g5 : Gr h1 (h3 ++ [.dic []]) := g3.trans g4
  generalize h3 ++ [.dic []] = h4 at *
  have hla := lt_of_at e4
  refine ws_for (fun done rest ms h5 => ∃ (o3 o4 o5 o6 o8 o9 o10 : Option D) (s : Ways) (kl : List Int) (vh' vl : List (D × D)), ms = [some d, some (.ref re), some (.ref h1.length), o3, o4, o5, o6, some (.ref h3.length), o8, o9, o10] ∧ done.length + rest.length = kh.length + 1 ∧ h5[re]? = some (.lst (es.map Edg.d)) ∧ h5[h1.length]? = some (.dic vh') ∧ h5[h3.length]? = some (.dic vl) ∧
    DI vh' kh (fun x => if x ∈ kh then some (s.H x) else none) ∧ DI vl kl (fun x => asI (s.L x)) ∧ (∀ x ∈ kl, x ∈ kh) ∧ WInv es done.length 0 s ∧ (∀ b, s.T b ≤ done.length) ∧ (0 < done.length → ∃ b : Int, o9 = some (.int b) ∧ s.T b = done.length ∧ WInv es (done.length - 1) es.length s) ∧ (∀ i o, i ≠ h1.length → i ≠ h3.length → h4[i]? = some o → h5[i]? = some o)) (wp_iR1 ?_)
  repeat fail
  refine wp_len_D (dcAt_of a3) ?_
  rw [dF.len]
  repeat fail
  have dh0 : DI vh kh (fun x => if x ∈ kh then some ((⟨fun _ => 0, fun _ => none, fun _ => 0⟩ : Ways).H x) else none) := hF ▸ dF
  refine ⟨by omega, by omega, ⟨_, _, _, _, _, _, _, ⟨fun _ => 0, fun _ => none, fun _ => 0⟩, [], vh, [], rfl, by rw [rng_len]; simp, a1, a3, e4, dh0, di_nil, fun _ z => (nomatch z), start_inv es, fun _ => Nat.le_refl _, fun z => absurd z (Nat.lt_irrefl _), fun _ _ _ _ z => z⟩, ?_, ?_⟩
  · rintro done x rest ms h5 ⟨o3, o4, o5, o6, o8, o9, o10, s, kl, vh', vl, rfl, hdl, b1, b2, b3, dh, dl, hkl, I, hT, hmet, fr⟩
    refine ⟨trivial, ?_⟩
    repeat fail
    refine round_loop (d := d) (o3 := o3) (o4 := o4) (o5 := o5) (o6 := o6) (o8 := some x) (o10 := o10) (s := s) (kh := kh) (kl := kl) (Nat.ne_of_lt hre) (by omega) (Nat.ne_of_lt hrl) b1 b2 b3 dh dl (fun u hu => ⟨(dF.mem _).mpr (hin u hu).1, (dF.mem _).mpr (hin u hu).2⟩) hkl (by omega) I hT fun o3 o4 o5 o6 o10 met s' kl' vh2 vl2 h6 c1 c2 c3 dh2 dl2 hkl2 I2 m1 m2 fr2 => ?_
    have frr : ∀ i o, i ≠ h1.length → i ≠ h3.length → h4[i]? = some o → h6[i]? = some o := fun i o i1 i2 z => fr2 i o i1 i2 (fr i o i1 i2 z)
    have gg : Gr h h6 := fun i o z => frr i o (by have := lt_of_at z; have := g1.len; omega) (by have := lt_of_at z; have := g1.len; omega) (g5 _ _ (g1 _ _ z))
    cases met with
    | none =>
      show WS ((mIfS _ _ _ : MSt) [some d, some (.ref re), some (.ref h1.length), o3, o4, o5, o6, some (.ref h3.length), some x, some .non, o10] h6) _ _ _ _
      repeat fail
      exact q0 s'.H h6 (still I2 (m2 rfl)) gg
    | some b =>
      show WS ((mIfS _ _ _ : MSt) [some d, some (.ref re), some (.ref h1.length), o3, o4, o5, o6, some (.ref h3.length), some x, some (.int b), o10] h6) _ _ _ _
      repeat fail
      exact ⟨_, _, _, _, _, _, _, s', kl', vh2, vl2, rfl, by simp at hdl ⊢; omega, c1, c2, c3, dh2, dl2, hkl2, by simpa using next_inv I2, by simpa using I2.most, fun _ => ⟨b, rfl, by simpa using m1 b rfl, by simpa using I2⟩, frr⟩
  · rintro done ms h5 ⟨o3, o4, o5, o6, o8, o9, o10, s, kl, vh', vl, rfl, hdl, b1, b2, b3, dh, dl, hkl, I, hT, hmet, fr⟩
    refine ⟨trivial, ?_⟩
    have hd : done.length = kh.length + 1 := by simpa using hdl
    obtain ⟨b, rfl, tb, I2⟩ := hmet (by omega)
    have hkk : kl.length ≤ kh.length := len_of_sub dl.nd hkl
    repeat fail
    have gg : Gr h h5 := fun i o z => fr i o (by have := lt_of_at z; have := g1.len; omega) (by have := lt_of_at z; have := g1.len; omega) (g5 _ _ (g1 _ _ z))
    refine ring_along_ok b1 b3 dl I2 (by omega) (by omega) fun c y h6 g6 lp => ?_
    exact q1 s _ c y h6 (gg.trans g6) I2 lp
theorem ring_of_ok {d : D} {cs : List Cnd} (e : sqD h d = some (cs.map Cnd.d)) (hl : cs.length ≤ 1000) (hc : ∀ c ∈ cs, c.ok)
    (q0 : ∀ (H : Int → Int) (h1 : MH), (∀ e ∈ edgesF 0 cs, H e.a + e.w ≤ H e.b) → Gr h h1 → Q .non h1)
    (q1 : ∀ (s : Ways) (r c : Nat) (y : Int) (h1 : MH), Gr h h1 → WInv (edgesF 0 cs) r (edgesF 0 cs).length s → Loop (edgesF 0 cs) s.L c y →
      Q (.tup (((List.range c).map fun i => (into (edgesF 0 cs) s.L (far (edgesF 0 cs) s.L i y)).pair).reverse)) h1) : Wp (m_ring_of [d] h) Q := by
  unfold m_ring_of b_ring_of
  refine wp_def ?_
  repeat fail
  refine check_ok e hl hc ?_
  repeat fail
  exact found_ring_ok e hl q0 q1
end
end Lw
namespace Lw
open PySem PySem.Spec PyProof.Rows L2 Sm
local macro_rules | `(tactic| fail) => `(tactic| ((with_reducible refine and_ty ?_ ?_); (first | rfl | exact isTy_ls (by assumption) | exact isTy_ls (lsAt_of (by assumption)) | exact isTy_dc (by assumption))))
local macro_rules | `(tactic| fail) => `(tactic| with_reducible refine wp_isi_yes (by first | with_unfolding_all rfl | exact ty_ls (by assumption) | exact ty_ls (lsAt_of (by assumption)) | exact ty_dc (dcAt_of (by assumption))) (by with_unfolding_all decide) ?_)
local macro_rules | `(tactic| fail) => `(tactic| with_reducible refine wp_isi_no (by first | with_unfolding_all rfl | exact ty_ls (by assumption) | exact ty_ls (lsAt_of (by assumption)) | exact ty_dc (dcAt_of (by assumption))) (by with_unfolding_all decide) ?_)
local macro_rules | `(tactic| fail) => `(tactic| with_reducible refine if_no ?_)
local macro_rules | `(tactic| fail) => `(tactic| with_reducible refine if_yes ?_)
local macro_rules | `(tactic| fail) => `(tactic| with_reducible refine if_nf ?_)
local macro_rules | `(tactic| fail) => `(tactic| with_reducible refine if_nt ?_)
local macro_rules | `(tactic| fail) => `(tactic| with_reducible refine wp_iR2' ?_)
local macro_rules | `(tactic| fail) => `(tactic| with_reducible refine wp_iR1' ?_)
local macro_rules | `(tactic| fail) => `(tactic| with_reducible refine wp_listRg1 ?_)
local macro_rules | `(tactic| fail) => `(tactic| with_reducible refine wp_listRg2 ?_)
local macro_rules | `(tactic| fail) => `(tactic| with_reducible refine ex_intL2 ?_)
local macro_rules | `(tactic| fail) => `(tactic| with_reducible refine ex_int1 ?_)
local macro_rules | `(tactic| fail) => `(tactic| with_reducible refine ex_int2 ?_)
local macro_rules | `(tactic| fail) => `(tactic| with_reducible refine ex_two ?_)
local macro_rules | `(tactic| fail) => `(tactic| with_reducible refine ex_int ?_)
local macro_rules | `(tactic| fail) => `(tactic| with_reducible refine ex_bl ?_)
local macro_rules | `(tactic| fail) => `(tactic| ((with_reducible refine and_len ?_ ?_); (exact Nat.le_of_ble_eq_true rfl)))
local macro_rules | `(tactic| fail) => `(tactic| with_reducible refine wp_dnew ?_)
local macro_rules | `(tactic| fail) => `(tactic| with_reducible refine wp_isN (by with_unfolding_all rfl) ?_)
local macro_rules | `(tactic| fail) => `(tactic| with_reducible refine wp_isY (by with_unfolding_all rfl) ?_)
local macro_rules | `(tactic| fail) => `(tactic| with_reducible refine wp_len_L (lsAt_of (by assumption)) ?_)
local macro_rules | `(tactic| fail) => `(tactic| with_reducible refine wp_ixL (lsAt_of (by assumption)) (by with_unfolding_all rfl) ?_)
local macro_rules | `(tactic| fail) => `(tactic| ((with_reducible refine wp_powI ?_ ?_); decide))
local macro_rules | `(tactic| fail) => `(tactic| with_reducible refine wp_abs ?_)
local macro_rules | `(tactic| fail) => `(tactic| with_reducible refine wp_intB ?_)
local macro_rules | `(tactic| fail) => `(tactic| with_reducible refine wp_int ?_)
local macro_rules | `(tactic| fail) => `(tactic| with_reducible refine wp_neg ?_)
local macro_rules | `(tactic| fail) => `(tactic| with_reducible refine wp_neS ?_)
local macro_rules | `(tactic| fail) => `(tactic| with_reducible refine wp_eqS ?_)
local macro_rules | `(tactic| fail) => `(tactic| with_reducible refine wp_neB ?_)
local macro_rules | `(tactic| fail) => `(tactic| with_reducible refine wp_eqB ?_)
local macro_rules | `(tactic| fail) => `(tactic| with_reducible refine wp_neI ?_)
local macro_rules | `(tactic| fail) => `(tactic| with_reducible refine wp_eqI ?_)
local macro_rules | `(tactic| fail) => `(tactic| with_reducible refine wp_geI ?_)
local macro_rules | `(tactic| fail) => `(tactic| with_reducible refine wp_gtI ?_)
local macro_rules | `(tactic| fail) => `(tactic| with_reducible refine wp_leI ?_)
local macro_rules | `(tactic| fail) => `(tactic| with_reducible refine wp_ltI ?_)
local macro_rules | `(tactic| fail) => `(tactic| with_reducible refine wp_subI ?_)
local macro_rules | `(tactic| fail) => `(tactic| with_reducible refine wp_addI ?_)
local macro_rules | `(tactic| fail) => `(tactic| with_reducible refine wp_mChain ?_)
local macro_rules | `(tactic| fail) => `(tactic| with_reducible refine wp_mMeth ?_)
local macro_rules | `(tactic| fail) => `(tactic| with_reducible refine wp_pAt ?_)
local macro_rules | `(tactic| fail) => `(tactic| with_reducible refine wp_pNo ?_)
local macro_rules | `(tactic| fail) => `(tactic| with_reducible refine wp_mSl ?_)
local macro_rules | `(tactic| fail) => `(tactic| with_reducible refine wp_mNotV ?_)
local macro_rules | `(tactic| fail) => `(tactic| with_reducible refine wp_mNotT ?_)
local macro_rules | `(tactic| fail) => `(tactic| with_reducible refine wp_mIfE ?_)
local macro_rules | `(tactic| fail) => `(tactic| with_reducible refine wp_mLst ?_)
local macro_rules | `(tactic| fail) => `(tactic| with_reducible refine wp_mTup ?_)
local macro_rules | `(tactic| fail) => `(tactic| with_reducible refine wp_m1 ?_)
local macro_rules | `(tactic| fail) => `(tactic| with_reducible refine wp_mTest ?_)
local macro_rules | `(tactic| fail) => `(tactic| with_reducible refine wp_aNil ?_)
local macro_rules | `(tactic| fail) => `(tactic| with_reducible refine wp_aCons ?_)
local macro_rules | `(tactic| fail) => `(tactic| with_reducible refine wp_mCall ?_)
local macro_rules | `(tactic| fail) => `(tactic| with_reducible refine wp_mC ?_)
local macro_rules | `(tactic| fail) => `(tactic| with_reducible refine wp_mV (by with_unfolding_all rfl) ?_)
local macro_rules | `(tactic| fail) => `(tactic| with_reducible refine wp_m2 ?_)
local macro_rules | `(tactic| fail) => `(tactic| with_reducible refine wp_neSS ?_)
local macro_rules | `(tactic| fail) => `(tactic| with_reducible refine wp_neII ?_)
local macro_rules | `(tactic| fail) => `(tactic| with_reducible refine wp_neBB ?_)
local macro_rules | `(tactic| fail) => `(tactic| with_reducible refine wp_eqSS ?_)
local macro_rules | `(tactic| fail) => `(tactic| with_reducible refine wp_eqII ?_)
local macro_rules | `(tactic| fail) => `(tactic| with_reducible refine wp_eqBB ?_)
local macro_rules | `(tactic| fail) => `(tactic| with_reducible refine wp_iaddI ?_)
local macro_rules | `(tactic| fail) => `(tactic| with_reducible refine ws_aug (by with_unfolding_all rfl) ?_)
local macro_rules | `(tactic| fail) => `(tactic| with_reducible refine ws_gTup (by with_unfolding_all rfl) ?_)
local macro_rules | `(tactic| fail) => `(tactic| with_reducible refine ws_gsNil ?_)
local macro_rules | `(tactic| fail) => `(tactic| with_reducible refine ws_gsCons ?_)
local macro_rules | `(tactic| fail) => `(tactic| with_reducible refine ws_bk ?_)
local macro_rules | `(tactic| fail) => `(tactic| with_reducible refine ws_ct ?_)
local macro_rules | `(tactic| fail) => `(tactic| with_reducible refine ws_par ?_)
local macro_rules | `(tactic| fail) => `(tactic| with_reducible refine ws_retN ?_)
local macro_rules | `(tactic| fail) => `(tactic| with_reducible refine ws_nx ?_)
local macro_rules | `(tactic| fail) => `(tactic| with_reducible refine ws_gN ?_)
local macro_rules | `(tactic| fail) => `(tactic| with_reducible refine ws_gIt ?_)
local macro_rules | `(tactic| fail) => `(tactic| with_reducible refine ws_asg ?_)
local macro_rules | `(tactic| fail) => `(tactic| with_reducible refine ws_if ?_)
local macro_rules | `(tactic| fail) => `(tactic| with_reducible refine ws_expr ?_)
local macro_rules | `(tactic| fail) => `(tactic| with_reducible refine ws_ret ?_)
local macro_rules | `(tactic| fail) => `(tactic| with_reducible refine ws_set ?_)
local macro_rules | `(tactic| fail) => `(tactic| with_reducible refine ws_seq ?_)
def okS (z : Str) : Prop := ∀ c ∈ z.cps.toList, c < 0x110000
section
variable {Q : D → MH → Prop} {h : MH} {p : Nat}
theorem is_number_no {Q : D → MH → Prop} {d : D} {a : String} (e : tyN h d = some a) (ea : isiT a "int" = some false) (q : Q (.bl false) h) : Wp (m_is_number [d] h) Q := by
  unfold m_is_number b_is_number
  refine wp_def ?_
  refine ws_ret (wp_mAndV (wp_mCall (wp_aCons (wp_mV rfl (wp_aCons (wp_mC (wp_aNil (wp_isi_no e ea ⟨_, rfl, if_no q⟩))))))))
end
end Lw
namespace Lw
open PySem PySem.Spec PyProof.Rows L2 Sm
local macro_rules | `(tactic| fail) => `(tactic| ((with_reducible refine and_ty ?_ ?_); (first | rfl | exact isTy_ls (by assumption) | exact isTy_ls (lsAt_of (by assumption)) | exact isTy_dc (by assumption))))
local macro_rules | `(tactic| fail) => `(tactic| with_reducible refine wp_isi_yes (by first | with_unfolding_all rfl | exact ty_ls (by assumption) | exact ty_ls (lsAt_of (by assumption)) | exact ty_dc (dcAt_of (by assumption))) (by with_unfolding_all decide) ?_)
local macro_rules | `(tactic| fail) => `(tactic| with_reducible refine wp_isi_no (by first | with_unfolding_all rfl | exact ty_ls (by assumption) | exact ty_ls (lsAt_of (by assumption)) | exact ty_dc (dcAt_of (by assumption))) (by with_unfolding_all decide) ?_)
local macro_rules | `(tactic| fail) => `(tactic| with_reducible refine if_no ?_)
local macro_rules | `(tactic| fail) => `(tactic| with_reducible refine if_yes ?_)
local macro_rules | `(tactic| fail) => `(tactic| with_reducible refine if_nf ?_)
local macro_rules | `(tactic| fail) => `(tactic| with_reducible refine if_nt ?_)
local macro_rules | `(tactic| fail) => `(tactic| with_reducible refine wp_iR2' ?_)
local macro_rules | `(tactic| fail) => `(tactic| with_reducible refine wp_iR1' ?_)
local macro_rules | `(tactic| fail) => `(tactic| with_reducible refine wp_listRg1 ?_)
local macro_rules | `(tactic| fail) => `(tactic| with_reducible refine wp_listRg2 ?_)
local macro_rules | `(tactic| fail) => `(tactic| with_reducible refine ex_intL2 ?_)
local macro_rules | `(tactic| fail) => `(tactic| with_reducible refine ex_int1 ?_)
local macro_rules | `(tactic| fail) => `(tactic| with_reducible refine ex_int2 ?_)
local macro_rules | `(tactic| fail) => `(tactic| with_reducible refine ex_two ?_)
local macro_rules | `(tactic| fail) => `(tactic| with_reducible refine ex_int ?_)
local macro_rules | `(tactic| fail) => `(tactic| with_reducible refine ex_bl ?_)
local macro_rules | `(tactic| fail) => `(tactic| ((with_reducible refine and_len ?_ ?_); (exact Nat.le_of_ble_eq_true rfl)))
local macro_rules | `(tactic| fail) => `(tactic| with_reducible refine wp_dnew ?_)
local macro_rules | `(tactic| fail) => `(tactic| with_reducible refine wp_isN (by with_unfolding_all rfl) ?_)
local macro_rules | `(tactic| fail) => `(tactic| with_reducible refine wp_isY (by with_unfolding_all rfl) ?_)
local macro_rules | `(tactic| fail) => `(tactic| with_reducible refine wp_len_L (lsAt_of (by assumption)) ?_)
local macro_rules | `(tactic| fail) => `(tactic| with_reducible refine wp_ixL (lsAt_of (by assumption)) (by with_unfolding_all rfl) ?_)
local macro_rules | `(tactic| fail) => `(tactic| ((with_reducible refine wp_powI ?_ ?_); decide))
local macro_rules | `(tactic| fail) => `(tactic| with_reducible refine wp_abs ?_)
local macro_rules | `(tactic| fail) => `(tactic| with_reducible refine wp_intB ?_)
local macro_rules | `(tactic| fail) => `(tactic| with_reducible refine wp_int ?_)
local macro_rules | `(tactic| fail) => `(tactic| with_reducible refine wp_neg ?_)
local macro_rules | `(tactic| fail) => `(tactic| with_reducible refine wp_neS ?_)
local macro_rules | `(tactic| fail) => `(tactic| with_reducible refine wp_eqS ?_)
local macro_rules | `(tactic| fail) => `(tactic| with_reducible refine wp_neB ?_)
local macro_rules | `(tactic| fail) => `(tactic| with_reducible refine wp_eqB ?_)
local macro_rules | `(tactic| fail) => `(tactic| with_reducible refine wp_neI ?_)
local macro_rules | `(tactic| fail) => `(tactic| with_reducible refine wp_eqI ?_)
local macro_rules | `(tactic| fail) => `(tactic| with_reducible refine wp_geI ?_)
local macro_rules | `(tactic| fail) => `(tactic| with_reducible refine wp_gtI ?_)
local macro_rules | `(tactic| fail) => `(tactic| with_reducible refine wp_leI ?_)
local macro_rules | `(tactic| fail) => `(tactic| with_reducible refine wp_ltI ?_)
local macro_rules | `(tactic| fail) => `(tactic| with_reducible refine wp_subI ?_)
local macro_rules | `(tactic| fail) => `(tactic| with_reducible refine wp_addI ?_)
local macro_rules | `(tactic| fail) => `(tactic| with_reducible refine wp_mChain ?_)
local macro_rules | `(tactic| fail) => `(tactic| with_reducible refine wp_mMeth ?_)
local macro_rules | `(tactic| fail) => `(tactic| with_reducible refine wp_pAt ?_)
local macro_rules | `(tactic| fail) => `(tactic| with_reducible refine wp_pNo ?_)
local macro_rules | `(tactic| fail) => `(tactic| with_reducible refine wp_mSl ?_)
local macro_rules | `(tactic| fail) => `(tactic| with_reducible refine wp_mNotV ?_)
local macro_rules | `(tactic| fail) => `(tactic| with_reducible refine wp_mNotT ?_)
local macro_rules | `(tactic| fail) => `(tactic| with_reducible refine wp_mIfE ?_)
local macro_rules | `(tactic| fail) => `(tactic| with_reducible refine wp_mLst ?_)
local macro_rules | `(tactic| fail) => `(tactic| with_reducible refine wp_mTup ?_)
local macro_rules | `(tactic| fail) => `(tactic| with_reducible refine wp_m1 ?_)
local macro_rules | `(tactic| fail) => `(tactic| with_reducible refine wp_mTest ?_)
local macro_rules | `(tactic| fail) => `(tactic| with_reducible refine wp_aNil ?_)
local macro_rules | `(tactic| fail) => `(tactic| with_reducible refine wp_aCons ?_)
local macro_rules | `(tactic| fail) => `(tactic| with_reducible refine wp_mCall ?_)
local macro_rules | `(tactic| fail) => `(tactic| with_reducible refine wp_mC ?_)
local macro_rules | `(tactic| fail) => `(tactic| with_reducible refine wp_mV (by with_unfolding_all rfl) ?_)
local macro_rules | `(tactic| fail) => `(tactic| with_reducible refine wp_m2 ?_)
local macro_rules | `(tactic| fail) => `(tactic| with_reducible refine wp_neSS ?_)
local macro_rules | `(tactic| fail) => `(tactic| with_reducible refine wp_neII ?_)
local macro_rules | `(tactic| fail) => `(tactic| with_reducible refine wp_neBB ?_)
local macro_rules | `(tactic| fail) => `(tactic| with_reducible refine wp_eqSS ?_)
local macro_rules | `(tactic| fail) => `(tactic| with_reducible refine wp_eqII ?_)
local macro_rules | `(tactic| fail) => `(tactic| with_reducible refine wp_eqBB ?_)
local macro_rules | `(tactic| fail) => `(tactic| with_reducible refine wp_iaddI ?_)
local macro_rules | `(tactic| fail) => `(tactic| with_reducible refine ws_aug (by with_unfolding_all rfl) ?_)
local macro_rules | `(tactic| fail) => `(tactic| with_reducible refine ws_gTup (by with_unfolding_all rfl) ?_)
local macro_rules | `(tactic| fail) => `(tactic| with_reducible refine ws_gsNil ?_)
local macro_rules | `(tactic| fail) => `(tactic| with_reducible refine ws_gsCons ?_)
local macro_rules | `(tactic| fail) => `(tactic| with_reducible refine ws_bk ?_)
local macro_rules | `(tactic| fail) => `(tactic| with_reducible refine ws_ct ?_)
local macro_rules | `(tactic| fail) => `(tactic| with_reducible refine ws_par ?_)
local macro_rules | `(tactic| fail) => `(tactic| with_reducible refine ws_retN ?_)
local macro_rules | `(tactic| fail) => `(tactic| with_reducible refine ws_nx ?_)
local macro_rules | `(tactic| fail) => `(tactic| with_reducible refine ws_gN ?_)
local macro_rules | `(tactic| fail) => `(tactic| with_reducible refine ws_gIt ?_)
local macro_rules | `(tactic| fail) => `(tactic| with_reducible refine ws_asg ?_)
local macro_rules | `(tactic| fail) => `(tactic| with_reducible refine ws_if ?_)
local macro_rules | `(tactic| fail) => `(tactic| with_reducible refine ws_expr ?_)
local macro_rules | `(tactic| fail) => `(tactic| with_reducible refine ws_ret ?_)
local macro_rules | `(tactic| fail) => `(tactic| with_reducible refine ws_set ?_)
local macro_rules | `(tactic| fail) => `(tactic| with_reducible refine ws_seq ?_)
instance : DecidableEq Itm := fun a b => match a, b with
  | .num i, .num j => if h : i = j then .isTrue (by rw [h]) else .isFalse fun z => h (by cases z; rfl)
  | .inp i, .inp j => if h : i = j then .isTrue (by rw [h]) else .isFalse fun z => h (by cases z; rfl)
  | .num _, .inp _ => .isFalse fun z => nomatch z
  | .inp _, .num _ => .isFalse fun z => nomatch z
theorem mapO_imp {α β : Type} {f g : α → Option β} : ∀ {l : List α} {r : List β}, (∀ x ∈ l, ∀ y, f x = some y → g x = some y) → mapO f l = some r → mapO g l = some r
  | [], _, _, e => e
  | x :: l, r, fg, e => by
    unfold mapO at e ⊢
    cases h1 : f x with
    | none => rw [h1] at e; cases e
    | some y =>
      rw [h1] at e
      cases h2 : mapO f l with
      | none => rw [h2] at e; cases e
      | some ys =>
        rw [h2] at e
        rw [fg x (List.mem_cons_self ..) y h1, mapO_imp (fun z hz => fg z (List.mem_cons_of_mem _ hz)) h2]
        exact e
theorem pd_imp {h h1 : MH} (f : ∀ k xs, lsAt h k = some xs → lsAt h1 k = some xs) : ∀ (n m : Nat) (d : D) (p : PyData), n ≤ m → pd h n d = some p → pd h1 m d = some p
  | 0, _, _, _, _, e => by cases e
  | n + 1, 0, _, _, hm, _ => absurd hm (Nat.not_succ_le_zero _)
  | n + 1, m + 1, d, p, hm, e => by
    cases d with
    | tup ds =>
      have e : (mapO (pd h n) ds).map PyData.tuple = some p := e
      show (mapO (pd h1 m) ds).map PyData.tuple = some p
      cases h2 : mapO (pd h n) ds with
      | none => rw [h2] at e; cases e
      | some ys =>
        rw [h2] at e
        rw [mapO_imp (fun x _ y z => pd_imp f n m x y (Nat.le_of_succ_le_succ hm) z) h2]
        exact e
    | ref k =>
      have e : (match lsAt h k with | some xs => (mapO (pd h n) xs).map PyData.list | none => none) = some p := e
      show (match lsAt h1 k with | some xs => (mapO (pd h1 m) xs).map PyData.list | none => none) = some p
      cases h3 : lsAt h k with
      | none => rw [h3] at e; cases e
      | some xs =>
        rw [h3] at e
        have e : (mapO (pd h n) xs).map PyData.list = some p := e
        rw [f k xs h3]
        show (mapO (pd h1 m) xs).map PyData.list = some p
        cases h2 : mapO (pd h n) xs with
        | none => rw [h2] at e; cases e
        | some ys =>
          rw [h2] at e
          rw [mapO_imp (fun x _ y z => pd_imp f n m x y (Nat.le_of_succ_le_succ hm) z) h2]
          exact e
    | _ => exact e
/-- plain data, nested at most n deep -/
def Td (h : MH) (n : Nat) (d : D) : Prop := ∃ p, pd h n d = some p ∧ p.canLay0 = true
section
variable {h h1 : MH} {n m : Nat} {d : D}
theorem Td.gr (g : Gr h h1) (t : Td h n d) : Td h1 n d := by
  obtain ⟨p, e, c⟩ := t
  exact ⟨p, pd_imp (fun k xs z => g.ls z) n n d p (Nat.le_refl _) e, c⟩
end
end Lw
namespace Lw
open PySem PySem.Spec PyProof.Rows L2 Sm
noncomputable def b_ends_of : MSt := (mSeq (mAsg (m2 gIx (mV 0) (m2 gIx (mV 1) (mC (.int 0)))) fun d ms h => onlyG ((gTup 3 (gsCons (gN 2) (gsCons (gN 3) (gsCons (gN 4) gsNil)))) d ms h))
  (mRet (mIfE (mTest (m2 gEq (m2 gIx (mV 1) (mC (.int 1))) (mC (.str "on")))) (mTup (aCons (mV 3) (aCons (mV 4) aNil))) (mTup (aCons (mV 4) (aCons (mV 3) aNil))))))
noncomputable def m_ends_of : MF := mDef 5 b_ends_of
noncomputable def b_is_pair_of_ring : MSt := (mSeq (mIfS (mOrT (mNotT (mTest (mCall fIsi (aCons (mV 1) (aCons (mC (.ty "tuple")) aNil))))) (mOrT (mTest (m2 gNe (mCall fLen (aCons (mV 1) aNil)) (mC (.int 2)))) (mNotT (mTest (mCall m_is_within (aCons (m2 gIx (mV 1) (mC (.int 0))) (aCons (mC (.int 0)) (aCons (m2 gSub (mCall fLen (aCons (mV 0) aNil)) (mC (.int 1))) aNil)))))))) (mRet (mC (.bl false))) mNx)
  (mSeq (mIfS (mNotT (mTest (mCall m_is_word_of (aCons (m2 gIx (mV 1) (mC (.int 1))) (aCons (mTup (aCons (mC (.str "on")) (aCons (mC (.str "back")) aNil))) aNil))))) (mRet (mC (.bl false))) mNx)
  (mRet (mOrV (m2 gEq (m2 gIx (mV 1) (mC (.int 1))) (mC (.str "on"))) (m2 gEq (m2 gIx (m2 gIx (mV 0) (m2 gIx (mV 1) (mC (.int 0)))) (mC (.int 0))) (mC (.str "same")))))))
noncomputable def m_is_pair_of_ring : MF := mDef 2 b_is_pair_of_ring
noncomputable def b_is_ring : MSt := (mSeq (mExpr (mCall m_check_conditions (aCons (mV 0) aNil)))
  (mSeq (mIfS (mOrT (mNotT (mTest (mCall fIsi (aCons (mV 1) (aCons (mC (.ty "tuple")) aNil))))) (mTest (m2 gEq (mCall fLen (aCons (mV 1) aNil)) (mC (.int 0))))) (mRet (mC (.bl false))) mNx)
  (mSeq (mIfS (mNotT (mTest (mCall fAll (aCons (mLc (iSeq (mV 1)) [4] (gN 4) mYes (mCall m_is_pair_of_ring (aCons (mV 0) (aCons (mV 4) aNil)))) aNil)))) (mRet (mC (.bl false))) mNx)
  (mSeq (mSet 2 (mC (.int 0)))
  (mSeq (mFor (iEnumA (aCons (mV 1) aNil)) (gTup 2 (gsCons (gN 3) (gsCons (gN 4) gsNil))) (mSeq (mSet 5 (m2 gIx (mCall m_ends_of (aCons (mV 0) (aCons (mV 4) aNil))) (mC (.int 1))))
    (mSeq (mSet 6 (m2 gIx (mCall m_ends_of (aCons (mV 0) (aCons (m2 gIx (mV 1) (m2 gMod (m2 gAdd (mV 3) (mC (.int 1))) (mCall fLen (aCons (mV 1) aNil)))) aNil))) (mC (.int 0))))
    (mSeq (mAug 2 giAdd (mCall fInt (aCons (m2 gEq (m2 gIx (m2 gIx (mV 0) (m2 gIx (mV 4) (mC (.int 0)))) (mC (.int 0))) (mC (.str "less"))) aNil)))
    (mIfS (mAndT (mTest (mCall fIsi (aCons (mV 5) (aCons (mC (.ty "int")) aNil)))) (mTest (mCall fIsi (aCons (mV 6) (aCons (mC (.ty "int")) aNil))))) (mAug 2 giAdd (m2 gSub (mV 6) (mV 5))) (mIfS (mTest (m2 gNe (mV 5) (mV 6))) (mRet (mC (.bl false))) mNx))))))
  (mRet (m2 gGt (mV 2) (mC (.int 0)))))))))
noncomputable def m_is_ring : MF := mDef 7 b_is_ring
noncomputable def b__law_within : MSt := (mRet (mAndV (mCall fIsi (aCons (mV 0) (aCons (mC (.ty "int")) aNil))) (mAndV (mNotV (mCall fIsi (aCons (mV 0) (aCons (mC (.ty "bool")) aNil)))) (mChain gLe gLe (mV 1) (mV 0) (mV 2)))))
noncomputable def m__law_within : MF := mDef 3 b__law_within
local macro_rules | `(tactic| fail) => `(tactic| ((with_reducible refine and_ty ?_ ?_); (first | rfl | exact isTy_ls (by assumption) | exact isTy_ls (lsAt_of (by assumption)) | exact isTy_dc (by assumption))))
local macro_rules | `(tactic| fail) => `(tactic| with_reducible refine wp_isi_yes (by first | with_unfolding_all rfl | exact ty_ls (by assumption) | exact ty_ls (lsAt_of (by assumption)) | exact ty_dc (dcAt_of (by assumption))) (by with_unfolding_all decide) ?_)
local macro_rules | `(tactic| fail) => `(tactic| with_reducible refine wp_isi_no (by first | with_unfolding_all rfl | exact ty_ls (by assumption) | exact ty_ls (lsAt_of (by assumption)) | exact ty_dc (dcAt_of (by assumption))) (by with_unfolding_all decide) ?_)
local macro_rules | `(tactic| fail) => `(tactic| with_reducible refine if_no ?_)
local macro_rules | `(tactic| fail) => `(tactic| with_reducible refine if_yes ?_)
local macro_rules | `(tactic| fail) => `(tactic| with_reducible refine if_nf ?_)
local macro_rules | `(tactic| fail) => `(tactic| with_reducible refine if_nt ?_)
local macro_rules | `(tactic| fail) => `(tactic| with_reducible refine wp_iR2' ?_)
local macro_rules | `(tactic| fail) => `(tactic| with_reducible refine wp_iR1' ?_)
local macro_rules | `(tactic| fail) => `(tactic| with_reducible refine wp_listRg1 ?_)
local macro_rules | `(tactic| fail) => `(tactic| with_reducible refine wp_listRg2 ?_)
local macro_rules | `(tactic| fail) => `(tactic| with_reducible refine ex_intL2 ?_)
local macro_rules | `(tactic| fail) => `(tactic| with_reducible refine ex_int1 ?_)
local macro_rules | `(tactic| fail) => `(tactic| with_reducible refine ex_int2 ?_)
local macro_rules | `(tactic| fail) => `(tactic| with_reducible refine ex_two ?_)
local macro_rules | `(tactic| fail) => `(tactic| with_reducible refine ex_int ?_)
local macro_rules | `(tactic| fail) => `(tactic| with_reducible refine ex_bl ?_)
local macro_rules | `(tactic| fail) => `(tactic| ((with_reducible refine and_len ?_ ?_); (exact Nat.le_of_ble_eq_true rfl)))
local macro_rules | `(tactic| fail) => `(tactic| with_reducible refine wp_dnew ?_)
local macro_rules | `(tactic| fail) => `(tactic| with_reducible refine wp_isN (by with_unfolding_all rfl) ?_)
local macro_rules | `(tactic| fail) => `(tactic| with_reducible refine wp_isY (by with_unfolding_all rfl) ?_)
local macro_rules | `(tactic| fail) => `(tactic| with_reducible refine wp_len_L (lsAt_of (by assumption)) ?_)
local macro_rules | `(tactic| fail) => `(tactic| with_reducible refine wp_ixL (lsAt_of (by assumption)) (by with_unfolding_all rfl) ?_)
local macro_rules | `(tactic| fail) => `(tactic| ((with_reducible refine wp_powI ?_ ?_); decide))
local macro_rules | `(tactic| fail) => `(tactic| with_reducible refine wp_abs ?_)
local macro_rules | `(tactic| fail) => `(tactic| with_reducible refine wp_intB ?_)
local macro_rules | `(tactic| fail) => `(tactic| with_reducible refine wp_int ?_)
local macro_rules | `(tactic| fail) => `(tactic| with_reducible refine wp_neg ?_)
local macro_rules | `(tactic| fail) => `(tactic| with_reducible refine wp_neS ?_)
local macro_rules | `(tactic| fail) => `(tactic| with_reducible refine wp_eqS ?_)
local macro_rules | `(tactic| fail) => `(tactic| with_reducible refine wp_neB ?_)
local macro_rules | `(tactic| fail) => `(tactic| with_reducible refine wp_eqB ?_)
local macro_rules | `(tactic| fail) => `(tactic| with_reducible refine wp_neI ?_)
local macro_rules | `(tactic| fail) => `(tactic| with_reducible refine wp_eqI ?_)
local macro_rules | `(tactic| fail) => `(tactic| with_reducible refine wp_geI ?_)
local macro_rules | `(tactic| fail) => `(tactic| with_reducible refine wp_gtI ?_)
local macro_rules | `(tactic| fail) => `(tactic| with_reducible refine wp_leI ?_)
local macro_rules | `(tactic| fail) => `(tactic| with_reducible refine wp_ltI ?_)
local macro_rules | `(tactic| fail) => `(tactic| with_reducible refine wp_subI ?_)
local macro_rules | `(tactic| fail) => `(tactic| with_reducible refine wp_addI ?_)
local macro_rules | `(tactic| fail) => `(tactic| with_reducible refine wp_mChain ?_)
local macro_rules | `(tactic| fail) => `(tactic| with_reducible refine wp_mMeth ?_)
local macro_rules | `(tactic| fail) => `(tactic| with_reducible refine wp_pAt ?_)
local macro_rules | `(tactic| fail) => `(tactic| with_reducible refine wp_pNo ?_)
local macro_rules | `(tactic| fail) => `(tactic| with_reducible refine wp_mSl ?_)
local macro_rules | `(tactic| fail) => `(tactic| with_reducible refine wp_mNotV ?_)
local macro_rules | `(tactic| fail) => `(tactic| with_reducible refine wp_mNotT ?_)
local macro_rules | `(tactic| fail) => `(tactic| with_reducible refine wp_mIfE ?_)
local macro_rules | `(tactic| fail) => `(tactic| with_reducible refine wp_mLst ?_)
local macro_rules | `(tactic| fail) => `(tactic| with_reducible refine wp_mTup ?_)
local macro_rules | `(tactic| fail) => `(tactic| with_reducible refine wp_m1 ?_)
local macro_rules | `(tactic| fail) => `(tactic| with_reducible refine wp_mTest ?_)
local macro_rules | `(tactic| fail) => `(tactic| with_reducible refine wp_aNil ?_)
local macro_rules | `(tactic| fail) => `(tactic| with_reducible refine wp_aCons ?_)
local macro_rules | `(tactic| fail) => `(tactic| with_reducible refine wp_mCall ?_)
local macro_rules | `(tactic| fail) => `(tactic| with_reducible refine wp_mC ?_)
local macro_rules | `(tactic| fail) => `(tactic| with_reducible refine wp_mV (by with_unfolding_all rfl) ?_)
local macro_rules | `(tactic| fail) => `(tactic| with_reducible refine wp_m2 ?_)
local macro_rules | `(tactic| fail) => `(tactic| with_reducible refine wp_neSS ?_)
local macro_rules | `(tactic| fail) => `(tactic| with_reducible refine wp_neII ?_)
local macro_rules | `(tactic| fail) => `(tactic| with_reducible refine wp_neBB ?_)
local macro_rules | `(tactic| fail) => `(tactic| with_reducible refine wp_eqSS ?_)
local macro_rules | `(tactic| fail) => `(tactic| with_reducible refine wp_eqII ?_)
local macro_rules | `(tactic| fail) => `(tactic| with_reducible refine wp_eqBB ?_)
local macro_rules | `(tactic| fail) => `(tactic| with_reducible refine wp_iaddI ?_)
local macro_rules | `(tactic| fail) => `(tactic| with_reducible refine ws_aug (by with_unfolding_all rfl) ?_)
local macro_rules | `(tactic| fail) => `(tactic| with_reducible refine ws_gTup (by with_unfolding_all rfl) ?_)
local macro_rules | `(tactic| fail) => `(tactic| with_reducible refine ws_gsNil ?_)
local macro_rules | `(tactic| fail) => `(tactic| with_reducible refine ws_gsCons ?_)
local macro_rules | `(tactic| fail) => `(tactic| with_reducible refine ws_bk ?_)
local macro_rules | `(tactic| fail) => `(tactic| with_reducible refine ws_ct ?_)
local macro_rules | `(tactic| fail) => `(tactic| with_reducible refine ws_par ?_)
local macro_rules | `(tactic| fail) => `(tactic| with_reducible refine ws_retN ?_)
local macro_rules | `(tactic| fail) => `(tactic| with_reducible refine ws_nx ?_)
local macro_rules | `(tactic| fail) => `(tactic| with_reducible refine ws_gN ?_)
local macro_rules | `(tactic| fail) => `(tactic| with_reducible refine ws_gIt ?_)
local macro_rules | `(tactic| fail) => `(tactic| with_reducible refine ws_asg ?_)
local macro_rules | `(tactic| fail) => `(tactic| with_reducible refine ws_if ?_)
local macro_rules | `(tactic| fail) => `(tactic| with_reducible refine ws_expr ?_)
local macro_rules | `(tactic| fail) => `(tactic| with_reducible refine ws_ret ?_)
local macro_rules | `(tactic| fail) => `(tactic| with_reducible refine ws_set ?_)
local macro_rules | `(tactic| fail) => `(tactic| with_reducible refine ws_seq ?_)
def onS (on : Bool) : Str := if on = true then "on" else "back"
inductive Fst where
  | int (i : Int)
  | bl (b : Bool)
  | str (z : Str)
inductive Snd where
  | str (z : Str)
  | int (i : Int)
  | non
def Fst.d : Fst → D
  | .int i => .int i
  | .bl b => .bl b
  | .str z => .str z
def Snd.d : Snd → D
  | .str z => .str z
  | .int i => .int i
  | .non => .non
def Fst.ok : Fst → Prop
  | .str z => okS z
  | _ => True
def Snd.ok : Snd → Prop
  | .str z => okS z
  | _ => True
/-- what may stand in a bent ring -/
inductive Thing where
  | pr (a : Fst) (b : Snd)
  | odd (d : D)
def Thing.d : Thing → D
  | .pr a b => .tup [a.d, b.d]
  | .odd d => d
end Lw
namespace Lw
open PySem PySem.Spec PyProof.Rows L2 Sm
local macro_rules | `(tactic| fail) => `(tactic| ((with_reducible refine and_ty ?_ ?_); (first | rfl | exact isTy_ls (by assumption) | exact isTy_ls (lsAt_of (by assumption)) | exact isTy_dc (by assumption))))
local macro_rules | `(tactic| fail) => `(tactic| with_reducible refine wp_isi_yes (by first | with_unfolding_all rfl | exact ty_ls (by assumption) | exact ty_ls (lsAt_of (by assumption)) | exact ty_dc (dcAt_of (by assumption))) (by with_unfolding_all decide) ?_)
local macro_rules | `(tactic| fail) => `(tactic| with_reducible refine wp_isi_no (by first | with_unfolding_all rfl | exact ty_ls (by assumption) | exact ty_ls (lsAt_of (by assumption)) | exact ty_dc (dcAt_of (by assumption))) (by with_unfolding_all decide) ?_)
local macro_rules | `(tactic| fail) => `(tactic| with_reducible refine if_no ?_)
local macro_rules | `(tactic| fail) => `(tactic| with_reducible refine if_yes ?_)
local macro_rules | `(tactic| fail) => `(tactic| with_reducible refine if_nf ?_)
local macro_rules | `(tactic| fail) => `(tactic| with_reducible refine if_nt ?_)
local macro_rules | `(tactic| fail) => `(tactic| with_reducible refine wp_iR2' ?_)
local macro_rules | `(tactic| fail) => `(tactic| with_reducible refine wp_iR1' ?_)
local macro_rules | `(tactic| fail) => `(tactic| with_reducible refine wp_listRg1 ?_)
local macro_rules | `(tactic| fail) => `(tactic| with_reducible refine wp_listRg2 ?_)
local macro_rules | `(tactic| fail) => `(tactic| with_reducible refine ex_intL2 ?_)
local macro_rules | `(tactic| fail) => `(tactic| with_reducible refine ex_int1 ?_)
local macro_rules | `(tactic| fail) => `(tactic| with_reducible refine ex_int2 ?_)
local macro_rules | `(tactic| fail) => `(tactic| with_reducible refine ex_two ?_)
local macro_rules | `(tactic| fail) => `(tactic| with_reducible refine ex_int ?_)
local macro_rules | `(tactic| fail) => `(tactic| with_reducible refine ex_bl ?_)
local macro_rules | `(tactic| fail) => `(tactic| ((with_reducible refine and_len ?_ ?_); (exact Nat.le_of_ble_eq_true rfl)))
local macro_rules | `(tactic| fail) => `(tactic| with_reducible refine wp_dnew ?_)
local macro_rules | `(tactic| fail) => `(tactic| with_reducible refine wp_isN (by with_unfolding_all rfl) ?_)
local macro_rules | `(tactic| fail) => `(tactic| with_reducible refine wp_isY (by with_unfolding_all rfl) ?_)
local macro_rules | `(tactic| fail) => `(tactic| with_reducible refine wp_len_L (lsAt_of (by assumption)) ?_)
local macro_rules | `(tactic| fail) => `(tactic| with_reducible refine wp_ixL (lsAt_of (by assumption)) (by with_unfolding_all rfl) ?_)
local macro_rules | `(tactic| fail) => `(tactic| ((with_reducible refine wp_powI ?_ ?_); decide))
local macro_rules | `(tactic| fail) => `(tactic| with_reducible refine wp_abs ?_)
local macro_rules | `(tactic| fail) => `(tactic| with_reducible refine wp_intB ?_)
local macro_rules | `(tactic| fail) => `(tactic| with_reducible refine wp_int ?_)
local macro_rules | `(tactic| fail) => `(tactic| with_reducible refine wp_neg ?_)
local macro_rules | `(tactic| fail) => `(tactic| with_reducible refine wp_neS ?_)
local macro_rules | `(tactic| fail) => `(tactic| with_reducible refine wp_eqS ?_)
local macro_rules | `(tactic| fail) => `(tactic| with_reducible refine wp_neB ?_)
local macro_rules | `(tactic| fail) => `(tactic| with_reducible refine wp_eqB ?_)
local macro_rules | `(tactic| fail) => `(tactic| with_reducible refine wp_neI ?_)
local macro_rules | `(tactic| fail) => `(tactic| with_reducible refine wp_eqI ?_)
local macro_rules | `(tactic| fail) => `(tactic| with_reducible refine wp_geI ?_)
local macro_rules | `(tactic| fail) => `(tactic| with_reducible refine wp_gtI ?_)
local macro_rules | `(tactic| fail) => `(tactic| with_reducible refine wp_leI ?_)
local macro_rules | `(tactic| fail) => `(tactic| with_reducible refine wp_ltI ?_)
local macro_rules | `(tactic| fail) => `(tactic| with_reducible refine wp_subI ?_)
local macro_rules | `(tactic| fail) => `(tactic| with_reducible refine wp_addI ?_)
local macro_rules | `(tactic| fail) => `(tactic| with_reducible refine wp_mChain ?_)
local macro_rules | `(tactic| fail) => `(tactic| with_reducible refine wp_mMeth ?_)
local macro_rules | `(tactic| fail) => `(tactic| with_reducible refine wp_pAt ?_)
local macro_rules | `(tactic| fail) => `(tactic| with_reducible refine wp_pNo ?_)
local macro_rules | `(tactic| fail) => `(tactic| with_reducible refine wp_mSl ?_)
local macro_rules | `(tactic| fail) => `(tactic| with_reducible refine wp_mNotV ?_)
local macro_rules | `(tactic| fail) => `(tactic| with_reducible refine wp_mNotT ?_)
local macro_rules | `(tactic| fail) => `(tactic| with_reducible refine wp_mIfE ?_)
local macro_rules | `(tactic| fail) => `(tactic| with_reducible refine wp_mLst ?_)
local macro_rules | `(tactic| fail) => `(tactic| with_reducible refine wp_mTup ?_)
local macro_rules | `(tactic| fail) => `(tactic| with_reducible refine wp_m1 ?_)
local macro_rules | `(tactic| fail) => `(tactic| with_reducible refine wp_mTest ?_)
local macro_rules | `(tactic| fail) => `(tactic| with_reducible refine wp_aNil ?_)
local macro_rules | `(tactic| fail) => `(tactic| with_reducible refine wp_aCons ?_)
local macro_rules | `(tactic| fail) => `(tactic| with_reducible refine wp_mCall ?_)
local macro_rules | `(tactic| fail) => `(tactic| with_reducible refine wp_mC ?_)
local macro_rules | `(tactic| fail) => `(tactic| with_reducible refine wp_mV (by with_unfolding_all rfl) ?_)
local macro_rules | `(tactic| fail) => `(tactic| with_reducible refine wp_m2 ?_)
local macro_rules | `(tactic| fail) => `(tactic| with_reducible refine wp_neSS ?_)
local macro_rules | `(tactic| fail) => `(tactic| with_reducible refine wp_neII ?_)
local macro_rules | `(tactic| fail) => `(tactic| with_reducible refine wp_neBB ?_)
local macro_rules | `(tactic| fail) => `(tactic| with_reducible refine wp_eqSS ?_)
local macro_rules | `(tactic| fail) => `(tactic| with_reducible refine wp_eqII ?_)
local macro_rules | `(tactic| fail) => `(tactic| with_reducible refine wp_eqBB ?_)
local macro_rules | `(tactic| fail) => `(tactic| with_reducible refine wp_iaddI ?_)
local macro_rules | `(tactic| fail) => `(tactic| with_reducible refine ws_aug (by with_unfolding_all rfl) ?_)
local macro_rules | `(tactic| fail) => `(tactic| with_reducible refine ws_gTup (by with_unfolding_all rfl) ?_)
local macro_rules | `(tactic| fail) => `(tactic| with_reducible refine ws_gsNil ?_)
local macro_rules | `(tactic| fail) => `(tactic| with_reducible refine ws_gsCons ?_)
local macro_rules | `(tactic| fail) => `(tactic| with_reducible refine ws_bk ?_)
local macro_rules | `(tactic| fail) => `(tactic| with_reducible refine ws_ct ?_)
local macro_rules | `(tactic| fail) => `(tactic| with_reducible refine ws_par ?_)
local macro_rules | `(tactic| fail) => `(tactic| with_reducible refine ws_retN ?_)
local macro_rules | `(tactic| fail) => `(tactic| with_reducible refine ws_nx ?_)
local macro_rules | `(tactic| fail) => `(tactic| with_reducible refine ws_gN ?_)
local macro_rules | `(tactic| fail) => `(tactic| with_reducible refine ws_gIt ?_)
local macro_rules | `(tactic| fail) => `(tactic| with_reducible refine ws_asg ?_)
local macro_rules | `(tactic| fail) => `(tactic| with_reducible refine ws_if ?_)
local macro_rules | `(tactic| fail) => `(tactic| with_reducible refine ws_expr ?_)
local macro_rules | `(tactic| fail) => `(tactic| with_reducible refine ws_ret ?_)
local macro_rules | `(tactic| fail) => `(tactic| with_reducible refine ws_set ?_)
local macro_rules | `(tactic| fail) => `(tactic| with_reducible refine ws_seq ?_)
/-- a right pair -/
structure Arc where
  k : Nat
  on : Bool
def Arc.d (a : Arc) : D := .tup [.int (a.k : Nat), .str (onS a.on)]
def Arc.in_ (cs : List Cnd) (a : Arc) : Prop := ∃ c, cs[a.k]? = some c ∧ (a.on = false → c.less = false)
section
variable {Q : D → MH → Prop} {h : MH}
theorem is_ring_no {d v : D} {a : String} {cs : List Cnd} (e : sqD h d = some (cs.map Cnd.d)) (hl : cs.length ≤ 1000) (hc : ∀ c ∈ cs, c.ok) (ev : tyN h v = some a) (ea : isiT a "tuple" = some false) (q : Q (.bl false) h) : Wp (m_is_ring [d, v] h) Q := by
  unfold m_is_ring b_is_ring
  refine wp_def ?_
  repeat fail
  refine check_ok e hl hc ?_
  refine ws_seq (ws_if (wp_mOrT (wp_mNotT (wp_mTest (wp_mCall (wp_aCons (wp_mV rfl (wp_aCons (wp_mC (wp_aNil (wp_isi_no ev ea ⟨_, rfl, ?_⟩)))))))))))
  repeat fail
  exact q
end
theorem cut_to (xs : List D) (k : Nat) : cutL xs none (some (k : Int)) = xs.take k := by
  unfold cutL
  rw [HT.sIx_none, HT.sIx_nat, List.drop_zero, Nat.sub_zero]
  by_cases hk : k ≤ xs.length
  · rw [Nat.min_eq_left hk]
  · rw [Nat.min_eq_right (by omega), List.take_length, List.take_of_length_le (by omega)]
theorem cut_from (xs : List D) (k : Nat) : cutL xs (some (k : Int)) none = xs.drop k := by
  unfold cutL
  rw [HT.sIx_none, HT.sIx_nat]
  by_cases hk : k ≤ xs.length
  · rw [Nat.min_eq_left hk, List.take_of_length_le (by rw [List.length_drop]; omega)]
  · rw [Nat.min_eq_right (by omega), Nat.sub_self, List.take_zero, List.drop_eq_nil_of_le (by omega)]
end Lw
namespace Sm
open PySem PySem.Spec PyProof.Rows L2
section
variable {h h1 : MH} {ms : MS} {m mo mv o : ME} {n : MA} {cs : List Str} {c f x : Str} {g : MO2} {fm : MF} {Q : D → MH → Prop} {QL : List D → MH → Prop} {N : MS → MH → Prop} {R : D → MH → Prop} {B C : MS → MH → Prop}
theorem wp_fld (w : Wp (m ms h) fun d h1 => ∃ (k : Nat) (c : Str) (fs : List (Str × D)) (v : D), d = .ref k ∧ h1[k]? = some (.ins c fs) ∧ c ∈ cs ∧ fs.lookup f = some v ∧ Q v h1) : Wp (mFld cs f m ms h) Q := wp_bind (w.mono fun d h1 ⟨k, c, fs, v, e, e1, e2, e3, q⟩ => by
  subst e
  simp only [e1, if_pos e2, e3]
  exact ⟨q⟩)
theorem wp_fldV {i k : Nat} {fs : List (Str × D)} {v : D} (ei : ms[i]? = some (some (.ref k))) (e : h[k]? = some (.ins c fs)) (hc : c ∈ cs) (hl : fs.lookup f = some v) (q : Q v h) : Wp (mFld cs f (mV i) ms h) Q :=
  wp_fld (wp_mV ei ⟨k, c, fs, v, rfl, e, hc, hl, q⟩)
/-- a field set: o is an object at a number -/
structure SF (cs : List Str) (f : Str) (d o : D) (h : MH) (P : MH → Prop) : Prop where
  out : ∃ (k : Nat) (c : Str) (fs : List (Str × D)), o = .ref k ∧ h[k]? = some (.ins c fs) ∧ c ∈ cs ∧ fs.length < 1000 ∧ P (h.set k (.ins c (putFD f d fs)))
theorem ws_setF (w : Wp (mv ms h) fun d h1 => Wp (mo ms h1) fun o h2 => SF cs f d o h2 (N ms)) : WS (mSetF cs f mo mv ms h) N R B C :=
  ws_toS (w.mono fun d h1 w => ws_toS (w.mono fun o h2 ⟨k, c, fs, e, e1, e2, e3, q⟩ => by
    subst e
    simp only [e1, if_pos (And.intro e2 e3)]
    exact ⟨q⟩))
theorem wp_methC {mm : Str} (w : Wp (o ms h) fun d h1 => ∃ (k : Nat) (fs : List (Str × D)), d = .ref k ∧ h1[k]? = some (.ins c fs) ∧ fs.lookup mm = none ∧ Wp (n ms h1) fun ds h2 => Wp (fm (.ref k :: ds) h2) Q) : Wp (mMethC c mm fm o n ms h) Q := wp_bind (w.mono fun d h1 ⟨k, fs, e, e1, e2, q⟩ => by
  subst e
  simp only [e1, e2, true_and, if_pos]
  exact wp_bind q)
theorem wp_aStar (w : Wp (m ms h) fun d h1 => ∃ xs, sqD h1 d = some xs ∧ Wp (n ms h1) fun ds h2 => QL (xs ++ ds) h2) : Wp (aStar m n ms h) QL := wp_bind (w.mono fun d h1 ⟨xs, e, q⟩ => by
  simp only [e]
  exact wp_bind (q.mono fun _ _ q => ⟨q⟩))
theorem wp_aStarT {xs : List D} {i : Nat} (ei : ms[i]? = some (some (.tup xs))) (w : Wp (n ms h) fun ds h2 => QL (xs ++ ds) h2) : Wp (aStar (mV i) n ms h) QL := wp_aStar (wp_mV ei ⟨xs, rfl, w⟩)
theorem ws_gTupAT {k : Nat} {gs : MGs} {ds : List D} (hk : ds.length = k) (w : WS (gs ds ms h) N R B C) : WS (gTupA k gs (.tup ds) ms h) N R B C := by
  show WS (if ds.length = k then _ else _) N R B C
  rw [if_pos hk]; exact w
theorem ws_gTupAL {k n : Nat} {gs : MGs} {ds : List D} (e : lsAt h n = some ds) (hk : ds.length = k) (w : WS (gs ds ms h) N R B C) : WS (gTupA k gs (.ref n) ms h) N R B C := by
  unfold gTupA
  simp only [e, if_pos hk]; exact w
theorem wp_mLstN (q : Q (.ref h.length) (h ++ [.lst []])) : Wp (mLst aNil ms h) Q := wp_mLst (wp_aNil ⟨Nat.zero_le _, q⟩)
theorem wp_ix0 {d : D} {r : List D} (q : Q d h) : Wp (gIx (.tup (d :: r)) (.int 0) h) Q := wp_ixT (by
  unfold atI ixN
  simp) q
theorem wp_eqSf {y : Str} (e : (decide (x = y)) = false) (q : Q (.bl false) h) : Wp (gEq (.str x) (.str y) h) Q := wp_eqS (by rw [e]; exact q)
theorem wp_neSf {y : Str} (e : (decide (x = y)) = false) (q : Q (.bl true) h) : Wp (gNe (.str x) (.str y) h) Q := wp_neS (by rw [e]; exact q)
theorem wp_len_T {xs : List D} (q : Q (.int xs.length) h) : Wp (fLen [.tup xs] h) Q := wp_len_sq (d := .tup xs) rfl q
theorem inD_strs {z : Str} {zs : List Str} (h1 : SeqAt.shaped (.str z) = true) (h2 : ∀ y ∈ zs, SeqAt.shaped (.str y) = true) : inD h (.str z) (.tup (zs.map D.str)) = some (decide (z ∈ zs)) := by
  have e := inD_tup (h := h) (x := .str z) (xs := zs.map D.str) (p := .str z) (ps := zs.map PyData.str) rfl (pd_strs zs) h1 (shaped_tuple (d := 0) (fun x hx => by
    obtain ⟨y, hy, rfl⟩ := List.mem_map.mp hx
    have := h2 y hy
    unfold SeqAt.shaped at this
    rw [Bool.and_eq_true] at this
    exact this.1) (fun x hx => by
    obtain ⟨y, hy, rfl⟩ := List.mem_map.mp hx
    exact Nat.le_refl _) (by decide))
  rw [e]
  congr 1
  rw [List.any_map]
  induction zs with
  | nil => rfl
  | cons y ys ih =>
    have ih' := ih (fun y' hy => h2 y' (List.mem_cons_of_mem _ hy)) (inD_tup (h := h) (x := .str z) (xs := ys.map D.str) (p := .str z) (ps := ys.map PyData.str) rfl (pd_strs ys) h1 (shaped_tuple (d := 0) (fun x hx => by
      obtain ⟨y, hy, rfl⟩ := List.mem_map.mp hx
      have := h2 y (List.mem_cons_of_mem _ hy)
      unfold SeqAt.shaped at this
      rw [Bool.and_eq_true] at this
      exact this.1) (fun x hx => by
      obtain ⟨y, hy, rfl⟩ := List.mem_map.mp hx
      exact Nat.le_refl _) (by decide)))
    rw [List.any_cons, ih']
    have : ((fun w => PyData.eqv w (.str z)) ∘ PyData.str) y = decide (y = z) := by
      show PyData.eqv (.str y) (.str z) = _
      rw [PyData.eqv]
      by_cases a : y = z
      · subst a; simp
      · have : (y == z) = false := by simpa using a
        rw [this]; simp [a]
    rw [this]
    by_cases a : y = z
    · subst a; simp
    · have a' : ¬ z = y := fun w => a w.symm
      simp [a, a']
def strsOf : List D → Option (List Str)
  | [] => some []
  | .str z :: ds => (strsOf ds).map (z :: ·)
  | _ => none
def inStr (z : Str) (ds : List D) : Option Bool := match strsOf ds with
  | some zs => if (SeqAt.shaped (.str z) && zs.all fun y => SeqAt.shaped (.str y)) = true then some (decide (z ∈ zs)) else none
  | none => none
theorem strsOf_map : ∀ {ds : List D} {zs : List Str}, strsOf ds = some zs → ds = zs.map D.str
  | [], zs, e => by cases e; rfl
  | .str z :: ds, zs, e => by
    unfold strsOf at e
    cases e2 : strsOf ds with
    | none => rw [e2] at e; cases e
    | some ys => rw [e2] at e; cases e; rw [strsOf_map e2]; rfl
  | .non :: _, _, e => by cases e
  | .bl _ :: _, _, e => by cases e
  | .int _ :: _, _, e => by cases e
  | .tup _ :: _, _, e => by cases e
  | .ref _ :: _, _, e => by cases e
  | .ty _ :: _, _, e => by cases e
  | .glo _ :: _, _, e => by cases e
theorem inStr_ok {z : Str} {ds : List D} {c : Bool} (e : inStr z ds = some c) : inD h (.str z) (.tup ds) = some c := by
  unfold inStr at e
  split at e
  · rename_i zs e2
    split at e
    · rename_i hs
      rw [Bool.and_eq_true, List.all_eq_true] at hs
      rw [strsOf_map e2, inD_strs hs.1 hs.2, ← e]
    · cases e
  · cases e
theorem wp_inT {z : Str} {ds : List D} (e : inStr z ds = some true) (q : Q (.bl true) h) : Wp (gIn (.str z) (.tup ds) h) Q := wp_in (inStr_ok e) q
theorem wp_inT0 {z : Str} {ds : List D} (e : inStr z ds = some false) (q : Q (.bl false) h) : Wp (gIn (.str z) (.tup ds) h) Q := wp_in (inStr_ok e) q
theorem wp_notInT {z : Str} {ds : List D} (e : inStr z ds = some true) (q : Q (.bl false) h) : Wp (gNotIn (.str z) (.tup ds) h) Q := wp_notIn (inStr_ok e) q
theorem wp_notInT0 {z : Str} {ds : List D} (e : inStr z ds = some false) (q : Q (.bl true) h) : Wp (gNotIn (.str z) (.tup ds) h) Q := wp_notIn (inStr_ok e) q
theorem wp_methCV {i k : Nat} {mm : Str} {fs : List (Str × D)} (ei : ms[i]? = some (some (.ref k))) (e : h[k]? = some (.ins c fs)) (hl : fs.lookup mm = none) (w : Wp (n ms h) fun ds h2 => Wp (fm (.ref k :: ds) h2) Q) : Wp (mMethC c mm fm (mV i) n ms h) Q :=
  wp_methC (wp_mV ei ⟨k, fs, rfl, e, hl, w⟩)
theorem wp_ltY {i j : Int} (e : i < j) (q : Q (.bl true) h) : Wp (gLt (.int i) (.int j) h) Q := wp_ltI (by rw [decide_eq_true e]; exact q)
theorem wp_ltN {i j : Int} (e : ¬ i < j) (q : Q (.bl false) h) : Wp (gLt (.int i) (.int j) h) Q := wp_ltI (by rw [decide_eq_false e]; exact q)
theorem wp_leY {i j : Int} (e : i ≤ j) (q : Q (.bl true) h) : Wp (gLe (.int i) (.int j) h) Q := wp_leI (by rw [decide_eq_true e]; exact q)
theorem wp_leN {i j : Int} (e : ¬ i ≤ j) (q : Q (.bl false) h) : Wp (gLe (.int i) (.int j) h) Q := wp_leI (by rw [decide_eq_false e]; exact q)
theorem wp_gtY {i j : Int} (e : j < i) (q : Q (.bl true) h) : Wp (gGt (.int i) (.int j) h) Q := wp_gtI (by rw [decide_eq_true e]; exact q)
theorem wp_gtN {i j : Int} (e : ¬ j < i) (q : Q (.bl false) h) : Wp (gGt (.int i) (.int j) h) Q := wp_gtI (by rw [decide_eq_false e]; exact q)
theorem wp_geY {i j : Int} (e : j ≤ i) (q : Q (.bl true) h) : Wp (gGe (.int i) (.int j) h) Q := wp_geI (by rw [decide_eq_true e]; exact q)
theorem wp_geN {i j : Int} (e : ¬ j ≤ i) (q : Q (.bl false) h) : Wp (gGe (.int i) (.int j) h) Q := wp_geI (by rw [decide_eq_false e]; exact q)
theorem wp_eqY {i j : Int} (e : i = j) (q : Q (.bl true) h) : Wp (gEq (.int i) (.int j) h) Q := wp_eqI (by rw [decide_eq_true e]; exact q)
theorem wp_eqN {i j : Int} (e : ¬ i = j) (q : Q (.bl false) h) : Wp (gEq (.int i) (.int j) h) Q := wp_eqI (by rw [decide_eq_false e]; exact q)
theorem wp_neY {i j : Int} (e : i = j) (q : Q (.bl false) h) : Wp (gNe (.int i) (.int j) h) Q := wp_neI (by rw [decide_eq_true e]; exact q)
theorem wp_neN {i j : Int} (e : ¬ i = j) (q : Q (.bl true) h) : Wp (gNe (.int i) (.int j) h) Q := wp_neI (by rw [decide_eq_false e]; exact q)
end
end Sm
namespace Sm
open PySem PySem.Spec PyProof.Rows L2
/-- things told one by one, with their places -/
def mapE {α : Type} (e : Nat → α → D) : Nat → List α → List D
  | _, [] => []
  | k, x :: xs => e k x :: mapE e (k + 1) xs
theorem mapE_at {α : Type} (e : Nat → α → D) : ∀ (xs : List α) (k i : Nat), (mapE e k xs)[i]? = (xs[i]?).map (e (k + i))
  | [], _, _ => by simp [mapE]
  | x :: xs, k, 0 => by simp [mapE]
  | x :: xs, k, i + 1 => by
    rw [mapE, List.getElem?_cons_succ, List.getElem?_cons_succ, mapE_at e xs, show k + 1 + i = k + (i + 1) by omega]
theorem enum_mapE {α : Type} (u : α → D) (xs : List α) : enumD (xs.map u) = mapE (fun k x => .tup [.int (k : Nat), u x]) 0 xs := by
  apply List.ext_getElem?
  intro i
  rw [mapE_at]
  unfold enumD
  rw [List.length_map, List.getElem?_map]
  by_cases hi : i < xs.length
  · rw [List.getElem?_range hi, List.getElem?_eq_getElem hi]
    simp [hi]
  · rw [List.getElem?_eq_none (by simp; omega), List.getElem?_eq_none (by omega)]
    rfl
section
variable {α : Type} {h h1 : MH} {ms : MS} {Q : D → MH → Prop} {N : MS → MH → Prop} {R : D → MH → Prop} {B C : MS → MH → Prop} {g : MG} {b : MSt} {t : MT} {m mk mv : ME} {src : MI} {vs : List Nat}
theorem and_rfl {β : Type} {a : β} {P : Prop} (p : P) : a = a ∧ P := ⟨rfl, p⟩
/-- a comprehension without a test over things of one kind -/
theorem wp_lcM (xs : List α) (u : α → D) (f : α → D)
    (hs : Wp (src ms h) fun a h1 => a.1 = xs.map u ∧ xs.length ≤ sizeLine ∧ (∀ h2, Gr h1 h2 → a.2 h2) ∧
      (∀ x ∈ xs, ∀ h2, Gr h1 h2 → WS (g (u x) (wipeM ms vs) h2) (fun ms1 h3 => h3 = h2 ∧ Wp (m ms1 h3) fun y h5 => y = f x ∧ Gr h2 h5) (fun _ _ => False) (fun _ _ => False) fun _ _ => False) ∧
      ∀ h2, Gr h1 h2 → h2[h1.length]? = some (.lst (xs.map f)) → Q (.ref h1.length) h2) : Wp (mLc src vs g mYes m ms h) Q :=
  wp_lcT xs u (fun _ => true) f (hs.mono fun a h1 ⟨q1, q2, q3, q4, q5⟩ => ⟨q1, q2, q3, fun x hx h2 g2 => (q4 x hx h2 g2).mono (fun ms1 h3 ⟨e3, w⟩ => ⟨⟨rfl, by rw [e3]; exact .refl, fun _ => by rw [e3] at w ⊢; exact w⟩⟩) (fun _ _ z => z) (fun _ _ z => z) fun _ _ z => z, fun h2 g2 e => q5 h2 g2 (by rw [e, List.filter_eq_self.mpr (fun _ _ => rfl)])⟩)
end
end Sm
namespace Lw
open PySem PySem.Spec PyProof.Rows L2 Sm
local macro_rules | `(tactic| fail) => `(tactic| ((with_reducible refine and_ty ?_ ?_); (first | rfl | exact isTy_ls (by assumption) | exact isTy_ls (lsAt_of (by assumption)) | exact isTy_dc (by assumption))))
local macro_rules | `(tactic| fail) => `(tactic| with_reducible refine ex_intL2 ?_)
local macro_rules | `(tactic| fail) => `(tactic| with_reducible refine ex_int1 ?_)
local macro_rules | `(tactic| fail) => `(tactic| with_reducible refine ex_int2 ?_)
local macro_rules | `(tactic| fail) => `(tactic| with_reducible refine ex_two ?_)
local macro_rules | `(tactic| fail) => `(tactic| with_reducible refine ex_int ?_)
local macro_rules | `(tactic| fail) => `(tactic| with_reducible refine if_nf ?_)
local macro_rules | `(tactic| fail) => `(tactic| with_reducible refine if_nt ?_)
local macro_rules | `(tactic| fail) => `(tactic| with_reducible refine if_yes ?_)
local macro_rules | `(tactic| fail) => `(tactic| with_reducible refine if_no ?_)
local macro_rules | `(tactic| fail) => `(tactic| with_reducible refine and_rfl ?_)
local macro_rules | `(tactic| fail) => `(tactic| with_reducible refine ex_bl ?_)
local macro_rules | `(tactic| fail) => `(tactic| ((with_reducible refine and_len ?_ ?_); (exact Nat.le_of_ble_eq_true rfl)))
local macro_rules | `(tactic| fail "2") => `(tactic| with_reducible refine ws_setF ?_)
local macro_rules | `(tactic| fail "2") => `(tactic| with_reducible refine ws_aug (by with_unfolding_all rfl) ?_)
local macro_rules | `(tactic| fail "2") => `(tactic| with_reducible refine ws_bk ?_)
local macro_rules | `(tactic| fail "2") => `(tactic| with_reducible refine ws_ct ?_)
local macro_rules | `(tactic| fail "2") => `(tactic| with_reducible refine ws_par ?_)
local macro_rules | `(tactic| fail "2") => `(tactic| with_reducible refine ws_retN ?_)
local macro_rules | `(tactic| fail "2") => `(tactic| with_reducible refine ws_gIt ?_)
local macro_rules | `(tactic| fail "2") => `(tactic| with_reducible refine ws_asg ?_)
local macro_rules | `(tactic| fail "2") => `(tactic| with_reducible refine ws_gTupAL (lsAt_of (by assumption)) (by with_unfolding_all rfl) ?_)
local macro_rules | `(tactic| fail "2") => `(tactic| with_reducible refine ws_gTupAT (by with_unfolding_all rfl) ?_)
local macro_rules | `(tactic| fail "2") => `(tactic| with_reducible refine ws_gTup (by with_unfolding_all rfl) ?_)
local macro_rules | `(tactic| fail "2") => `(tactic| with_reducible refine ws_gsNil ?_)
local macro_rules | `(tactic| fail "2") => `(tactic| with_reducible refine ws_gsCons ?_)
local macro_rules | `(tactic| fail "2") => `(tactic| with_reducible refine ws_gN ?_)
local macro_rules | `(tactic| fail "2") => `(tactic| with_reducible refine ws_expr ?_)
local macro_rules | `(tactic| fail "2") => `(tactic| with_reducible refine ws_ret ?_)
local macro_rules | `(tactic| fail "2") => `(tactic| with_reducible refine ws_nx ?_)
local macro_rules | `(tactic| fail "2") => `(tactic| with_reducible refine ws_if ?_)
local macro_rules | `(tactic| fail "2") => `(tactic| with_reducible refine ws_set ?_)
local macro_rules | `(tactic| fail "2") => `(tactic| with_reducible refine ws_seq ?_)
local macro_rules | `(tactic| fail) => `(tactic| (guard_target =~ WS _ _ _ _ _; fail "2"))
local macro_rules | `(tactic| fail "1") => `(tactic| with_reducible refine wp_abs ?_)
local macro_rules | `(tactic| fail "1") => `(tactic| with_reducible refine wp_intB ?_)
local macro_rules | `(tactic| fail "1") => `(tactic| with_reducible refine wp_int ?_)
local macro_rules | `(tactic| fail "1") => `(tactic| with_reducible refine wp_len_L (lsAt_of (by assumption)) ?_)
local macro_rules | `(tactic| fail "1") => `(tactic| with_reducible refine wp_len_T ?_)
local macro_rules | `(tactic| fail "1") => `(tactic| with_reducible refine wp_isi_yes (by first | with_unfolding_all rfl | exact ty_ls (by assumption) | exact ty_ls (lsAt_of (by assumption)) | exact ty_dc (dcAt_of (by assumption))) (by with_unfolding_all decide) ?_)
local macro_rules | `(tactic| fail "1") => `(tactic| with_reducible refine wp_isi_no (by first | with_unfolding_all rfl | exact ty_ls (by assumption) | exact ty_ls (lsAt_of (by assumption)) | exact ty_dc (dcAt_of (by assumption))) (by with_unfolding_all decide) ?_)
local macro_rules | `(tactic| fail "1") => `(tactic| ((with_reducible refine wp_powI ?_ ?_); decide))
local macro_rules | `(tactic| fail "1") => `(tactic| with_reducible refine wp_slT ?_)
local macro_rules | `(tactic| fail "1") => `(tactic| with_reducible refine wp_isN (by with_unfolding_all rfl) ?_)
local macro_rules | `(tactic| fail "1") => `(tactic| with_reducible refine wp_isY (by with_unfolding_all rfl) ?_)
local macro_rules | `(tactic| fail "1") => `(tactic| with_reducible refine wp_iaddI ?_)
local macro_rules | `(tactic| fail "1") => `(tactic| with_reducible refine wp_neg ?_)
local macro_rules | `(tactic| fail "1") => `(tactic| with_reducible refine wp_neS ?_)
local macro_rules | `(tactic| fail "1") => `(tactic| with_reducible refine wp_eqS ?_)
local macro_rules | `(tactic| fail "1") => `(tactic| with_reducible refine wp_neB ?_)
local macro_rules | `(tactic| fail "1") => `(tactic| with_reducible refine wp_eqB ?_)
local macro_rules | `(tactic| fail "1") => `(tactic| with_reducible refine wp_neI ?_)
local macro_rules | `(tactic| fail "1") => `(tactic| with_reducible refine wp_eqI ?_)
local macro_rules | `(tactic| fail "1") => `(tactic| with_reducible refine wp_geI ?_)
local macro_rules | `(tactic| fail "1") => `(tactic| with_reducible refine wp_gtI ?_)
local macro_rules | `(tactic| fail "1") => `(tactic| with_reducible refine wp_leI ?_)
local macro_rules | `(tactic| fail "1") => `(tactic| with_reducible refine wp_ltI ?_)
local macro_rules | `(tactic| fail "1") => `(tactic| with_reducible refine wp_subI ?_)
local macro_rules | `(tactic| fail "1") => `(tactic| with_reducible refine wp_addI ?_)
local macro_rules | `(tactic| fail "1") => `(tactic| with_reducible refine wp_neBB ?_)
local macro_rules | `(tactic| fail "1") => `(tactic| with_reducible refine wp_eqBB ?_)
local macro_rules | `(tactic| fail "1") => `(tactic| with_reducible refine wp_neSf (by decide +kernel) ?_)
local macro_rules | `(tactic| fail "1") => `(tactic| with_reducible refine wp_neSS ?_)
local macro_rules | `(tactic| fail "1") => `(tactic| with_reducible refine wp_neN (by first | decide | omega | (simp only [List.length_cons, List.length_nil, List.length_map]; omega) | exact congrArg (Nat.cast : Nat → Int) (List.length_map ..)) ?_)
local macro_rules | `(tactic| fail "1") => `(tactic| with_reducible refine wp_neY (by first | decide | omega | (simp only [List.length_cons, List.length_nil, List.length_map]; omega) | exact congrArg (Nat.cast : Nat → Int) (List.length_map ..)) ?_)
local macro_rules | `(tactic| fail "1") => `(tactic| with_reducible refine wp_neII ?_)
local macro_rules | `(tactic| fail "1") => `(tactic| with_reducible refine wp_geN (by first | decide | omega | (simp only [List.length_cons, List.length_nil, List.length_map]; omega) | exact congrArg (Nat.cast : Nat → Int) (List.length_map ..)) ?_)
local macro_rules | `(tactic| fail "1") => `(tactic| with_reducible refine wp_geY (by first | decide | omega | (simp only [List.length_cons, List.length_nil, List.length_map]; omega) | exact congrArg (Nat.cast : Nat → Int) (List.length_map ..)) ?_)
local macro_rules | `(tactic| fail "1") => `(tactic| with_reducible refine wp_gtN (by first | decide | omega | (simp only [List.length_cons, List.length_nil, List.length_map]; omega) | exact congrArg (Nat.cast : Nat → Int) (List.length_map ..)) ?_)
local macro_rules | `(tactic| fail "1") => `(tactic| with_reducible refine wp_gtY (by first | decide | omega | (simp only [List.length_cons, List.length_nil, List.length_map]; omega) | exact congrArg (Nat.cast : Nat → Int) (List.length_map ..)) ?_)
local macro_rules | `(tactic| fail "1") => `(tactic| with_reducible refine wp_leN (by first | decide | omega | (simp only [List.length_cons, List.length_nil, List.length_map]; omega) | exact congrArg (Nat.cast : Nat → Int) (List.length_map ..)) ?_)
local macro_rules | `(tactic| fail "1") => `(tactic| with_reducible refine wp_leY (by first | decide | omega | (simp only [List.length_cons, List.length_nil, List.length_map]; omega) | exact congrArg (Nat.cast : Nat → Int) (List.length_map ..)) ?_)
local macro_rules | `(tactic| fail "1") => `(tactic| with_reducible refine wp_ltN (by first | decide | omega | (simp only [List.length_cons, List.length_nil, List.length_map]; omega) | exact congrArg (Nat.cast : Nat → Int) (List.length_map ..)) ?_)
local macro_rules | `(tactic| fail "1") => `(tactic| with_reducible refine wp_ltY (by first | decide | omega | (simp only [List.length_cons, List.length_nil, List.length_map]; omega) | exact congrArg (Nat.cast : Nat → Int) (List.length_map ..)) ?_)
local macro_rules | `(tactic| fail "1") => `(tactic| with_reducible refine wp_notInT0 (by decide +kernel) ?_)
local macro_rules | `(tactic| fail "1") => `(tactic| with_reducible refine wp_notInT (by decide +kernel) ?_)
local macro_rules | `(tactic| fail "1") => `(tactic| with_reducible refine wp_inT0 (by decide +kernel) ?_)
local macro_rules | `(tactic| fail "1") => `(tactic| with_reducible refine wp_inT (by decide +kernel) ?_)
local macro_rules | `(tactic| fail "1") => `(tactic| with_reducible refine wp_eqN (by first | decide | omega | (simp only [List.length_cons, List.length_nil, List.length_map]; omega) | exact congrArg (Nat.cast : Nat → Int) (List.length_map ..)) ?_)
local macro_rules | `(tactic| fail "1") => `(tactic| with_reducible refine wp_eqY (by first | decide | omega | (simp only [List.length_cons, List.length_nil, List.length_map]; omega) | exact congrArg (Nat.cast : Nat → Int) (List.length_map ..)) ?_)
local macro_rules | `(tactic| fail "1") => `(tactic| with_reducible refine wp_eqII ?_)
local macro_rules | `(tactic| fail "1") => `(tactic| with_reducible refine wp_ixL (lsAt_of (by assumption)) (by with_unfolding_all rfl) ?_)
local macro_rules | `(tactic| fail "1") => `(tactic| with_reducible refine wp_ixT (by with_unfolding_all rfl) ?_)
local macro_rules | `(tactic| fail "1") => `(tactic| with_reducible refine wp_ix0 ?_)
local macro_rules | `(tactic| fail "1") => `(tactic| with_reducible refine wp_eqSf (by decide +kernel) ?_)
local macro_rules | `(tactic| fail "1") => `(tactic| with_reducible refine wp_eqSS ?_)
local macro_rules | `(tactic| fail "1") => `(tactic| with_reducible refine wp_iR2' ?_)
local macro_rules | `(tactic| fail "1") => `(tactic| with_reducible refine wp_iR1' ?_)
local macro_rules | `(tactic| fail "1") => `(tactic| with_reducible refine wp_listRg1 ?_)
local macro_rules | `(tactic| fail "1") => `(tactic| with_reducible refine wp_listRg2 ?_)
local macro_rules | `(tactic| fail "1") => `(tactic| with_reducible refine wp_dnew ?_)
local macro_rules | `(tactic| fail "1") => `(tactic| with_reducible refine wp_mChain ?_)
local macro_rules | `(tactic| fail "1") => `(tactic| with_reducible refine wp_aStarT (by with_unfolding_all rfl) ?_)
local macro_rules | `(tactic| fail "1") => `(tactic| with_reducible refine wp_mLst ?_)
local macro_rules | `(tactic| fail "1") => `(tactic| with_reducible refine wp_mLstN ?_)
local macro_rules | `(tactic| fail "1") => `(tactic| with_reducible refine wp_pNo ?_)
local macro_rules | `(tactic| fail "1") => `(tactic| with_reducible refine wp_pAt ?_)
local macro_rules | `(tactic| fail "1") => `(tactic| with_reducible refine wp_mSl ?_)
local macro_rules | `(tactic| fail "1") => `(tactic| with_reducible refine wp_methCV (by with_unfolding_all rfl) (by assumption) (by with_unfolding_all rfl) ?_)
local macro_rules | `(tactic| fail "1") => `(tactic| with_reducible refine wp_fldV (by with_unfolding_all rfl) (by assumption) (by decide +kernel) (by with_unfolding_all rfl) ?_)
local macro_rules | `(tactic| fail "1") => `(tactic| with_reducible refine wp_mMeth ?_)
local macro_rules | `(tactic| fail "1") => `(tactic| with_reducible refine wp_mNotV ?_)
local macro_rules | `(tactic| fail "1") => `(tactic| with_reducible refine wp_mOrV ?_)
local macro_rules | `(tactic| fail "1") => `(tactic| with_reducible refine wp_mAndV ?_)
local macro_rules | `(tactic| fail "1") => `(tactic| with_reducible refine wp_mIfE ?_)
local macro_rules | `(tactic| fail "1") => `(tactic| with_reducible refine wp_mOrT ?_)
local macro_rules | `(tactic| fail "1") => `(tactic| with_reducible refine wp_mAndT ?_)
local macro_rules | `(tactic| fail "1") => `(tactic| with_reducible refine wp_mNotT ?_)
local macro_rules | `(tactic| fail "1") => `(tactic| with_reducible refine wp_m1 ?_)
local macro_rules | `(tactic| fail "1") => `(tactic| with_reducible refine wp_mTup ?_)
local macro_rules | `(tactic| fail "1") => `(tactic| with_reducible refine wp_mTest ?_)
local macro_rules | `(tactic| fail "1") => `(tactic| with_reducible refine wp_mCall ?_)
local macro_rules | `(tactic| fail "1") => `(tactic| with_reducible refine wp_aNil ?_)
local macro_rules | `(tactic| fail "1") => `(tactic| with_reducible refine wp_m2 ?_)
local macro_rules | `(tactic| fail "1") => `(tactic| with_reducible refine wp_mC ?_)
local macro_rules | `(tactic| fail "1") => `(tactic| with_reducible refine wp_aCons ?_)
local macro_rules | `(tactic| fail "1") => `(tactic| with_reducible refine wp_mV (by with_unfolding_all rfl) ?_)
local macro_rules | `(tactic| fail) => `(tactic| (guard_target =~ Wp _ _; fail "1"))
local macro_rules | `(tactic| fail) => `(tactic| with_reducible refine ex_tup ?_)
local macro_rules | `(tactic| fail "2") => `(tactic| with_reducible refine ws_gTf ?_)
local macro_rules | `(tactic| fail "2") => `(tactic| with_reducible refine ws_gTn ?_)
local macro_rules | `(tactic| fail "2") => `(tactic| with_reducible refine ws_gTc ?_)
local macro_rules | `(tactic| fail) => `(tactic| (guard_target =~ WS _ _ _ _ _; fail "2"))
local macro_rules | `(tactic| fail "1") => `(tactic| with_reducible refine wp_aStarA ?_)
local macro_rules | `(tactic| fail "1") => `(tactic| with_reducible refine wp_n2 ?_)
local macro_rules | `(tactic| fail "1") => `(tactic| with_reducible refine wp_n1 ?_)
local macro_rules | `(tactic| fail "1") => `(tactic| with_reducible refine wp_n0 ?_)
local macro_rules | `(tactic| fail "1") => `(tactic| with_reducible refine wp_f1 ?_)
local macro_rules | `(tactic| fail "1") => `(tactic| with_reducible refine wp_f0 ?_)
local macro_rules | `(tactic| fail "1") => `(tactic| with_reducible refine wp_last ?_)
local macro_rules | `(tactic| fail "1") => `(tactic| with_reducible refine wp_c2 ?_)
local macro_rules | `(tactic| fail "1") => `(tactic| with_reducible refine wp_c1 ?_)
local macro_rules | `(tactic| fail "1") => `(tactic| with_reducible refine wp_c0 ?_)
local macro_rules | `(tactic| fail) => `(tactic| (guard_target =~ Wp _ _; fail "1"))
noncomputable def b__law_is_number : MSt := (mRet (mAndV (mCall fIsi (aCons (mV 0) (aCons (mC (.ty "int")) aNil))) (mNotV (mCall fIsi (aCons (mV 0) (aCons (mC (.ty "bool")) aNil))))))
noncomputable def m__law_is_number : MF := mDef 1 b__law_is_number
noncomputable def b__law_item_right : MSt := (mSeq (mIfS (mTest (mCall m__law_is_number (aCons (mV 0) aNil))) (mRet (mC (.bl true))) mNx)
  (mSeq (mIfS (mOrT (mNotT (mTest (mCall fIsi (aCons (mV 0) (aCons (mC (.ty "tuple")) aNil))))) (mOrT (mTest (m2 gNe (mCall fLen (aCons (mV 0) aNil)) (mC (.int 2)))) (mOrT (mNotT (mTest (mCall fIsi (aCons (m2 gIx (mV 0) (mC (.int 0))) (aCons (mC (.ty "str")) aNil))))) (mTest (m2 gNe (m2 gIx (mV 0) (mC (.int 0))) (mC (.str "input"))))))) (mRet (mC (.bl false))) mNx)
  (mRet (mCall m__law_within (aCons (m2 gIx (mV 0) (mC (.int 1))) (aCons (mC (.int 0)) (aCons (mC (.int 199)) aNil)))))))
noncomputable def m__law_item_right : MF := mDef 1 b__law_item_right
noncomputable def b__law_right : MSt := (mSeq (mIfS (mOrT (mNotT (mTest (mCall fIsi (aCons (mV 0) (aCons (mC (.ty "tuple")) aNil))))) (mOrT (mTest (m2 gNe (mCall fLen (aCons (mV 0) aNil)) (mC (.int 3)))) (mNotT (mTest (mCall fIsi (aCons (m2 gIx (mV 0) (mC (.int 0))) (aCons (mC (.ty "str")) aNil))))))) (mRet (mC (.bl false))) mNx)
  (mRet (mAndV (m2 gIn (m2 gIx (mV 0) (mC (.int 0))) (mTup (aCons (mC (.str "less")) (aCons (mC (.str "same")) aNil)))) (mAndV (mCall m__law_item_right (aCons (m2 gIx (mV 0) (mC (.int 1))) aNil)) (mCall m__law_item_right (aCons (m2 gIx (mV 0) (mC (.int 2))) aNil))))))
noncomputable def m__law_right : MF := mDef 1 b__law_right
noncomputable def b__law_found (wk : WK) : MSt := (mSeq (mTry ["BadConditions", "BadNumber", "NoInput"] (wExpr wk) (⟨"BadConditions", hRet 1 (xTup (xCons (xC (.str "conditions")) (xCons (xF "at") xNil)))⟩ :: ⟨"NoInput", hRet 1 (xTup (xCons (xC (.str "input")) (xCons (xF "at") xNil)))⟩ :: [⟨"BadNumber", hRet 1 (xTup (xCons (xC (.str "number")) (xCons (xR (xF "value")) xNil)))⟩])) (mRet (mC (.str "told"))))
noncomputable def m__law_found : WK → WK := mThk 2 b__law_found
noncomputable def b_law : MSt := (mSeq (mSet 1 (mCall m__law_pot (aCons (mV 0) aNil)))
  (mSeq (mFor (iRange1 (aCons (mC (.int 4)) aNil)) (gN 2) (mSeq (mSet 3 (mCall m__law_conditions (aCons (mV 1) (aCons (mC (.int 5)) (aCons (mC (.int 8)) (aCons (mC (.int 3)) aNil))))))
    (mSeq (mIfS (mTest (m2 gEq (mCall m__law_draw (aCons (mV 1) (aCons (mC (.int 8)) aNil))) (mC (.int 0)))) (mSeq (mSet 3 (m2 gMul (mLc (iRange1 (aCons (mC (.int 199)) aNil)) [15] (gN 15) mYes (mTup (aCons (mC (.str "less")) (aCons (mTup (aCons (mC (.str "input")) (aCons (mV 15) aNil))) (aCons (mTup (aCons (mC (.str "input")) (aCons (m2 gAdd (mV 15) (mC (.int 1))) aNil))) aNil))))) (mC (.int 6))))
    (mSet 3 (mSl (mV 3) pNo (pAt (mCall m__law_pick (aCons (mV 1) (aCons (mLst (aCons (mC (.int 999)) (aCons (mC (.int 1000)) (aCons (mC (.int 1001)) aNil)))) aNil))))))) mNx)
    (mSeq (mSet 4 (mLst (aCons (mC .non) (aCons (mTup (aCons (mC (.str "less")) (aCons (mC (.int 1)) aNil))) (aCons (mTup (aCons (mC (.str "less")) (aCons (mC (.int 1)) (aCons (mC (.int 2)) (aCons (mC (.int 3)) aNil))))) (aCons (mLst (aCons (mC (.str "less")) (aCons (mC (.int 1)) (aCons (mC (.int 2)) aNil)))) (aCons (mTup (aCons (mC (.str "more")) (aCons (mC (.int 1)) (aCons (mC (.int 2)) aNil)))) (aCons (mTup (aCons (mC (.str "less")) (aCons (mC (.bl true)) (aCons (mC (.int 2)) aNil)))) (aCons (mTup (aCons (mC (.str "same")) (aCons (mC (.int 1)) (aCons (mC (.str "a")) aNil)))) aNil)))))))))
    (mSeq (mSet 4 (m2 gAdd (mV 4) (mLst (aCons (mTup (aCons (mC (.str "less")) (aCons (mTup (aCons (mC (.str "input")) (aCons (mC (.int 200)) aNil))) (aCons (mC (.int 1)) aNil)))) (aCons (mTup (aCons (mC (.str "less")) (aCons (mTup (aCons (mC (.str "input")) (aCons (m1 gNeg (mC (.int 1))) aNil))) (aCons (mC (.int 1)) aNil)))) (aCons (mTup (aCons (mC (.str "same")) (aCons (mTup (aCons (mC (.str "input")) (aCons (mC (.bl true)) aNil))) (aCons (mC (.int 1)) aNil)))) (aCons (mTup (aCons (mC (.int 1)) (aCons (mC (.int 2)) (aCons (mC (.int 3)) aNil)))) aNil)))))))
    (mSeq (mSet 4 (m2 gAdd (mV 4) (mLst (aCons (mTup (aCons (mC (.str "less")) (aCons (mTup (aCons (mC (.str "output")) (aCons (mC (.int 1)) aNil))) (aCons (mC (.int 1)) aNil)))) (aCons (mTup (aCons (mC (.str "less")) (aCons (mLst (aCons (mC (.str "input")) (aCons (mC (.int 1)) aNil))) (aCons (mC (.int 1)) aNil)))) (aCons (mTup (aCons (mC (.str "same")) (aCons (mTup (aCons (mC (.str "input")) (aCons (mC (.int 199)) aNil))) (aCons (m2 gPow (mC (.int 10)) (mC (.int 39))) aNil)))) aNil))))))
    (mSeq (mFor (iRange1 (aCons (mCall m__law_draw (aCons (mV 1) (aCons (mC (.int 3)) aNil))) aNil)) (gN 5) (mSeq (mSet 6 (mCall m__law_draw (aCons (mV 1) (aCons (m2 gAdd (mCall fLen (aCons (mV 3) aNil)) (mC (.int 1))) aNil))))
    (mSet 3 (m2 gAdd (m2 gAdd (mSl (mV 3) pNo (pAt (mV 6))) (mLst (aCons (mCall m__law_pick (aCons (mV 1) (aCons (mV 4) aNil))) aNil))) (mSl (mV 3) (pAt (mV 6)) pNo)))))
    (mSeq (mSet 7 (mCall m__law_pick (aCons (mV 1) (aCons (mLst (aCons (mV 3) (aCons (mV 3) (aCons (mV 3) (aCons (mCall fTuple (aCons (mV 3) aNil)) (aCons (mC .non) (aCons (mC (.str "less")) (aCons mDnew (aCons (mC (.int 5)) aNil))))))))) aNil))))
    (mSeq (mSet 8 (mAndV (mCall fIsi (aCons (mV 7) (aCons (mTup (aCons (mC (.ty "list")) (aCons (mC (.ty "tuple")) aNil))) aNil))) (m2 gLe (mCall fLen (aCons (mV 7) aNil)) (mC (.int 1000)))))
    (mSeq (mSet 9 (mIfE (mTest (mV 8)) (mLc (iEnumA (aCons (mV 7) aNil)) [15, 16] (gTup 2 (gsCons (gN 15) (gsCons (gN 16) gsNil))) (mNotT (mTest (mCall m__law_right (aCons (mV 16) aNil)))) (mV 15)) (mLst (aCons (m1 gNeg (mC (.int 1))) aNil))))
    (mSeq (mSet 10 (mIfE (mTest (m2 gEq (mV 9) (mLst aNil))) (mC (.str "told")) (mTup (aCons (mC (.str "conditions")) (aCons (m2 gIx (mV 9) (mC (.int 0))) aNil)))))
    (mSeq (mIfS (mTest (m2 gNe (mLst (aCons (mThunk m__law_found (mCall m_ring_of (aCons (mV 7) aNil))) (aCons (mThunk m__law_found (mCall m_is_ring (aCons (mV 7) (aCons (mC .non) aNil)))) aNil))) (mLst (aCons (mV 10) (aCons (mV 10) aNil))))) (mRet (mC (.bl false))) mNx)
    (mSeq (mSet 11 (mCall m__law_pick (aCons (mV 1) (aCons (mLst (aCons (mLst (aCons (mC (.int 1)) (aCons (mC (.int 2)) aNil))) (aCons (mLst (aCons (mC (.int 1)) (aCons (mC .non) aNil))) (aCons (mLst (aCons (mC (.bl true)) aNil)) (aCons (mC (.str "12")) (aCons (mC .non) (aCons (mTup (aCons (mC (.int 3)) (aCons (mC (.str "a")) aNil))) (aCons (m2 gMul (mLst (aCons (mC (.int 0)) aNil)) (mC (.int 5))) aNil)))))))) aNil))))
    (mSeq (mSet 12 (mIfE (mTest (mCall fIsi (aCons (mV 11) (aCons (mTup (aCons (mC (.ty "list")) (aCons (mC (.ty "tuple")) aNil))) aNil)))) (mLc (iEnumA (aCons (mV 11) aNil)) [15, 16] (gTup 2 (gsCons (gN 15) (gsCons (gN 16) gsNil))) (mNotT (mTest (mCall m__law_is_number (aCons (mV 16) aNil)))) (mV 15)) (mLst (aCons (m1 gNeg (mC (.int 1))) aNil))))
    (mSeq (mSet 13 (mIfE (mOrT (mTest (m2 gNe (mV 10) (mC (.str "told")))) (mTest (m2 gEq (mV 12) (mLst aNil)))) (mV 10) (mTup (aCons (mC (.str "input")) (aCons (m2 gIx (mV 12) (mC (.int 0))) aNil)))))
    (mSeq (mIfS (mTest (m2 gNe (mThunk m__law_found (mCall m_keeps (aCons (mV 7) (aCons (mV 11) aNil)))) (mV 13))) (mRet (mC (.bl false))) mNx)
    (mSeq (mSet 14 (mCall m__law_pick (aCons (mV 1) (aCons (mLst (aCons (mC (.int 0)) (aCons (mC (.int 1)) (aCons (mC (.int 5)) (aCons (mC (.int 200)) (aCons (mC (.int 201)) (aCons (m1 gNeg (mC (.int 1))) (aCons (mC (.bl true)) (aCons (mC .non) (aCons (mC (.str "2")) aNil)))))))))) aNil))))
    (mSeq (mSet 13 (mIfE (mOrT (mTest (m2 gNe (mV 10) (mC (.str "told")))) (mTest (mCall m__law_within (aCons (mV 14) (aCons (mC (.int 0)) (aCons (mC (.int 200)) aNil)))))) (mV 10) (mTup (aCons (mC (.str "number")) (aCons (mCall fRepr (aCons (mV 14) aNil)) aNil)))))
    (mIfS (mTest (m2 gNe (mThunk m__law_found (mCall m_numbers_for (aCons (mV 7) (aCons (mV 14) aNil)))) (mV 13))) (mRet (mC (.bl false))) mNx)))))))))))))))))))
  (mRet (mC (.bl true)))))
noncomputable def m_law : MF := mDef 17 b_law
section
variable {h h1 : MH} {p : Nat} {Q : D → MH → Prop}
/-- whether d is a condition: b, by both -/
structure Jd (h : MH) (d : D) (b : Bool) : Prop where
  prog : ∀ Q : D → MH → Prop, Q (.bl b) h → Wp (m_is_condition [d] h) Q
  law : ∀ Q : D → MH → Prop, Q (.bl b) h → Wp (m__law_right [d] h) Q
/-- the things that are no conditions wherever -/
def lits : List D := [.non, .tup [.str "less", .int 1], .tup [.str "less", .int 1, .int 2, .int 3], .tup [.str "more", .int 1, .int 2], .tup [.str "less", .bl true, .int 2], .tup [.str "same", .int 1, .str "a"],
  .tup [.str "less", .tup [.str "input", .int 200], .int 1], .tup [.str "less", .tup [.str "input", .int (-1)], .int 1], .tup [.str "same", .tup [.str "input", .bl true], .int 1], .tup [.int 1, .int 2, .int 3], .tup [.str "less", .tup [.str "output", .int 1], .int 1]]
theorem lits_prog : ∀ d ∈ lits, ∀ h, m_is_condition [d] h = .ok (.bl false) h := by
  intro d hd h
  simp only [lits, List.mem_cons, List.not_mem_nil, or_false] at hd
  rcases hd with rfl | rfl | rfl | rfl | rfl | rfl | rfl | rfl | rfl | rfl | rfl <;> kernel_rfl
theorem lits_law : ∀ d ∈ lits, ∀ h, m__law_right [d] h = .ok (.bl false) h := by
  intro d hd h
  simp only [lits, List.mem_cons, List.not_mem_nil, or_false] at hd
  rcases hd with rfl | rfl | rfl | rfl | rfl | rfl | rfl | rfl | rfl | rfl | rfl <;> kernel_rfl
/-- the things among the conditions -/
inductive Od (p : Nat) (h : MH) : D → Prop
  | good (c : Cnd) (ok : c.ok) : Od p h c.d
  | lit (d : D) (hd : d ∈ lits) : Od p h d
  | lst (r : Nat) (xs : List D) (hr : r ≠ p) (e : lsAt h r = some xs) : Od p h (.ref r)
  | itl (r : Nat) (xs : List D) (hr : r ≠ p) (e : lsAt h r = some xs) : Od p h (.tup [.str "less", .ref r, .int 1])
theorem Od.fr (f : Fr p h h1) {d : D} (o : Od p h d) : Od p h1 d := by
  cases o with
  | good c ok => exact .good c ok
  | lit d hd => exact .lit d hd
  | lst r xs hr e => exact .lst r xs hr (f.sq (d := .ref r) (fun z => hr (by cases z; rfl)) e)
  | itl r xs hr e => exact .itl r xs hr (f.sq (d := .ref r) (fun z => hr (by cases z; rfl)) e)
theorem law_item_ok {t : Itm} (ht : t.ok) (q : Q (.bl true) h) : Wp (m__law_item_right [t.d] h) Q := by
  cases t with
  | num i => exact .of (show m__law_item_right [.int i] h = .ok (.bl true) h by kernel_rfl) q
  | inp k =>
    have e : (List.range 200).map (fun (k : Nat) => m__law_item_right [.tup [.str "input", .int k]] h) = List.replicate 200 (.ok (.bl true) h) := by kernel_rfl
    have hk : k < 200 := ht
    have e2 := congrArg (fun l => l[k]?) e
    simp only [List.getElem?_map, List.getElem?_range hk, Option.map_some, List.getElem?_replicate, hk, if_true] at e2
    exact .of (Option.some.inj e2) q
theorem law_right_ok {c : Cnd} (hc : c.ok) (q : Q (.bl true) h) : Wp (m__law_right [c.d] h) Q := by
  obtain ⟨l, a, b⟩ := c
  show Wp (m__law_right [.tup [.str (if l = true then "less" else "same"), a.d, b.d]] h) Q
  unfold m__law_right b__law_right
  refine wp_def ?_
  repeat fail
  repeat fail
  refine Wp.of (a := D.bl true) (h := h) (by cases l <;> kernel_rfl) ?_
  repeat fail
  refine law_item_ok hc.1 ?_
  repeat fail
  exact law_item_ok hc.2 q
theorem Od.jd {d : D} (o : Od p h d) : ∃ b, Jd h d b ∧ (b = true → ∃ c : Cnd, c.ok ∧ d = c.d) := by
  cases o with
  | good c ok => exact ⟨true, ⟨fun Q q => is_condition_ok ok q, fun Q q => law_right_ok ok q⟩, fun _ => ⟨c, ok, rfl⟩⟩
  | lit d hd => exact ⟨false, ⟨fun Q q => .of (lits_prog d hd h) q, fun Q q => .of (lits_law d hd h) q⟩, fun z => nomatch z⟩
  | lst r xs hr e =>
    have ty := ty_ls (h := h) (k := r) e
    refine ⟨false, ⟨fun Q q => ?_, fun Q q => ?_⟩, fun z => nomatch z⟩
    · unfold m_is_condition b_is_condition
      refine wp_def ?_
      repeat fail
      exact q
    · unfold m__law_right b__law_right
      refine wp_def ?_
      repeat fail
      exact q
  | itl r xs hr e =>
    have ty := ty_ls (h := h) (k := r) e
    have it : ∀ Q : D → MH → Prop, Q (.bl false) h → Wp (m_is_item [.ref r] h) Q := fun Q q => by
      unfold m_is_item b_is_item
      refine wp_def (ws_seq (ws_if ?_))
      repeat fail
      refine is_number_no (a := "list") ty (by decide +kernel) ?_
      repeat fail
      exact q
    have il : ∀ Q : D → MH → Prop, Q (.bl false) h → Wp (m__law_item_right [.ref r] h) Q := fun Q q => by
      unfold m__law_item_right b__law_item_right
      refine wp_def (ws_seq (ws_if ?_))
      repeat fail
      unfold m__law_is_number b__law_is_number
      refine wp_def ?_
      repeat fail
      exact q
    refine ⟨false, ⟨fun Q q => ?_, fun Q q => ?_⟩, fun z => nomatch z⟩
    · unfold m_is_condition b_is_condition
      refine wp_def ?_
      repeat fail
      refine Wp.of (a := D.bl true) (h := h) (by kernel_rfl) ?_
      repeat fail
      refine it _ ?_
      repeat fail
      exact q
    · unfold m__law_right b__law_right
      refine wp_def ?_
      repeat fail
      repeat fail
      refine il _ ?_
      repeat fail
      exact q
noncomputable def gd (d : D) : Bool := @decide (∃ c : Cnd, c.ok ∧ d = c.d) (Classical.propDecidable _)
theorem Od.eqs {d : D} (o : Od p h d) : m_is_condition [d] h = .ok (.bl (gd d)) h ∧ m__law_right [d] h = .ok (.bl (gd d)) h := by
  obtain ⟨b, ⟨j1, j2⟩, hb⟩ := o.jd
  have one : ∀ {o : Out D} {b : Bool}, (∀ Q : D → MH → Prop, Q (.bl b) h → Wp o Q) → o = .ok (.bl b) h := fun {o b} w => by
    obtain ⟨x, h1, e, rfl, rfl⟩ := (w (fun x h1 => x = .bl b ∧ h1 = h) ⟨rfl, rfl⟩).get
    exact e
  have e1 := one j1
  have e2 := one j2
  suffices gd d = b by rw [this]; exact ⟨e1, e2⟩
  unfold gd
  cases b with
  | true => exact @decide_eq_true _ (Classical.propDecidable _) (hb rfl)
  | false =>
    refine @decide_eq_false _ (Classical.propDecidable _) fun ⟨c, hc, e⟩ => ?_
    subst e
    have e3 := one (b := true) fun Q q => is_condition_ok hc q
    rw [e1] at e3
    cases e3
theorem gd_true {d : D} (g : gd d = true) : ∃ c : Cnd, c.ok ∧ d = c.d := @of_decide_eq_true _ (Classical.propDecidable _) g
/-- the places of the wrong ones, from n on -/
def bdl (g : D → Bool) : Nat → List D → List Int
  | _, [] => []
  | n, d :: r => if g d = true then bdl g (n + 1) r else (n : Int) :: bdl g (n + 1) r
abbrev enE : Nat → D → D := fun k x => .tup [.int (k : Nat), x]
def badT (g : D → Bool) : D → Bool := fun d => match d with
  | .tup [_, x] => !g x
  | _ => false
def badF : D → D := fun d => match d with
  | .tup [k, _] => k
  | _ => .non
theorem bdl_comp (g : D → Bool) : ∀ (ds : List D) (n : Nat), ((mapE enE n ds).filter (badT g)).map badF = (bdl g n ds).map D.int
  | [], _ => rfl
  | d :: r, n => by
    show List.map badF (List.filter (badT g) (enE n d :: mapE enE (n + 1) r)) = _
    rw [bdl, List.filter_cons]
    have : badT g (enE n d) = !g d := rfl
    rw [this]
    cases g d with
    | true => exact bdl_comp g r (n + 1)
    | false => exact congrArg (D.int n :: ·) (bdl_comp g r (n + 1))
theorem bdl_nil : ∀ (ds : List D) (n : Nat), bdl gd n ds = [] → ∃ cs : List Cnd, ds = cs.map Cnd.d ∧ ∀ c ∈ cs, c.ok
  | [], _, _ => ⟨[], rfl, fun _ z => nomatch z⟩
  | d :: r, n, e => by
    rw [bdl] at e
    split at e
    · rename_i g
      obtain ⟨c, hc, rfl⟩ := gd_true g
      obtain ⟨cs, rfl, hcs⟩ := bdl_nil r (n + 1) e
      exact ⟨c :: cs, rfl, fun x hx => by
        rcases List.mem_cons.mp hx with rfl | hx
        · exact hc
        · exact hcs x hx⟩
    · cases e
/-- what check_conditions says of the first wrong one -/
abbrev CX (w : Int) (h : MH) : Str → List (Str × D) → MH → Prop := fun c fs h1 => c = "BadConditions" ∧ fs.lookup ("at" : Str) = some (D.int w) ∧ h1 = h
theorem chk_loop {d0 : D} {chk : MH → Prop} (hc : chk h) {w : Int} {ws : List Int} : ∀ (ds : List D) (n : Nat) (o1 o2 : Option D), (∀ d ∈ ds, Od p h d) → bdl gd n ds = w :: ws →
    WE (mLoop chk (gTup 2 (gsCons (gN 1) (gsCons (gN 2) gsNil))) (mIfS (mNotT (mTest (mCall m_is_condition (aCons (mV 2) aNil)))) (mRaise "BadConditions" ["at"] (aCons (mV 1) aNil)) mNx) (mapE enE n ds) [some d0, o1, o2] h) fun c fs _ h1 => CX w h c fs h1
  | [], _, _, _, _, e => by cases e
  | d :: r, n, o1, o2, ho, e => by
    have eq := (ho d (List.mem_cons_self ..)).eqs.1
    rw [bdl] at e
    show WE (mLoop chk _ _ (enE n d :: mapE enE (n + 1) r) _ h) _
    split at e
    · rename_i g
      rw [g] at eq
      refine we_loopN hc ?_
      repeat fail
      refine Wp.of eq ?_
      repeat fail
      exact chk_loop hc r (n + 1) _ _ (fun x hx => ho x (List.mem_cons_of_mem _ hx)) e
    · rename_i g
      rw [Bool.not_eq_true _ |>.mp g] at eq
      cases e
      refine we_loopX hc ?_
      repeat fail
      refine we_if ?_
      repeat fail
      refine Wp.of eq ?_
      repeat fail
      refine we_raise ?_
      repeat fail
      exact ⟨rfl, rfl⟩
/-- what is no list of conditions: the first wrong one, or -1 -/
inductive Wr (p : Nat) (h : MH) (d : D) (w : Int) (ws : List Int) : Prop
  | at_ (ds : List D) (e : sqD h d = some ds) (hl : ds.length ≤ 1000) (ho : ∀ x ∈ ds, Od p h x) (hb : bdl gd 0 ds = w :: ws)
  | long (ds : List D) (e : sqD h d = some ds) (hl : 1000 < ds.length) (hw : w = -1)
  | none (a : String) (e : ∀ h1, Fr p h h1 → tyN h1 d = some a) (ea : isiT a "list" = some false ∧ isiT a "tuple" = some false) (hw : w = -1)
theorem is_listed_no {d : D} {a : String} (e : tyN h d = some a) (ea : (isiT a "list" = some false) ∧ isiT a "tuple" = some false) (q : Q (.bl false) h) : Wp (m_is_listed [d] h) Q := by
  unfold m_is_listed b_is_listed
  refine wp_def ?_
  repeat fail
  exact wp_isis (a := a) e (by simp only [anyT, ea.1, ea.2]) q
theorem check_wr {d : D} {w : Int} {ws : List Int} (W : Wr p h d w ws) : XE (m_check_conditions [d] h) (CX w h) := by
  rw [m_check_conditions, b_check_conditions]
  cases W with
  | at_ ds e hl ho hb =>
    refine xe_def (we_seqN (ws_if ?_))
    repeat fail
    refine is_listed_sq e ?_
    repeat fail
    refine wp_len_sq e ?_
    repeat fail
    refine we_for (wp_iEA ?_)
    repeat fail
    refine ⟨_, _, rfl, e, fun P hP => ?_⟩
    rw [show enumD ds = mapE enE 0 ds from by have z := enum_mapE (fun x : D => x) ds; rw [List.map_id'] at z; exact z]
    exact chk_loop (hP _ e) ds 0 _ _ ho hb
  | long ds e hl hw =>
    subst hw
    refine xe_def (we_seq (we_if ?_))
    repeat fail
    refine is_listed_sq e ?_
    repeat fail
    refine wp_len_sq e ?_
    repeat fail
    refine we_raise ?_
    repeat fail
    exact ⟨rfl, rfl⟩
  | none a e ea hw =>
    subst hw
    refine xe_def (we_seq (we_if ?_))
    repeat fail
    refine is_listed_no (e h .refl) ea ?_
    repeat fail
    refine we_raise ?_
    repeat fail
    exact ⟨rfl, rfl⟩
theorem x_pair {c : Str} {g : XG} {fs : List (Str × D)} {v : D} (e : g fs h = some v) : xTup (xCons (xC (.str c)) (xCons g xNil)) fs h = some (.tup [.str c, v]) := by
  unfold xTup xCons xC xNil
  rw [e]
  rfl
section
variable {me : ME} {ms : MS}
theorem found_ok (w : Wp (me ms h) fun _ h1 => Q (.str "told") h1) : Wp (mThunk m__law_found me ms h) Q := by
  show Wp (mThk 2 b__law_found (fun h' => me ms h') h) Q
  refine wp_thk ?_
  unfold b__law_found
  exact ws_seq (ws_try (ws_wExpr (w.mono fun d h1 q => ws_ret (wp_mC q))))
theorem found_cond (w : XE (me ms h) fun c fs h1 => c = "BadConditions" ∧ ∃ v, fs.lookup ("at" : Str) = some v ∧ Q (.tup [.str "conditions", v]) h1) : Wp (mThunk m__law_found me ms h) Q := by
  show Wp (mThk 2 b__law_found (fun h' => me ms h') h) Q
  refine wp_thk ?_
  unfold b__law_found
  refine ws_seq (ws_tryX (we_wExpr (w.mono fun c fs h1 ⟨ec, v, ev, q⟩ => ?_)))
  subst ec
  refine ⟨by simp, ?_⟩
  rw [hdl, if_pos rfl]
  exact ws_hRet (show 1 < (List.replicate 2 (none : Option D)).length by decide) (x_pair (g := xF "at") ev) q
theorem found_input (w : XE (me ms h) fun c fs h1 => c = "NoInput" ∧ ∃ v, fs.lookup ("at" : Str) = some v ∧ Q (.tup [.str "input", v]) h1) : Wp (mThunk m__law_found me ms h) Q := by
  show Wp (mThk 2 b__law_found (fun h' => me ms h') h) Q
  refine wp_thk ?_
  unfold b__law_found
  refine ws_seq (ws_tryX (we_wExpr (w.mono fun c fs h1 ⟨ec, v, ev, q⟩ => ?_)))
  subst ec
  refine ⟨by simp, ?_⟩
  rw [hdl, if_neg (by decide), hdl, if_pos rfl]
  exact ws_hRet (show 1 < (List.replicate 2 (none : Option D)).length by decide) (x_pair (g := xF "at") ev) q
theorem found_number (w : XE (me ms h) fun c fs h1 => c = "BadNumber" ∧ ∃ v e, fs.lookup ("value" : Str) = some v ∧ reprD v = some e ∧ Q (.tup [.str "number", e]) h1) : Wp (mThunk m__law_found me ms h) Q := by
  show Wp (mThk 2 b__law_found (fun h' => me ms h') h) Q
  refine wp_thk ?_
  unfold b__law_found
  refine ws_seq (ws_tryX (we_wExpr (w.mono fun c fs h1 ⟨ec, v, e, ev, er, q⟩ => ?_)))
  subst ec
  refine ⟨by simp, ?_⟩
  rw [hdl, if_neg (by decide), hdl, if_neg (by decide), hdl, if_pos rfl]
  exact ws_hRet (show 1 < (List.replicate 2 (none : Option D)).length by decide) (x_pair (g := xR (xF "value")) (by unfold xR xF; rw [ev]; exact er)) q
end
section
variable {d : D} {w : Int} {ws : List Int}
theorem ring_wr (W : Wr p h d w ws) : XE (m_ring_of [d] h) (CX w h) := by
  rw [m_ring_of, b_ring_of]
  refine xe_def (we_seq (we_exprCall ?_))
  repeat fail
  exact check_wr W
theorem is_ring_wr {v : D} (W : Wr p h d w ws) : XE (m_is_ring [d, v] h) (CX w h) := by
  rw [m_is_ring, b_is_ring]
  refine xe_def (we_seq (we_exprCall ?_))
  repeat fail
  exact check_wr W
theorem keeps_wr {v : D} (W : Wr p h d w ws) : XE (m_keeps [d, v] h) (CX w h) := by
  rw [m_keeps, b_keeps]
  refine xe_def (we_seq (we_exprCall ?_))
  repeat fail
  exact check_wr W
theorem numbers_wr {v : D} (W : Wr p h d w ws) : XE (m_numbers_for [d, v] h) (CX w h) := by
  rw [m_numbers_for, b_numbers_for]
  refine xe_def (we_seq (we_exprCall ?_))
  repeat fail
  exact check_wr W
end
end
section
variable {h h1 : MH} {p : Nat} {Q : D → MH → Prop}
/-- the thing that is handed in: a list of conditions, or what is none -/
inductive Tg (p : Nat) (h : MH) (d : D) : Option Int → Prop
  | ok (cs : List Cnd) (e : sqD h d = some (cs.map Cnd.d)) (hl : cs.length ≤ 1000) (hc : ∀ c ∈ cs, c.ok) : Tg p h d none
  | wr (w : Int) (ws : List Int) (W : Wr p h d w ws) : Tg p h d (some w)
def dueD : Option Int → D
  | none => .str "told"
  | some w => .tup [.str "conditions", .int w]
theorem Wr.fr {d : D} {w : Int} {ws : List Int} (f : Fr p h h1) (hd : d ≠ .ref p) (W : Wr p h d w ws) : Wr p h1 d w ws := by
  cases W with
  | at_ ds e hl ho hb => exact .at_ ds (f.sq hd e) hl (fun x hx => (ho x hx).fr f) hb
  | long ds e hl hw => exact .long ds (f.sq hd e) hl hw
  | none a e ea hw => exact .none a (fun h2 f2 => e h2 (f.trans f2)) ea hw
theorem Tg.fr {d : D} {o : Option Int} (f : Fr p h h1) (hd : d ≠ .ref p) (T : Tg p h d o) : Tg p h1 d o := by
  cases T with
  | ok cs e hl hc => exact .ok cs (f.sq hd e) hl hc
  | wr w ws W => exact .wr w ws (W.fr f hd)
theorem eq_ci {w : Int} : eqD h (.tup [.str "conditions", .int w]) (.tup [.str "conditions", .int w]) = some true := by
  have e : eqD h (.tup [.str "conditions", .int w]) (.tup [.str "conditions", .int w]) = some (PyData.eqv (.tuple [.str "conditions", .int w]) (.tuple [.str "conditions", .int w])) := by kernel_rfl
  rw [e]
  simp [PyData.eqv, PyData.eqvAll]
theorem eq_ii {w : Int} : eqD h (.tup [.str "input", .int w]) (.tup [.str "input", .int w]) = some true := by
  have e : eqD h (.tup [.str "input", .int w]) (.tup [.str "input", .int w]) = some (PyData.eqv (.tuple [.str "input", .int w]) (.tuple [.str "input", .int w])) := by kernel_rfl
  rw [e]
  simp [PyData.eqv, PyData.eqvAll]
theorem ne_due {o : Option Int} (q : Q (.bl false) h) : Wp (gNe (dueD o) (dueD o) h) Q := by
  cases o with
  | none => exact wp_neSS q
  | some w => exact wp_neA eq_ci q
theorem ne_told1 {w : Int} (q : Q (.bl true) h) : Wp (gNe (dueD (some w)) (.str "told") h) Q := by
  have e : eqD h (.tup [.str "conditions", .int w]) (.str "told") = some false := by kernel_rfl
  exact wp_neA e q
theorem ne_told0 (q : Q (.bl false) h) : Wp (gNe (dueD none) (.str "told") h) Q := wp_neSS q
theorem wp_reprD {x y : D} (e : reprD x = some y) (q : Q y h) : Wp (fRepr [x] h) Q := .of (show (match reprD x with | some e => Out.ok e h | none => Out.bad) = .ok y h by rw [e]) q
def mans : List D := [.int 0, .int 1, .int 5, .int 200, .int 201, .int (-1), .bl true, .non, .str "2"]
structure Mn (x : D) (b : Bool) (e : Str) : Prop where
  law : ∀ h, m__law_within [x, .int 0, .int 200] h = .ok (.bl b) h
  prog : ∀ h, m_is_within [x, .int 0, .int 200] h = .ok (.bl b) h
  good : b = true → ∃ k : Nat, k ≤ 200 ∧ x = .int k
  rep : reprD x = some (.str e)
  eq : ∀ h, eqD h (.tup [.str "number", .str e]) (.tup [.str "number", .str e]) = some true
theorem mans_ok : ∀ x ∈ mans, ∃ b e, Mn x b e := by
  intro x hx
  simp only [mans, List.mem_cons, List.not_mem_nil, or_false] at hx
  rcases hx with rfl | rfl | rfl | rfl | rfl | rfl | rfl | rfl | rfl
  · exact ⟨true, "0", fun _ => by kernel_rfl, fun _ => by kernel_rfl, fun _ => ⟨0, by omega, rfl⟩, by kernel_rfl, fun _ => by kernel_rfl⟩
  · exact ⟨true, "1", fun _ => by kernel_rfl, fun _ => by kernel_rfl, fun _ => ⟨1, by omega, rfl⟩, by kernel_rfl, fun _ => by kernel_rfl⟩
  · exact ⟨true, "5", fun _ => by kernel_rfl, fun _ => by kernel_rfl, fun _ => ⟨5, by omega, rfl⟩, by kernel_rfl, fun _ => by kernel_rfl⟩
  · exact ⟨true, "200", fun _ => by kernel_rfl, fun _ => by kernel_rfl, fun _ => ⟨200, by omega, rfl⟩, by kernel_rfl, fun _ => by kernel_rfl⟩
  · exact ⟨false, "201", fun _ => by kernel_rfl, fun _ => by kernel_rfl, (fun z => nomatch z), by kernel_rfl, fun _ => by kernel_rfl⟩
  · exact ⟨false, "-1", fun _ => by kernel_rfl, fun _ => by kernel_rfl, (fun z => nomatch z), by kernel_rfl, fun _ => by kernel_rfl⟩
  · exact ⟨false, "True", fun _ => by kernel_rfl, fun _ => by kernel_rfl, (fun z => nomatch z), by kernel_rfl, fun _ => by kernel_rfl⟩
  · exact ⟨false, "None", fun _ => by kernel_rfl, fun _ => by kernel_rfl, (fun z => nomatch z), by kernel_rfl, fun _ => by kernel_rfl⟩
  · exact ⟨false, "'2'", fun _ => by kernel_rfl, fun _ => by kernel_rfl, (fun z => nomatch z), by kernel_rfl, fun _ => by kernel_rfl⟩
theorem numbers_bad {d x : D} {cs : List Cnd} {e : Str} (ec : sqD h d = some (cs.map Cnd.d)) (hl : cs.length ≤ 1000) (hc : ∀ c ∈ cs, c.ok) (m : Mn x false e) : XE (m_numbers_for [d, x] h) fun c fs h1 => c = "BadNumber" ∧ fs.lookup ("value" : Str) = some x ∧ h1 = h := by
  rw [m_numbers_for, b_numbers_for]
  refine xe_def (we_seqN ?_)
  repeat fail
  refine check_ok ec hl hc ?_
  repeat fail
  refine we_seq (we_if ?_)
  repeat fail
  refine Wp.of (m.prog h) ?_
  repeat fail
  refine we_raise ?_
  repeat fail
  exact ⟨rfl, rfl⟩
noncomputable def k21E : MSt := (mSeq (mSet 14 (mCall m__law_pick (aCons (mV 1) (aCons (mLst (aCons (mC (.int 0)) (aCons (mC (.int 1)) (aCons (mC (.int 5)) (aCons (mC (.int 200)) (aCons (mC (.int 201)) (aCons (m1 gNeg (mC (.int 1))) (aCons (mC (.bl true)) (aCons (mC .non) (aCons (mC (.str "2")) aNil)))))))))) aNil))))
    (mSeq (mSet 13 (mIfE (mOrT (mTest (m2 gNe (mV 10) (mC (.str "told")))) (mTest (mCall m__law_within (aCons (mV 14) (aCons (mC (.int 0)) (aCons (mC (.int 200)) aNil)))))) (mV 10) (mTup (aCons (mC (.str "number")) (aCons (mCall fRepr (aCons (mV 14) aNil)) aNil)))))
    (mIfS (mTest (m2 gNe (mThunk m__law_found (mCall m_numbers_for (aCons (mV 7) (aCons (mV 14) aNil)))) (mV 13))) (mRet (mC (.bl false))) mNx)))
theorem k21E_eq : k21E = (mSeq (mSet 14 (mCall m__law_pick (aCons (mV 1) (aCons (mLst (aCons (mC (.int 0)) (aCons (mC (.int 1)) (aCons (mC (.int 5)) (aCons (mC (.int 200)) (aCons (mC (.int 201)) (aCons (m1 gNeg (mC (.int 1))) (aCons (mC (.bl true)) (aCons (mC .non) (aCons (mC (.str "2")) aNil)))))))))) aNil))))
    (mSeq (mSet 13 (mIfE (mOrT (mTest (m2 gNe (mV 10) (mC (.str "told")))) (mTest (mCall m__law_within (aCons (mV 14) (aCons (mC (.int 0)) (aCons (mC (.int 200)) aNil)))))) (mV 10) (mTup (aCons (mC (.str "number")) (aCons (mCall fRepr (aCons (mV 14) aNil)) aNil)))))
    (mIfS (mTest (m2 gNe (mThunk m__law_found (mCall m_numbers_for (aCons (mV 7) (aCons (mV 14) aNil)))) (mV 13))) (mRet (mC (.bl false))) mNx))) := rfl
theorem k21E_ok {d : D} {o : Option Int} {N : MS → MH → Prop} {R : D → MH → Prop} {B C : MS → MH → Prop} {x0 x2 x3 x4 x5 x6 x8 x9 x11 x12 x13 x14 x15 x16 : Option D} (hp : PotOk p h) (T : Tg p h d o) (hd : d ≠ .ref p)
    (n : ∀ x13 x14 h1, PotOk p h1 → N [x0, some (.ref p), x2, x3, x4, x5, x6, some d, x8, x9, some (dueD o), x11, x12, x13, x14, x15, x16] h1) :
    WS (k21E [x0, some (.ref p), x2, x3, x4, x5, x6, some d, x8, x9, some (dueD o), x11, x12, x13, x14, x15, x16] h) N R B C := by
  have hpl := hp.lt
  unfold k21E
  repeat fail
  refine pickL (xs := mans) (hp.gr (.app _)) (Nat.ne_of_gt hpl) (lsAt_of at_last) (by decide) (by decide) fun x h1 hx hp1 f1 l1 => ?_
  obtain ⟨b, e, m⟩ := mans_ok x hx
  have T1 : Tg p h1 d o := T.fr ((Gr.app _).fr.trans f1) hd
  repeat fail
  cases T1 with
  | wr w ws W =>
    refine ne_told1 ?_
    repeat fail
    refine found_cond (xe_call ?_)
    repeat fail
    refine (numbers_wr W).mono fun c fs h2 ⟨e1, e2, e3⟩ => ⟨e1, _, e2, ?_⟩
    subst e3
    repeat fail
    refine ne_due (o := some w) ?_
    repeat fail
    exact n _ _ _ hp1
  | ok cs ec hl hc =>
    refine ne_told0 ?_
    repeat fail
    refine Wp.of (m.law h1) ?_
    cases b with
    | true =>
      obtain ⟨k, hk, rfl⟩ := m.good rfl
      repeat fail
      refine found_ok (wp_mCall ?_)
      repeat fail
      refine numbers_for_ok ec hl hc hk fun res h2 _ g2 => ?_
      repeat fail
      refine ne_due (o := none) ?_
      repeat fail
      exact n _ _ _ (hp1.gr g2)
    | false =>
      repeat fail
      refine wp_reprD m.rep ?_
      repeat fail
      refine found_number (xe_call ?_)
      repeat fail
      refine (numbers_bad ec hl hc m).mono fun c fs h2 ⟨e1, e2, e3⟩ => ⟨e1, _, _, e2, m.rep, ?_⟩
      subst e3
      repeat fail
      refine wp_neA (m.eq _) ?_
      repeat fail
      exact n _ _ _ hp1
def isN : D → Bool
  | .int _ => true
  | _ => false
def Pl (x : D) : Prop := (∃ i, x = .int i) ∨ x = .non ∨ (∃ b, x = .bl b) ∨ ∃ z, x = .str z
theorem Pl.num {x : D} (hx : Pl x) (h : MH) : m_is_number [x] h = .ok (.bl (isN x)) h ∧ m__law_is_number [x] h = .ok (.bl (isN x)) h := by
  rcases hx with ⟨i, rfl⟩ | rfl | ⟨b, rfl⟩ | ⟨z, rfl⟩
  · exact ⟨by kernel_rfl, by kernel_rfl⟩
  · exact ⟨by kernel_rfl, by kernel_rfl⟩
  · cases b
    · exact ⟨by kernel_rfl, by kernel_rfl⟩
    · exact ⟨by kernel_rfl, by kernel_rfl⟩
  · exact ⟨by kernel_rfl, by kernel_rfl⟩
/-- the row that is handed in -/
inductive Rw (p : Nat) (h : MH) (r : D) (bs : List Int) : Prop
  | sq (rs : List D) (e : sqD h r = some rs) (hl : rs.length ≤ 5) (hp : ∀ x ∈ rs, Pl x) (eb : bs = bdl isN 0 rs)
  | no (a : String) (e : ∀ h1, tyN h1 r = some a) (ea : isiT a "list" = some false ∧ isiT a "tuple" = some false) (eb : bs = [-1])
theorem isis_sq {d : D} {xs : List D} (e : sqD h d = some xs) (q : Q (.bl true) h) : Wp (fIsi [d, .tup [.ty "list", .ty "tuple"]] h) Q := by
  cases d with
  | tup ds => exact wp_isis (a := "tuple") rfl (by decide +kernel) q
  | ref k => exact wp_isis (a := "list") (ty_ls e) (by decide +kernel) q
  | _ => cases e
theorem Rw.ls {k : Nat} {rs : List D} (e : h[k]? = some (.lst rs)) (hl : rs.length ≤ 5) (hp : ∀ x ∈ rs, Pl x) : Rw p h (.ref k) (bdl isN 0 rs) := .sq rs (lsAt_of e) hl hp rfl
theorem Rw.fr {r : D} {ws : List Int} (f : Fr p h h1) (hr : r ≠ .ref p) (W : Rw p h r ws) : Rw p h1 r ws := by
  cases W with
  | sq rs e hl hp eb => exact .sq rs (f.sq hr e) hl hp eb
  | no a e ea eb => exact .no a e ea eb
theorem ints_of : ∀ (rs : List D) (n : Nat), (∀ x ∈ rs, Pl x) → bdl isN n rs = [] → ∃ row : List Int, rs = row.map D.int
  | [], _, _, _ => ⟨[], rfl⟩
  | d :: r, n, hp, e => by
    rw [bdl] at e
    split at e
    · rename_i g
      obtain ⟨row, rfl⟩ := ints_of r (n + 1) (fun x hx => hp x (List.mem_cons_of_mem _ hx)) e
      rcases hp d (List.mem_cons_self ..) with ⟨i, rfl⟩ | rfl | ⟨b, rfl⟩ | ⟨z, rfl⟩
      · exact ⟨i :: row, rfl⟩
      · cases g
      · cases g
      · cases g
    · cases e
theorem kee_loop {d0 r0 : D} {o4 : Option D} {chk : MH → Prop} (hc : chk h) {w : Int} {ws : List Int} : ∀ (ds : List D) (n : Nat) (o1 o2 : Option D), (∀ d ∈ ds, Pl d) → bdl isN n ds = w :: ws →
    WE (mLoop chk (gTup 2 (gsCons (gN 2) (gsCons (gN 3) gsNil))) (mIfS (mNotT (mTest (mCall m_is_number (aCons (mV 3) aNil)))) (mRaise "NoInput" ["at"] (aCons (mV 2) aNil)) mNx) (mapE enE n ds) [some d0, some r0, o1, o2, o4] h) fun c fs _ h1 => c = "NoInput" ∧ fs.lookup ("at" : Str) = some (D.int w) ∧ h1 = h
  | [], _, _, _, _, e => by cases e
  | d :: r, n, o1, o2, ho, e => by
    have eq := ((ho d (List.mem_cons_self ..)).num h).1
    rw [bdl] at e
    show WE (mLoop chk _ _ (enE n d :: mapE enE (n + 1) r) _ h) _
    split at e
    · rename_i g
      rw [g] at eq
      refine we_loopN hc ?_
      repeat fail
      refine Wp.of eq ?_
      repeat fail
      exact kee_loop hc r (n + 1) _ _ (fun x hx => ho x (List.mem_cons_of_mem _ hx)) e
    · rename_i g
      rw [Bool.not_eq_true _ |>.mp g] at eq
      cases e
      refine we_loopX hc ?_
      repeat fail
      refine we_if ?_
      repeat fail
      refine Wp.of eq ?_
      repeat fail
      refine we_raise ?_
      repeat fail
      exact ⟨rfl, rfl⟩
theorem keeps_bad {d r : D} {cs : List Cnd} {w : Int} {ws : List Int} (ec : sqD h d = some (cs.map Cnd.d)) (hl : cs.length ≤ 1000) (hc : ∀ c ∈ cs, c.ok) {vs : List Int} (W : Rw p h r vs) (ev : vs = w :: ws) : XE (m_keeps [d, r] h) fun c fs h1 => c = "NoInput" ∧ fs.lookup ("at" : Str) = some (D.int w) ∧ h1 = h := by
  rw [m_keeps, b_keeps]
  refine xe_def (we_seqN ?_)
  repeat fail
  refine check_ok ec hl hc ?_
  repeat fail
  cases W with
  | sq rs e hl hp eb =>
    rw [eb] at ev
    refine we_seqN (ws_if ?_)
    repeat fail
    refine is_listed_sq e ?_
    repeat fail
    refine we_seq (we_for (wp_iEA ?_))
    repeat fail
    refine ⟨_, _, rfl, e, fun P hP => ?_⟩
    rw [show enumD rs = mapE enE 0 rs from by have z := enum_mapE (fun x : D => x) rs; rw [List.map_id'] at z; exact z]
    exact kee_loop (hP _ e) rs 0 _ _ hp ev
  | no a e ea eb =>
    subst eb
    cases ev
    refine we_seq (we_if ?_)
    repeat fail
    refine is_listed_no (e h) ea ?_
    repeat fail
    refine we_raise ?_
    repeat fail
    exact ⟨rfl, rfl⟩
theorem bad_lc {f : MF} {g : D → Bool} {j : Nat} {d : D} {ds : List D} {ms : MS} {a0 a1 a2 a3 a4 a5 a6 a7 a8 a9 a10 a11 a12 a13 a14 a15 a16 : Option D} (em : ms = [a0, a1, a2, a3, a4, a5, a6, a7, a8, a9, a10, a11, a12, a13, a14, a15, a16]) (hj : ms[j]? = some (some d)) (e : sqD h d = some ds) (hl : ds.length ≤ 1003)
    (hf : ∀ x ∈ ds, ∀ h2, Gr h h2 → f [x] h2 = .ok (.bl (g x)) h2) (q : ∀ r h2, Gr h h2 → h2[r]? = some (.lst ((bdl g 0 ds).map D.int)) → Q (.ref r) h2) :
    Wp (mLc (iEnumA (aCons (mV j) aNil)) [15, 16] (gTup 2 (gsCons (gN 15) (gsCons (gN 16) gsNil))) (mNotT (mTest (mCall f (aCons (mV 16) aNil)))) (mV 15) ms h) Q := by
  refine wp_lcP (badT g) badF (wp_iEA (wp_aCons (wp_mV hj (wp_aNil ⟨_, _, rfl, e, fun P hP => ⟨?_, fun h2 g2 => hP h2 (g2.sq e), fun x hx h2 g2 => ?_, ?_⟩⟩))))
  · rw [enumD_len]
    exact Nat.le_trans hl (by rw [sizeLine_eq]; omega)
  · obtain ⟨k, hk, ek⟩ := List.getElem_of_mem hx
    obtain ⟨y, hy, rfl⟩ := enumD_at (by rw [List.getElem?_eq_getElem hk, ek])
    have hf := hf y (List.mem_of_getElem? hy) h2 g2
    subst em
    repeat fail
    refine Wp.of hf ?_
    repeat fail
    refine ⟨rfl, rfl, fun hb => ?_⟩
    repeat fail
    exact ⟨rfl, rfl⟩
  · rw [show enumD ds = mapE enE 0 ds from by have z := enum_mapE (fun x : D => x) ds; rw [List.map_id'] at z; exact z, bdl_comp]
    exact q _ _ (.app _) at_last
theorem eq_nilI {r k : Nat} {ws : List Int} (e : h[r]? = some (.lst (ws.map D.int))) (ek : h[k]? = some (.lst [])) (q : Q (.bl (decide (ws = []))) h) : Wp (gEq (.ref r) (.ref k) h) Q := wp_eqA (eqD_ints (ms := []) (lsAt_of e) (lsAt_of ek)) q
noncomputable def k21F : MSt := (mSeq (mSet 13 (mIfE (mOrT (mTest (m2 gNe (mV 10) (mC (.str "told")))) (mTest (m2 gEq (mV 12) (mLst aNil)))) (mV 10) (mTup (aCons (mC (.str "input")) (aCons (m2 gIx (mV 12) (mC (.int 0))) aNil)))))
    (mSeq (mIfS (mTest (m2 gNe (mThunk m__law_found (mCall m_keeps (aCons (mV 7) (aCons (mV 11) aNil)))) (mV 13))) (mRet (mC (.bl false))) mNx)
    (mSeq (mSet 14 (mCall m__law_pick (aCons (mV 1) (aCons (mLst (aCons (mC (.int 0)) (aCons (mC (.int 1)) (aCons (mC (.int 5)) (aCons (mC (.int 200)) (aCons (mC (.int 201)) (aCons (m1 gNeg (mC (.int 1))) (aCons (mC (.bl true)) (aCons (mC .non) (aCons (mC (.str "2")) aNil)))))))))) aNil))))
    (mSeq (mSet 13 (mIfE (mOrT (mTest (m2 gNe (mV 10) (mC (.str "told")))) (mTest (mCall m__law_within (aCons (mV 14) (aCons (mC (.int 0)) (aCons (mC (.int 200)) aNil)))))) (mV 10) (mTup (aCons (mC (.str "number")) (aCons (mCall fRepr (aCons (mV 14) aNil)) aNil)))))
    (mIfS (mTest (m2 gNe (mThunk m__law_found (mCall m_numbers_for (aCons (mV 7) (aCons (mV 14) aNil)))) (mV 13))) (mRet (mC (.bl false))) mNx)))))
theorem k21F_eq : k21F = (mSeq (mSet 13 (mIfE (mOrT (mTest (m2 gNe (mV 10) (mC (.str "told")))) (mTest (m2 gEq (mV 12) (mLst aNil)))) (mV 10) (mTup (aCons (mC (.str "input")) (aCons (m2 gIx (mV 12) (mC (.int 0))) aNil)))))
    (mSeq (mIfS (mTest (m2 gNe (mThunk m__law_found (mCall m_keeps (aCons (mV 7) (aCons (mV 11) aNil)))) (mV 13))) (mRet (mC (.bl false))) mNx)
    (mSeq (mSet 14 (mCall m__law_pick (aCons (mV 1) (aCons (mLst (aCons (mC (.int 0)) (aCons (mC (.int 1)) (aCons (mC (.int 5)) (aCons (mC (.int 200)) (aCons (mC (.int 201)) (aCons (m1 gNeg (mC (.int 1))) (aCons (mC (.bl true)) (aCons (mC .non) (aCons (mC (.str "2")) aNil)))))))))) aNil))))
    (mSeq (mSet 13 (mIfE (mOrT (mTest (m2 gNe (mV 10) (mC (.str "told")))) (mTest (mCall m__law_within (aCons (mV 14) (aCons (mC (.int 0)) (aCons (mC (.int 200)) aNil)))))) (mV 10) (mTup (aCons (mC (.str "number")) (aCons (mCall fRepr (aCons (mV 14) aNil)) aNil)))))
    (mIfS (mTest (m2 gNe (mThunk m__law_found (mCall m_numbers_for (aCons (mV 7) (aCons (mV 14) aNil)))) (mV 13))) (mRet (mC (.bl false))) mNx))))) := rfl
theorem k21F_ok {d x : D} {k : Nat} {bs : List Int} {o : Option Int} {N : MS → MH → Prop} {R : D → MH → Prop} {B C : MS → MH → Prop} {x0 x2 x3 x4 x5 x6 x8 x9 x13 x14 x15 x16 : Option D} (hp : PotOk p h) (T : Tg p h d o) (hd : d ≠ .ref p) (hx : x ≠ .ref p) (W : Rw p h x bs) (ek : h[k]? = some (.lst (bs.map D.int)))
    (n : ∀ x13 x14 h1, PotOk p h1 → N [x0, some (.ref p), x2, x3, x4, x5, x6, some d, x8, x9, some (dueD o), some x, some (.ref k), x13, x14, x15, x16] h1) :
    WS (k21F [x0, some (.ref p), x2, x3, x4, x5, x6, some d, x8, x9, some (dueD o), some x, some (.ref k), x13, x14, x15, x16] h) N R B C := by
  have hpl := hp.lt
  rw [k21F_eq, ← k21E_eq]
  cases T with
  | wr w ws W =>
    repeat fail
    refine ne_told1 ?_
    repeat fail
    refine found_cond (xe_call ?_)
    repeat fail
    refine (keeps_wr W).mono fun c fs h2 ⟨e1, e2, e3⟩ => ⟨e1, _, e2, ?_⟩
    subst e3
    repeat fail
    refine ne_due (o := some w) ?_
    repeat fail
    exact k21E_ok hp (.wr w ws W) hd fun _ _ _ hp1 => n _ _ _ hp1
  | ok cs ec hl hc =>
    have T : Tg p h d none := .ok cs ec hl hc
    repeat fail
    refine ne_told0 ?_
    repeat fail
    refine eq_nilI (at_app ek _) at_last ?_
    have g : Gr h (h ++ [.lst []]) := .app _
    have ec := g.sq ec
    have T := T.fr (p := p) g.fr hd
    have hp := hp.gr g
    have W := W.fr (p := p) g.fr hx
    have ek := at_app ek [.lst []]
    generalize h ++ [.lst []] = h at *
    cases bs with
    | nil =>
      repeat fail
      refine if_dec (fun _ => ?_) (fun z => absurd rfl z)
      repeat fail
      cases W with
      | no a e ea eb => cases eb
      | sq rs e hl' hp' eb =>
        obtain ⟨row, rfl⟩ := ints_of rs 0 hp' eb.symm
        refine found_ok (wp_mCall ?_)
        repeat fail
        refine keeps_ok ec hl hc e fun h2 g2 => ?_
        repeat fail
        refine ne_due (o := none) ?_
        repeat fail
        exact k21E_ok (hp.gr g2) (T.fr (p := p) g2.fr hd) hd fun _ _ _ hp1 => n _ _ _ hp1
    | cons b bs =>
      repeat fail
      refine if_dec (fun z => nomatch z) (fun _ => ?_)
      repeat fail
      refine wp_ixL (d := .int b) (lsAt_of ek) (int_at (i := 0) rfl) ?_
      repeat fail
      refine found_input (xe_call ?_)
      repeat fail
      refine (keeps_bad ec hl hc W rfl).mono fun c fs h2 ⟨e1, e2, e3⟩ => ⟨e1, _, e2, ?_⟩
      subst e3
      repeat fail
      refine wp_neA eq_ii ?_
      repeat fail
      exact k21E_ok hp T hd fun _ _ _ hp1 => n _ _ _ hp1
noncomputable def k21D : MSt := (mSeq (mSet 11 (mCall m__law_pick (aCons (mV 1) (aCons (mLst (aCons (mLst (aCons (mC (.int 1)) (aCons (mC (.int 2)) aNil))) (aCons (mLst (aCons (mC (.int 1)) (aCons (mC .non) aNil))) (aCons (mLst (aCons (mC (.bl true)) aNil)) (aCons (mC (.str "12")) (aCons (mC .non) (aCons (mTup (aCons (mC (.int 3)) (aCons (mC (.str "a")) aNil))) (aCons (m2 gMul (mLst (aCons (mC (.int 0)) aNil)) (mC (.int 5))) aNil)))))))) aNil))))
    (mSeq (mSet 12 (mIfE (mTest (mCall fIsi (aCons (mV 11) (aCons (mTup (aCons (mC (.ty "list")) (aCons (mC (.ty "tuple")) aNil))) aNil)))) (mLc (iEnumA (aCons (mV 11) aNil)) [15, 16] (gTup 2 (gsCons (gN 15) (gsCons (gN 16) gsNil))) (mNotT (mTest (mCall m__law_is_number (aCons (mV 16) aNil)))) (mV 15)) (mLst (aCons (m1 gNeg (mC (.int 1))) aNil))))
    (mSeq (mSet 13 (mIfE (mOrT (mTest (m2 gNe (mV 10) (mC (.str "told")))) (mTest (m2 gEq (mV 12) (mLst aNil)))) (mV 10) (mTup (aCons (mC (.str "input")) (aCons (m2 gIx (mV 12) (mC (.int 0))) aNil)))))
    (mSeq (mIfS (mTest (m2 gNe (mThunk m__law_found (mCall m_keeps (aCons (mV 7) (aCons (mV 11) aNil)))) (mV 13))) (mRet (mC (.bl false))) mNx)
    (mSeq (mSet 14 (mCall m__law_pick (aCons (mV 1) (aCons (mLst (aCons (mC (.int 0)) (aCons (mC (.int 1)) (aCons (mC (.int 5)) (aCons (mC (.int 200)) (aCons (mC (.int 201)) (aCons (m1 gNeg (mC (.int 1))) (aCons (mC (.bl true)) (aCons (mC .non) (aCons (mC (.str "2")) aNil)))))))))) aNil))))
    (mSeq (mSet 13 (mIfE (mOrT (mTest (m2 gNe (mV 10) (mC (.str "told")))) (mTest (mCall m__law_within (aCons (mV 14) (aCons (mC (.int 0)) (aCons (mC (.int 200)) aNil)))))) (mV 10) (mTup (aCons (mC (.str "number")) (aCons (mCall fRepr (aCons (mV 14) aNil)) aNil)))))
    (mIfS (mTest (m2 gNe (mThunk m__law_found (mCall m_numbers_for (aCons (mV 7) (aCons (mV 14) aNil)))) (mV 13))) (mRet (mC (.bl false))) mNx)))))))
theorem k21D_eq : k21D = (mSeq (mSet 11 (mCall m__law_pick (aCons (mV 1) (aCons (mLst (aCons (mLst (aCons (mC (.int 1)) (aCons (mC (.int 2)) aNil))) (aCons (mLst (aCons (mC (.int 1)) (aCons (mC .non) aNil))) (aCons (mLst (aCons (mC (.bl true)) aNil)) (aCons (mC (.str "12")) (aCons (mC .non) (aCons (mTup (aCons (mC (.int 3)) (aCons (mC (.str "a")) aNil))) (aCons (m2 gMul (mLst (aCons (mC (.int 0)) aNil)) (mC (.int 5))) aNil)))))))) aNil))))
    (mSeq (mSet 12 (mIfE (mTest (mCall fIsi (aCons (mV 11) (aCons (mTup (aCons (mC (.ty "list")) (aCons (mC (.ty "tuple")) aNil))) aNil)))) (mLc (iEnumA (aCons (mV 11) aNil)) [15, 16] (gTup 2 (gsCons (gN 15) (gsCons (gN 16) gsNil))) (mNotT (mTest (mCall m__law_is_number (aCons (mV 16) aNil)))) (mV 15)) (mLst (aCons (m1 gNeg (mC (.int 1))) aNil))))
    (mSeq (mSet 13 (mIfE (mOrT (mTest (m2 gNe (mV 10) (mC (.str "told")))) (mTest (m2 gEq (mV 12) (mLst aNil)))) (mV 10) (mTup (aCons (mC (.str "input")) (aCons (m2 gIx (mV 12) (mC (.int 0))) aNil)))))
    (mSeq (mIfS (mTest (m2 gNe (mThunk m__law_found (mCall m_keeps (aCons (mV 7) (aCons (mV 11) aNil)))) (mV 13))) (mRet (mC (.bl false))) mNx)
    (mSeq (mSet 14 (mCall m__law_pick (aCons (mV 1) (aCons (mLst (aCons (mC (.int 0)) (aCons (mC (.int 1)) (aCons (mC (.int 5)) (aCons (mC (.int 200)) (aCons (mC (.int 201)) (aCons (m1 gNeg (mC (.int 1))) (aCons (mC (.bl true)) (aCons (mC .non) (aCons (mC (.str "2")) aNil)))))))))) aNil))))
    (mSeq (mSet 13 (mIfE (mOrT (mTest (m2 gNe (mV 10) (mC (.str "told")))) (mTest (mCall m__law_within (aCons (mV 14) (aCons (mC (.int 0)) (aCons (mC (.int 200)) aNil)))))) (mV 10) (mTup (aCons (mC (.str "number")) (aCons (mCall fRepr (aCons (mV 14) aNil)) aNil)))))
    (mIfS (mTest (m2 gNe (mThunk m__law_found (mCall m_numbers_for (aCons (mV 7) (aCons (mV 14) aNil)))) (mV 13))) (mRet (mC (.bl false))) mNx))))))) := rfl
theorem k21D_ok {d : D} {o : Option Int} {N : MS → MH → Prop} {R : D → MH → Prop} {B C : MS → MH → Prop} {x0 x2 x3 x4 x5 x6 x8 x9 x11 x12 x13 x14 x15 x16 : Option D} (hp : PotOk p h) (T : Tg p h d o) (hd : d ≠ .ref p)
    (n : ∀ x11 x12 x13 x14 h1, PotOk p h1 → N [x0, some (.ref p), x2, x3, x4, x5, x6, some d, x8, x9, some (dueD o), x11, x12, x13, x14, x15, x16] h1) :
    WS (k21D [x0, some (.ref p), x2, x3, x4, x5, x6, some d, x8, x9, some (dueD o), x11, x12, x13, x14, x15, x16] h) N R B C := by
  have hpl := hp.lt
  rw [k21D_eq, ← k21F_eq]
  repeat fail
  refine wp_repL (xs := [.int 0]) at_last (by decide) (by decide) (by decide) ?_
  repeat fail
  refine pickL (hp.gr ((Gr.app _).trans ((Gr.app _).trans ((Gr.app _).trans ((Gr.app _).trans ((Gr.app _).trans (.app _))))))) (by simp; omega) (lsAt_of at_last) (by simp) (Nat.lt_of_le_of_lt (by simp : _ ≤ 7) (by decide)) fun x h1 hx hp1 f1 l1 => ?_
  have key : ∃ ws, Rw p h1 x ws ∧ x ≠ .ref p := by
    simp only [List.mem_cons, List.not_mem_nil, or_false] at hx
    have nr : ∀ k : Nat, h.length ≤ k → D.ref k ≠ .ref p := fun k hk z => by cases z; omega
    rcases hx with rfl | rfl | rfl | rfl | rfl | rfl | rfl
    · have ne := nr h.length (Nat.le_refl _)
      exact ⟨_, (Rw.ls (p := p) (rs := [.int 1, .int 2]) (at_app (at_app (at_app (at_app (at_app at_last _) _) _) _) _) (by simp) (by simp [Pl])).fr f1 ne, ne⟩
    · have ne := nr _ (show h.length ≤ (h ++ [MO.lst [D.int 1, D.int 2]]).length by simp)
      exact ⟨_, (Rw.ls (p := p) (rs := [.int 1, .non]) (at_app (at_app (at_app (at_app at_last _) _) _) _) (by simp) (by simp [Pl])).fr f1 ne, ne⟩
    · have ne := nr _ (show h.length ≤ (h ++ [MO.lst [D.int 1, D.int 2]] ++ [MO.lst [D.int 1, D.non]]).length by simp)
      exact ⟨_, (Rw.ls (p := p) (rs := [.bl true]) (at_app (at_app (at_app at_last _) _) _) (by simp) (by simp [Pl])).fr f1 ne, ne⟩
    · exact ⟨_, .no "str" (fun _ => rfl) (by decide +kernel) rfl, fun z => nomatch z⟩
    · exact ⟨_, .no "NoneType" (fun _ => rfl) (by decide +kernel) rfl, fun z => nomatch z⟩
    · exact ⟨_, .sq [.int 3, .str "a"] rfl (by simp) (by simp [Pl]) rfl, fun z => nomatch z⟩
    · have ne := nr _ (show h.length ≤ (h ++ [MO.lst [D.int 1, D.int 2]] ++ [MO.lst [D.int 1, D.non]] ++ [MO.lst [D.bl true]] ++ [MO.lst [D.int 0]]).length by simp)
      exact ⟨_, (Rw.ls (p := p) (rs := (List.replicate (5 : Int).toNat [D.int 0]).flatten) (at_app at_last _) (by decide) (by simp [Pl])).fr f1 ne, ne⟩
  have T1 : Tg p h1 d o := T.fr (((Gr.app _).trans ((Gr.app _).trans ((Gr.app _).trans ((Gr.app _).trans ((Gr.app _).trans (.app _)))))).fr.trans f1) hd
  clear hx l1 f1 T hp hpl
  obtain ⟨bs, W, hr⟩ := key
  repeat fail
  have W0 := W
  cases W with
  | sq rs e hl hp eb =>
    subst eb
    refine isis_sq e ?_
    repeat fail
    refine bad_lc (g := isN) rfl rfl e (by omega) (fun y hy h2 g2 => ((hp y hy).num h2).2) fun r h2 g2 e2 => ?_
    repeat fail
    exact k21F_ok (hp1.gr g2) (T1.fr g2.fr hd) hd hr (W0.fr g2.fr hr) e2 fun _ _ _ hp3 => n _ _ _ _ _ hp3
  | no a e ea eb =>
    subst eb
    refine wp_isis (a := a) (c := false) (e h1) (by simp only [anyT, ea.1, ea.2]) ?_
    repeat fail
    exact k21F_ok (bs := [-1]) (hp1.gr (.app _)) (T1.fr (Gr.app _).fr hd) hd hr (W0.fr (Gr.app _).fr hr) at_last fun _ _ _ hp3 => n _ _ _ _ _ hp3
noncomputable def k21C : MSt := (mSeq (mSet 8 (mAndV (mCall fIsi (aCons (mV 7) (aCons (mTup (aCons (mC (.ty "list")) (aCons (mC (.ty "tuple")) aNil))) aNil))) (m2 gLe (mCall fLen (aCons (mV 7) aNil)) (mC (.int 1000)))))
    (mSeq (mSet 9 (mIfE (mTest (mV 8)) (mLc (iEnumA (aCons (mV 7) aNil)) [15, 16] (gTup 2 (gsCons (gN 15) (gsCons (gN 16) gsNil))) (mNotT (mTest (mCall m__law_right (aCons (mV 16) aNil)))) (mV 15)) (mLst (aCons (m1 gNeg (mC (.int 1))) aNil))))
    (mSeq (mSet 10 (mIfE (mTest (m2 gEq (mV 9) (mLst aNil))) (mC (.str "told")) (mTup (aCons (mC (.str "conditions")) (aCons (m2 gIx (mV 9) (mC (.int 0))) aNil)))))
    (mSeq (mIfS (mTest (m2 gNe (mLst (aCons (mThunk m__law_found (mCall m_ring_of (aCons (mV 7) aNil))) (aCons (mThunk m__law_found (mCall m_is_ring (aCons (mV 7) (aCons (mC .non) aNil)))) aNil))) (mLst (aCons (mV 10) (aCons (mV 10) aNil))))) (mRet (mC (.bl false))) mNx)
    (mSeq (mSet 11 (mCall m__law_pick (aCons (mV 1) (aCons (mLst (aCons (mLst (aCons (mC (.int 1)) (aCons (mC (.int 2)) aNil))) (aCons (mLst (aCons (mC (.int 1)) (aCons (mC .non) aNil))) (aCons (mLst (aCons (mC (.bl true)) aNil)) (aCons (mC (.str "12")) (aCons (mC .non) (aCons (mTup (aCons (mC (.int 3)) (aCons (mC (.str "a")) aNil))) (aCons (m2 gMul (mLst (aCons (mC (.int 0)) aNil)) (mC (.int 5))) aNil)))))))) aNil))))
    (mSeq (mSet 12 (mIfE (mTest (mCall fIsi (aCons (mV 11) (aCons (mTup (aCons (mC (.ty "list")) (aCons (mC (.ty "tuple")) aNil))) aNil)))) (mLc (iEnumA (aCons (mV 11) aNil)) [15, 16] (gTup 2 (gsCons (gN 15) (gsCons (gN 16) gsNil))) (mNotT (mTest (mCall m__law_is_number (aCons (mV 16) aNil)))) (mV 15)) (mLst (aCons (m1 gNeg (mC (.int 1))) aNil))))
    (mSeq (mSet 13 (mIfE (mOrT (mTest (m2 gNe (mV 10) (mC (.str "told")))) (mTest (m2 gEq (mV 12) (mLst aNil)))) (mV 10) (mTup (aCons (mC (.str "input")) (aCons (m2 gIx (mV 12) (mC (.int 0))) aNil)))))
    (mSeq (mIfS (mTest (m2 gNe (mThunk m__law_found (mCall m_keeps (aCons (mV 7) (aCons (mV 11) aNil)))) (mV 13))) (mRet (mC (.bl false))) mNx)
    (mSeq (mSet 14 (mCall m__law_pick (aCons (mV 1) (aCons (mLst (aCons (mC (.int 0)) (aCons (mC (.int 1)) (aCons (mC (.int 5)) (aCons (mC (.int 200)) (aCons (mC (.int 201)) (aCons (m1 gNeg (mC (.int 1))) (aCons (mC (.bl true)) (aCons (mC .non) (aCons (mC (.str "2")) aNil)))))))))) aNil))))
    (mSeq (mSet 13 (mIfE (mOrT (mTest (m2 gNe (mV 10) (mC (.str "told")))) (mTest (mCall m__law_within (aCons (mV 14) (aCons (mC (.int 0)) (aCons (mC (.int 200)) aNil)))))) (mV 10) (mTup (aCons (mC (.str "number")) (aCons (mCall fRepr (aCons (mV 14) aNil)) aNil)))))
    (mIfS (mTest (m2 gNe (mThunk m__law_found (mCall m_numbers_for (aCons (mV 7) (aCons (mV 14) aNil)))) (mV 13))) (mRet (mC (.bl false))) mNx)))))))))))
theorem k21C_eq : k21C = (mSeq (mSet 8 (mAndV (mCall fIsi (aCons (mV 7) (aCons (mTup (aCons (mC (.ty "list")) (aCons (mC (.ty "tuple")) aNil))) aNil))) (m2 gLe (mCall fLen (aCons (mV 7) aNil)) (mC (.int 1000)))))
    (mSeq (mSet 9 (mIfE (mTest (mV 8)) (mLc (iEnumA (aCons (mV 7) aNil)) [15, 16] (gTup 2 (gsCons (gN 15) (gsCons (gN 16) gsNil))) (mNotT (mTest (mCall m__law_right (aCons (mV 16) aNil)))) (mV 15)) (mLst (aCons (m1 gNeg (mC (.int 1))) aNil))))
    (mSeq (mSet 10 (mIfE (mTest (m2 gEq (mV 9) (mLst aNil))) (mC (.str "told")) (mTup (aCons (mC (.str "conditions")) (aCons (m2 gIx (mV 9) (mC (.int 0))) aNil)))))
    (mSeq (mIfS (mTest (m2 gNe (mLst (aCons (mThunk m__law_found (mCall m_ring_of (aCons (mV 7) aNil))) (aCons (mThunk m__law_found (mCall m_is_ring (aCons (mV 7) (aCons (mC .non) aNil)))) aNil))) (mLst (aCons (mV 10) (aCons (mV 10) aNil))))) (mRet (mC (.bl false))) mNx)
    (mSeq (mSet 11 (mCall m__law_pick (aCons (mV 1) (aCons (mLst (aCons (mLst (aCons (mC (.int 1)) (aCons (mC (.int 2)) aNil))) (aCons (mLst (aCons (mC (.int 1)) (aCons (mC .non) aNil))) (aCons (mLst (aCons (mC (.bl true)) aNil)) (aCons (mC (.str "12")) (aCons (mC .non) (aCons (mTup (aCons (mC (.int 3)) (aCons (mC (.str "a")) aNil))) (aCons (m2 gMul (mLst (aCons (mC (.int 0)) aNil)) (mC (.int 5))) aNil)))))))) aNil))))
    (mSeq (mSet 12 (mIfE (mTest (mCall fIsi (aCons (mV 11) (aCons (mTup (aCons (mC (.ty "list")) (aCons (mC (.ty "tuple")) aNil))) aNil)))) (mLc (iEnumA (aCons (mV 11) aNil)) [15, 16] (gTup 2 (gsCons (gN 15) (gsCons (gN 16) gsNil))) (mNotT (mTest (mCall m__law_is_number (aCons (mV 16) aNil)))) (mV 15)) (mLst (aCons (m1 gNeg (mC (.int 1))) aNil))))
    (mSeq (mSet 13 (mIfE (mOrT (mTest (m2 gNe (mV 10) (mC (.str "told")))) (mTest (m2 gEq (mV 12) (mLst aNil)))) (mV 10) (mTup (aCons (mC (.str "input")) (aCons (m2 gIx (mV 12) (mC (.int 0))) aNil)))))
    (mSeq (mIfS (mTest (m2 gNe (mThunk m__law_found (mCall m_keeps (aCons (mV 7) (aCons (mV 11) aNil)))) (mV 13))) (mRet (mC (.bl false))) mNx)
    (mSeq (mSet 14 (mCall m__law_pick (aCons (mV 1) (aCons (mLst (aCons (mC (.int 0)) (aCons (mC (.int 1)) (aCons (mC (.int 5)) (aCons (mC (.int 200)) (aCons (mC (.int 201)) (aCons (m1 gNeg (mC (.int 1))) (aCons (mC (.bl true)) (aCons (mC .non) (aCons (mC (.str "2")) aNil)))))))))) aNil))))
    (mSeq (mSet 13 (mIfE (mOrT (mTest (m2 gNe (mV 10) (mC (.str "told")))) (mTest (mCall m__law_within (aCons (mV 14) (aCons (mC (.int 0)) (aCons (mC (.int 200)) aNil)))))) (mV 10) (mTup (aCons (mC (.str "number")) (aCons (mCall fRepr (aCons (mV 14) aNil)) aNil)))))
    (mIfS (mTest (m2 gNe (mThunk m__law_found (mCall m_numbers_for (aCons (mV 7) (aCons (mV 14) aNil)))) (mV 13))) (mRet (mC (.bl false))) mNx))))))))))) := rfl
/-- what is handed in, before it is looked at -/
inductive Hd (p : Nat) (h : MH) (d : D) : Prop
  | sq (ds : List D) (e : sqD h d = some ds) (hl : ds.length ≤ 1003) (ho : ∀ x ∈ ds, Od p h x)
  | none (a : String) (e : ∀ h1, Fr p h h1 → tyN h1 d = some a) (ea : isiT a "list" = some false ∧ isiT a "tuple" = some false)
theorem eqD_two {a b : Nat} {x : D} (ea : lsAt h a = some [x, x]) (eb : lsAt h b = some [x, x]) {q : PyData} (ep : pd h 64 x = some q) (hs : SeqAt.shaped (.list [q, q]) = true) : eqD h (.ref a) (.ref b) = some true := eqD_twin ea eb (by unfold mapO mapO mapO; rw [ep]) hs
theorem ne_dues {o : Option Int} {a b : Nat} (ea : lsAt h a = some [dueD o, dueD o]) (eb : lsAt h b = some [dueD o, dueD o]) (q : Q (.bl false) h) : Wp (gNe (.ref a) (.ref b) h) Q := by
  cases o with
  | none => exact wp_neA (eqD_two ea eb (q := .str "told") rfl (by decide +kernel)) q
  | some w => exact wp_neA (eqD_two ea eb (q := .tuple [.str "conditions", .int w]) rfl (by kernel_rfl)) q
noncomputable def k21G : MSt := (mSeq (mSet 10 (mIfE (mTest (m2 gEq (mV 9) (mLst aNil))) (mC (.str "told")) (mTup (aCons (mC (.str "conditions")) (aCons (m2 gIx (mV 9) (mC (.int 0))) aNil)))))
    (mSeq (mIfS (mTest (m2 gNe (mLst (aCons (mThunk m__law_found (mCall m_ring_of (aCons (mV 7) aNil))) (aCons (mThunk m__law_found (mCall m_is_ring (aCons (mV 7) (aCons (mC .non) aNil)))) aNil))) (mLst (aCons (mV 10) (aCons (mV 10) aNil))))) (mRet (mC (.bl false))) mNx)
    (mSeq (mSet 11 (mCall m__law_pick (aCons (mV 1) (aCons (mLst (aCons (mLst (aCons (mC (.int 1)) (aCons (mC (.int 2)) aNil))) (aCons (mLst (aCons (mC (.int 1)) (aCons (mC .non) aNil))) (aCons (mLst (aCons (mC (.bl true)) aNil)) (aCons (mC (.str "12")) (aCons (mC .non) (aCons (mTup (aCons (mC (.int 3)) (aCons (mC (.str "a")) aNil))) (aCons (m2 gMul (mLst (aCons (mC (.int 0)) aNil)) (mC (.int 5))) aNil)))))))) aNil))))
    (mSeq (mSet 12 (mIfE (mTest (mCall fIsi (aCons (mV 11) (aCons (mTup (aCons (mC (.ty "list")) (aCons (mC (.ty "tuple")) aNil))) aNil)))) (mLc (iEnumA (aCons (mV 11) aNil)) [15, 16] (gTup 2 (gsCons (gN 15) (gsCons (gN 16) gsNil))) (mNotT (mTest (mCall m__law_is_number (aCons (mV 16) aNil)))) (mV 15)) (mLst (aCons (m1 gNeg (mC (.int 1))) aNil))))
    (mSeq (mSet 13 (mIfE (mOrT (mTest (m2 gNe (mV 10) (mC (.str "told")))) (mTest (m2 gEq (mV 12) (mLst aNil)))) (mV 10) (mTup (aCons (mC (.str "input")) (aCons (m2 gIx (mV 12) (mC (.int 0))) aNil)))))
    (mSeq (mIfS (mTest (m2 gNe (mThunk m__law_found (mCall m_keeps (aCons (mV 7) (aCons (mV 11) aNil)))) (mV 13))) (mRet (mC (.bl false))) mNx)
    (mSeq (mSet 14 (mCall m__law_pick (aCons (mV 1) (aCons (mLst (aCons (mC (.int 0)) (aCons (mC (.int 1)) (aCons (mC (.int 5)) (aCons (mC (.int 200)) (aCons (mC (.int 201)) (aCons (m1 gNeg (mC (.int 1))) (aCons (mC (.bl true)) (aCons (mC .non) (aCons (mC (.str "2")) aNil)))))))))) aNil))))
    (mSeq (mSet 13 (mIfE (mOrT (mTest (m2 gNe (mV 10) (mC (.str "told")))) (mTest (mCall m__law_within (aCons (mV 14) (aCons (mC (.int 0)) (aCons (mC (.int 200)) aNil)))))) (mV 10) (mTup (aCons (mC (.str "number")) (aCons (mCall fRepr (aCons (mV 14) aNil)) aNil)))))
    (mIfS (mTest (m2 gNe (mThunk m__law_found (mCall m_numbers_for (aCons (mV 7) (aCons (mV 14) aNil)))) (mV 13))) (mRet (mC (.bl false))) mNx)))))))))
theorem k21G_eq : k21G = (mSeq (mSet 10 (mIfE (mTest (m2 gEq (mV 9) (mLst aNil))) (mC (.str "told")) (mTup (aCons (mC (.str "conditions")) (aCons (m2 gIx (mV 9) (mC (.int 0))) aNil)))))
    (mSeq (mIfS (mTest (m2 gNe (mLst (aCons (mThunk m__law_found (mCall m_ring_of (aCons (mV 7) aNil))) (aCons (mThunk m__law_found (mCall m_is_ring (aCons (mV 7) (aCons (mC .non) aNil)))) aNil))) (mLst (aCons (mV 10) (aCons (mV 10) aNil))))) (mRet (mC (.bl false))) mNx)
    (mSeq (mSet 11 (mCall m__law_pick (aCons (mV 1) (aCons (mLst (aCons (mLst (aCons (mC (.int 1)) (aCons (mC (.int 2)) aNil))) (aCons (mLst (aCons (mC (.int 1)) (aCons (mC .non) aNil))) (aCons (mLst (aCons (mC (.bl true)) aNil)) (aCons (mC (.str "12")) (aCons (mC .non) (aCons (mTup (aCons (mC (.int 3)) (aCons (mC (.str "a")) aNil))) (aCons (m2 gMul (mLst (aCons (mC (.int 0)) aNil)) (mC (.int 5))) aNil)))))))) aNil))))
    (mSeq (mSet 12 (mIfE (mTest (mCall fIsi (aCons (mV 11) (aCons (mTup (aCons (mC (.ty "list")) (aCons (mC (.ty "tuple")) aNil))) aNil)))) (mLc (iEnumA (aCons (mV 11) aNil)) [15, 16] (gTup 2 (gsCons (gN 15) (gsCons (gN 16) gsNil))) (mNotT (mTest (mCall m__law_is_number (aCons (mV 16) aNil)))) (mV 15)) (mLst (aCons (m1 gNeg (mC (.int 1))) aNil))))
    (mSeq (mSet 13 (mIfE (mOrT (mTest (m2 gNe (mV 10) (mC (.str "told")))) (mTest (m2 gEq (mV 12) (mLst aNil)))) (mV 10) (mTup (aCons (mC (.str "input")) (aCons (m2 gIx (mV 12) (mC (.int 0))) aNil)))))
    (mSeq (mIfS (mTest (m2 gNe (mThunk m__law_found (mCall m_keeps (aCons (mV 7) (aCons (mV 11) aNil)))) (mV 13))) (mRet (mC (.bl false))) mNx)
    (mSeq (mSet 14 (mCall m__law_pick (aCons (mV 1) (aCons (mLst (aCons (mC (.int 0)) (aCons (mC (.int 1)) (aCons (mC (.int 5)) (aCons (mC (.int 200)) (aCons (mC (.int 201)) (aCons (m1 gNeg (mC (.int 1))) (aCons (mC (.bl true)) (aCons (mC .non) (aCons (mC (.str "2")) aNil)))))))))) aNil))))
    (mSeq (mSet 13 (mIfE (mOrT (mTest (m2 gNe (mV 10) (mC (.str "told")))) (mTest (mCall m__law_within (aCons (mV 14) (aCons (mC (.int 0)) (aCons (mC (.int 200)) aNil)))))) (mV 10) (mTup (aCons (mC (.str "number")) (aCons (mCall fRepr (aCons (mV 14) aNil)) aNil)))))
    (mIfS (mTest (m2 gNe (mThunk m__law_found (mCall m_numbers_for (aCons (mV 7) (aCons (mV 14) aNil)))) (mV 13))) (mRet (mC (.bl false))) mNx))))))))) := rfl
theorem ring_part {d : D} {o : Option Int} {ms : MS} (em : ms[7]? = some (some d)) (T : Tg p h d o) (q : ∀ h1, Gr h h1 → Q (dueD o) h1) : Wp (mThunk m__law_found (mCall m_ring_of (aCons (mV 7) aNil)) ms h) Q := by
  cases T with
  | wr w ws W =>
    refine found_cond (xe_call (wp_aCons (wp_mV em (wp_aNil ?_))))
    exact (ring_wr W).mono fun c fs h2 ⟨e1, e2, e3⟩ => ⟨e1, _, e2, by subst e3; exact q _ .refl⟩
  | ok cs ec hl hc =>
    refine found_ok (wp_mCall (wp_aCons (wp_mV em (wp_aNil ?_))))
    exact ring_of_ok ec hl hc (fun H h1 _ g1 => q h1 g1) (fun s r c y h1 g1 I lp => q h1 g1)
theorem is_ring_part {d : D} {o : Option Int} {ms : MS} (em : ms[7]? = some (some d)) (T : Tg p h d o) (q : Q (dueD o) h) : Wp (mThunk m__law_found (mCall m_is_ring (aCons (mV 7) (aCons (mC .non) aNil))) ms h) Q := by
  cases T with
  | wr w ws W =>
    refine found_cond (xe_call (wp_aCons (wp_mV em (wp_aCons (wp_mC (wp_aNil ?_))))))
    exact (is_ring_wr W).mono fun c fs h2 ⟨e1, e2, e3⟩ => ⟨e1, _, e2, by subst e3; exact q⟩
  | ok cs ec hl hc =>
    refine found_ok (wp_mCall (wp_aCons (wp_mV em (wp_aCons (wp_mC (wp_aNil ?_))))))
    exact is_ring_no (a := "NoneType") ec hl hc rfl (by decide +kernel) q
theorem k21G_ok {d : D} {k : Nat} {ws : List Int} {N : MS → MH → Prop} {R : D → MH → Prop} {B C : MS → MH → Prop} {x0 x2 x3 x4 x5 x6 x8 x10 x11 x12 x13 x14 x15 x16 : Option D} (hp : PotOk p h) (T : Tg p h d ws.head?) (hd : d ≠ .ref p) (ek : h[k]? = some (.lst (ws.map D.int)))
    (n : ∀ x9 x10 x11 x12 x13 x14 h1, PotOk p h1 → N [x0, some (.ref p), x2, x3, x4, x5, x6, some d, x8, x9, x10, x11, x12, x13, x14, x15, x16] h1) :
    WS (k21G [x0, some (.ref p), x2, x3, x4, x5, x6, some d, x8, some (.ref k), x10, x11, x12, x13, x14, x15, x16] h) N R B C := by
  have hpl := hp.lt
  rw [k21G_eq, ← k21D_eq]
  repeat fail
  refine eq_nilI (at_app ek _) at_last ?_
  have g : Gr h (h ++ [.lst []]) := .app _
  have T := T.fr (p := p) g.fr hd
  have hp := hp.gr g
  have ek := at_app ek [.lst []]
  generalize h ++ [.lst []] = h at *
  cases ws with
  | nil =>
    repeat fail
    refine if_dec (fun _ => ?_) (fun z => absurd rfl z)
    repeat fail
    refine ring_part (o := none) rfl T fun h1 g1 => ?_
    repeat fail
    refine is_ring_part (o := none) rfl (T.fr (p := p) g1.fr hd) ?_
    repeat fail
    refine ne_dues (o := none) (lsAt_of (at_app at_last _)) (lsAt_of at_last) ?_
    have g1 := g1.trans ((Gr.app [MO.lst [dueD none, dueD none]]).trans (.app [MO.lst [dueD none, dueD none]]))
    repeat fail
    exact k21D_ok (o := none) (hp.gr g1) (T.fr g1.fr hd) hd fun _ _ _ _ _ hp1 => n _ _ _ _ _ _ _ hp1
  | cons w ws =>
    repeat fail
    refine if_dec (fun z => nomatch z) (fun _ => ?_)
    repeat fail
    refine wp_ixL (d := .int w) (lsAt_of ek) (int_at (i := 0) rfl) ?_
    repeat fail
    refine ring_part (o := some w) rfl T fun h1 g1 => ?_
    repeat fail
    refine is_ring_part (o := some w) rfl (T.fr (p := p) g1.fr hd) ?_
    repeat fail
    refine ne_dues (o := some w) (lsAt_of (at_app at_last _)) (lsAt_of at_last) ?_
    have g1 := g1.trans ((Gr.app [MO.lst [dueD (some w), dueD (some w)]]).trans (.app [MO.lst [dueD (some w), dueD (some w)]]))
    repeat fail
    exact k21D_ok (o := some w) (hp.gr g1) (T.fr g1.fr hd) hd fun _ _ _ _ _ hp1 => n _ _ _ _ _ _ _ hp1
theorem k21C_ok {d : D} {N : MS → MH → Prop} {R : D → MH → Prop} {B C : MS → MH → Prop} {x0 x2 x3 x4 x5 x6 x8 x9 x10 x11 x12 x13 x14 x15 x16 : Option D} (hp : PotOk p h) (T : Hd p h d) (hd : d ≠ .ref p)
    (n : ∀ x8 x9 x10 x11 x12 x13 x14 h1, PotOk p h1 → N [x0, some (.ref p), x2, x3, x4, x5, x6, some d, x8, x9, x10, x11, x12, x13, x14, x15, x16] h1) :
    WS (k21C [x0, some (.ref p), x2, x3, x4, x5, x6, some d, x8, x9, x10, x11, x12, x13, x14, x15, x16] h) N R B C := by
  have hpl := hp.lt
  rw [k21C_eq, ← k21G_eq]
  cases T with
  | none a e ea =>
    repeat fail
    refine wp_isis (a := a) (c := false) (e h .refl) (by simp only [anyT, ea.1, ea.2]) ?_
    repeat fail
    exact k21G_ok (ws := [-1]) (hp.gr (.app _)) (.wr (-1) [] (.none a (fun h2 f2 => e h2 ((Gr.app _).fr.trans f2)) ea rfl)) hd at_last fun _ _ _ _ _ _ _ hp1 => n _ _ _ _ _ _ _ _ hp1
  | sq ds e hl ho =>
    repeat fail
    refine isis_sq e ?_
    repeat fail
    refine wp_len_sq e ?_
    repeat fail
    refine if_dec (fun hle => ?_) (fun hgt => ?_)
    · repeat fail
      refine bad_lc (g := gd) rfl rfl e hl (fun y hy h2 g2 => ((ho y hy).fr g2.fr).eqs.2) fun r h2 g2 e2 => ?_
      have T : Tg p h2 d (bdl gd 0 ds).head? := by
        cases eb : bdl gd 0 ds with
        | nil =>
          obtain ⟨cs, rfl, hc⟩ := bdl_nil ds 0 eb
          exact .ok cs (g2.sq e) (by rw [List.length_map] at hle; omega) hc
        | cons w ws => exact .wr w ws (.at_ ds (g2.sq e) (by omega) (fun x hx => (ho x hx).fr g2.fr) eb)
      repeat fail
      exact k21G_ok (hp.gr g2) T hd e2 fun _ _ _ _ _ _ _ hp1 => n _ _ _ _ _ _ _ _ hp1
    · repeat fail
      exact k21G_ok (ws := [-1]) (hp.gr (.app _)) (.wr (-1) [] (.long ds ((Gr.app _).sq e) (by omega) rfl)) hd at_last fun _ _ _ _ _ _ _ hp1 => n _ _ _ _ _ _ _ _ hp1
noncomputable def k21I : MSt := (mSeq (mFor (iRange1 (aCons (mCall m__law_draw (aCons (mV 1) (aCons (mC (.int 3)) aNil))) aNil)) (gN 5) (mSeq (mSet 6 (mCall m__law_draw (aCons (mV 1) (aCons (m2 gAdd (mCall fLen (aCons (mV 3) aNil)) (mC (.int 1))) aNil))))
    (mSet 3 (m2 gAdd (m2 gAdd (mSl (mV 3) pNo (pAt (mV 6))) (mLst (aCons (mCall m__law_pick (aCons (mV 1) (aCons (mV 4) aNil))) aNil))) (mSl (mV 3) (pAt (mV 6)) pNo)))))
    (mSeq (mSet 7 (mCall m__law_pick (aCons (mV 1) (aCons (mLst (aCons (mV 3) (aCons (mV 3) (aCons (mV 3) (aCons (mCall fTuple (aCons (mV 3) aNil)) (aCons (mC .non) (aCons (mC (.str "less")) (aCons mDnew (aCons (mC (.int 5)) aNil))))))))) aNil))))
    (mSeq (mSet 8 (mAndV (mCall fIsi (aCons (mV 7) (aCons (mTup (aCons (mC (.ty "list")) (aCons (mC (.ty "tuple")) aNil))) aNil))) (m2 gLe (mCall fLen (aCons (mV 7) aNil)) (mC (.int 1000)))))
    (mSeq (mSet 9 (mIfE (mTest (mV 8)) (mLc (iEnumA (aCons (mV 7) aNil)) [15, 16] (gTup 2 (gsCons (gN 15) (gsCons (gN 16) gsNil))) (mNotT (mTest (mCall m__law_right (aCons (mV 16) aNil)))) (mV 15)) (mLst (aCons (m1 gNeg (mC (.int 1))) aNil))))
    (mSeq (mSet 10 (mIfE (mTest (m2 gEq (mV 9) (mLst aNil))) (mC (.str "told")) (mTup (aCons (mC (.str "conditions")) (aCons (m2 gIx (mV 9) (mC (.int 0))) aNil)))))
    (mSeq (mIfS (mTest (m2 gNe (mLst (aCons (mThunk m__law_found (mCall m_ring_of (aCons (mV 7) aNil))) (aCons (mThunk m__law_found (mCall m_is_ring (aCons (mV 7) (aCons (mC .non) aNil)))) aNil))) (mLst (aCons (mV 10) (aCons (mV 10) aNil))))) (mRet (mC (.bl false))) mNx)
    (mSeq (mSet 11 (mCall m__law_pick (aCons (mV 1) (aCons (mLst (aCons (mLst (aCons (mC (.int 1)) (aCons (mC (.int 2)) aNil))) (aCons (mLst (aCons (mC (.int 1)) (aCons (mC .non) aNil))) (aCons (mLst (aCons (mC (.bl true)) aNil)) (aCons (mC (.str "12")) (aCons (mC .non) (aCons (mTup (aCons (mC (.int 3)) (aCons (mC (.str "a")) aNil))) (aCons (m2 gMul (mLst (aCons (mC (.int 0)) aNil)) (mC (.int 5))) aNil)))))))) aNil))))
    (mSeq (mSet 12 (mIfE (mTest (mCall fIsi (aCons (mV 11) (aCons (mTup (aCons (mC (.ty "list")) (aCons (mC (.ty "tuple")) aNil))) aNil)))) (mLc (iEnumA (aCons (mV 11) aNil)) [15, 16] (gTup 2 (gsCons (gN 15) (gsCons (gN 16) gsNil))) (mNotT (mTest (mCall m__law_is_number (aCons (mV 16) aNil)))) (mV 15)) (mLst (aCons (m1 gNeg (mC (.int 1))) aNil))))
    (mSeq (mSet 13 (mIfE (mOrT (mTest (m2 gNe (mV 10) (mC (.str "told")))) (mTest (m2 gEq (mV 12) (mLst aNil)))) (mV 10) (mTup (aCons (mC (.str "input")) (aCons (m2 gIx (mV 12) (mC (.int 0))) aNil)))))
    (mSeq (mIfS (mTest (m2 gNe (mThunk m__law_found (mCall m_keeps (aCons (mV 7) (aCons (mV 11) aNil)))) (mV 13))) (mRet (mC (.bl false))) mNx)
    (mSeq (mSet 14 (mCall m__law_pick (aCons (mV 1) (aCons (mLst (aCons (mC (.int 0)) (aCons (mC (.int 1)) (aCons (mC (.int 5)) (aCons (mC (.int 200)) (aCons (mC (.int 201)) (aCons (m1 gNeg (mC (.int 1))) (aCons (mC (.bl true)) (aCons (mC .non) (aCons (mC (.str "2")) aNil)))))))))) aNil))))
    (mSeq (mSet 13 (mIfE (mOrT (mTest (m2 gNe (mV 10) (mC (.str "told")))) (mTest (mCall m__law_within (aCons (mV 14) (aCons (mC (.int 0)) (aCons (mC (.int 200)) aNil)))))) (mV 10) (mTup (aCons (mC (.str "number")) (aCons (mCall fRepr (aCons (mV 14) aNil)) aNil)))))
    (mIfS (mTest (m2 gNe (mThunk m__law_found (mCall m_numbers_for (aCons (mV 7) (aCons (mV 14) aNil)))) (mV 13))) (mRet (mC (.bl false))) mNx)))))))))))))
theorem k21I_eq : k21I = (mSeq (mFor (iRange1 (aCons (mCall m__law_draw (aCons (mV 1) (aCons (mC (.int 3)) aNil))) aNil)) (gN 5) (mSeq (mSet 6 (mCall m__law_draw (aCons (mV 1) (aCons (m2 gAdd (mCall fLen (aCons (mV 3) aNil)) (mC (.int 1))) aNil))))
    (mSet 3 (m2 gAdd (m2 gAdd (mSl (mV 3) pNo (pAt (mV 6))) (mLst (aCons (mCall m__law_pick (aCons (mV 1) (aCons (mV 4) aNil))) aNil))) (mSl (mV 3) (pAt (mV 6)) pNo)))))
    (mSeq (mSet 7 (mCall m__law_pick (aCons (mV 1) (aCons (mLst (aCons (mV 3) (aCons (mV 3) (aCons (mV 3) (aCons (mCall fTuple (aCons (mV 3) aNil)) (aCons (mC .non) (aCons (mC (.str "less")) (aCons mDnew (aCons (mC (.int 5)) aNil))))))))) aNil))))
    (mSeq (mSet 8 (mAndV (mCall fIsi (aCons (mV 7) (aCons (mTup (aCons (mC (.ty "list")) (aCons (mC (.ty "tuple")) aNil))) aNil))) (m2 gLe (mCall fLen (aCons (mV 7) aNil)) (mC (.int 1000)))))
    (mSeq (mSet 9 (mIfE (mTest (mV 8)) (mLc (iEnumA (aCons (mV 7) aNil)) [15, 16] (gTup 2 (gsCons (gN 15) (gsCons (gN 16) gsNil))) (mNotT (mTest (mCall m__law_right (aCons (mV 16) aNil)))) (mV 15)) (mLst (aCons (m1 gNeg (mC (.int 1))) aNil))))
    (mSeq (mSet 10 (mIfE (mTest (m2 gEq (mV 9) (mLst aNil))) (mC (.str "told")) (mTup (aCons (mC (.str "conditions")) (aCons (m2 gIx (mV 9) (mC (.int 0))) aNil)))))
    (mSeq (mIfS (mTest (m2 gNe (mLst (aCons (mThunk m__law_found (mCall m_ring_of (aCons (mV 7) aNil))) (aCons (mThunk m__law_found (mCall m_is_ring (aCons (mV 7) (aCons (mC .non) aNil)))) aNil))) (mLst (aCons (mV 10) (aCons (mV 10) aNil))))) (mRet (mC (.bl false))) mNx)
    (mSeq (mSet 11 (mCall m__law_pick (aCons (mV 1) (aCons (mLst (aCons (mLst (aCons (mC (.int 1)) (aCons (mC (.int 2)) aNil))) (aCons (mLst (aCons (mC (.int 1)) (aCons (mC .non) aNil))) (aCons (mLst (aCons (mC (.bl true)) aNil)) (aCons (mC (.str "12")) (aCons (mC .non) (aCons (mTup (aCons (mC (.int 3)) (aCons (mC (.str "a")) aNil))) (aCons (m2 gMul (mLst (aCons (mC (.int 0)) aNil)) (mC (.int 5))) aNil)))))))) aNil))))
    (mSeq (mSet 12 (mIfE (mTest (mCall fIsi (aCons (mV 11) (aCons (mTup (aCons (mC (.ty "list")) (aCons (mC (.ty "tuple")) aNil))) aNil)))) (mLc (iEnumA (aCons (mV 11) aNil)) [15, 16] (gTup 2 (gsCons (gN 15) (gsCons (gN 16) gsNil))) (mNotT (mTest (mCall m__law_is_number (aCons (mV 16) aNil)))) (mV 15)) (mLst (aCons (m1 gNeg (mC (.int 1))) aNil))))
    (mSeq (mSet 13 (mIfE (mOrT (mTest (m2 gNe (mV 10) (mC (.str "told")))) (mTest (m2 gEq (mV 12) (mLst aNil)))) (mV 10) (mTup (aCons (mC (.str "input")) (aCons (m2 gIx (mV 12) (mC (.int 0))) aNil)))))
    (mSeq (mIfS (mTest (m2 gNe (mThunk m__law_found (mCall m_keeps (aCons (mV 7) (aCons (mV 11) aNil)))) (mV 13))) (mRet (mC (.bl false))) mNx)
    (mSeq (mSet 14 (mCall m__law_pick (aCons (mV 1) (aCons (mLst (aCons (mC (.int 0)) (aCons (mC (.int 1)) (aCons (mC (.int 5)) (aCons (mC (.int 200)) (aCons (mC (.int 201)) (aCons (m1 gNeg (mC (.int 1))) (aCons (mC (.bl true)) (aCons (mC .non) (aCons (mC (.str "2")) aNil)))))))))) aNil))))
    (mSeq (mSet 13 (mIfE (mOrT (mTest (m2 gNe (mV 10) (mC (.str "told")))) (mTest (mCall m__law_within (aCons (mV 14) (aCons (mC (.int 0)) (aCons (mC (.int 200)) aNil)))))) (mV 10) (mTup (aCons (mC (.str "number")) (aCons (mCall fRepr (aCons (mV 14) aNil)) aNil)))))
    (mIfS (mTest (m2 gNe (mThunk m__law_found (mCall m_numbers_for (aCons (mV 7) (aCons (mV 14) aNil)))) (mV 13))) (mRet (mC (.bl false))) mNx))))))))))))) := rfl
theorem k21I_ok {rc ro : Nat} {ds os : List D} {N : MS → MH → Prop} {R : D → MH → Prop} {B C : MS → MH → Prop} {x0 x2 x5 x6 x7 x8 x9 x10 x11 x12 x13 x14 x15 x16 : Option D} (hp : PotOk p h) (hc : rc ≠ p) (ho : ro ≠ p) (ec : h[rc]? = some (.lst ds)) (eo : h[ro]? = some (.lst os)) (hd : ∀ x ∈ ds, Od p h x) (hos : ∀ x ∈ os, Od p h x) (hl : ds.length ≤ 1001) (ol : 0 < os.length) (ol2 : os.length ≤ 100)
    (n : ∀ x3 x5 x6 x7 x8 x9 x10 x11 x12 x13 x14 h1, PotOk p h1 → N [x0, some (.ref p), x2, x3, some (.ref ro), x5, x6, x7, x8, x9, x10, x11, x12, x13, x14, x15, x16] h1) :
    WS (k21I [x0, some (.ref p), x2, some (.ref rc), some (.ref ro), x5, x6, x7, x8, x9, x10, x11, x12, x13, x14, x15, x16] h) N R B C := by
  have hpl := hp.lt
  rw [k21I_eq, ← k21C_eq]
  refine ws_seq (ws_for (fun done rest ms h1 => ∃ (rc : Nat) (ds : List D) (x5 x6 : Option D), ms = [x0, some (.ref p), x2, some (.ref rc), some (.ref ro), x5, x6, x7, x8, x9, x10, x11, x12, x13, x14, x15, x16] ∧ PotOk p h1 ∧ Fr p h h1 ∧ rc ≠ p ∧ h1[rc]? = some (.lst ds) ∧ (∀ x ∈ ds, Od p h1 x) ∧ ds.length + rest.length ≤ 1003) (wp_iR1 ?_))
  repeat fail
  refine draw hp (by decide) fun v h1 v0 v1 _ hp1 f1 l1 => ?_
  have v1 := v1 (by decide)
  repeat fail
  refine ⟨by omega, by omega, ⟨rc, ds, x5, x6, rfl, hp1, f1, hc, f1.at hc ec, fun x hx => (hd x hx).fr f1, by rw [rng_len]; omega⟩, ?_, ?_⟩
  · rintro done d rest ms h2 ⟨rc, ds, x5, x6, rfl, hp2, f2, hc, ec, hd, hl⟩
    refine ⟨trivial, ?_⟩
    repeat fail
    refine draw hp2 (Nat.lt_of_le_of_lt (by omega : ((ds.length : Int) + 1).natAbs ≤ 1004) (by decide)) fun w h3 w0 w1 _ hp3 f3 l3 => ?_
    have w1 := w1 (by omega)
    obtain ⟨k, rfl⟩ : ∃ k : Nat, w = k := ⟨w.toNat, by omega⟩
    have ec3 := f3.at hc ec
    have eo3 := (f2.trans f3).at ho eo
    have hl3 := hp3.lt
    repeat fail
    refine wp_slL (lsAt_of ec3) ?_
    rw [cut_to]
    repeat fail
    refine pickL (hp3.gr (.app _)) ho (lsAt_of (at_app eo3 _)) ol (Nat.lt_of_le_of_lt ol2 (by decide)) fun x h4 hx hp4 f4 l4 => ?_
    have ne3 : h3.length ≠ p := by omega
    have e4 := f4.at ne3 at_last
    have ec4 := f4.at hc (at_app ec3 _)
    have hl4 := hp4.lt
    repeat fail
    have lt1 : (ds.take k).length + [x].length ≤ sizeLine := Nat.le_trans (show _ ≤ 2000 by rw [List.length_take, List.length_singleton]; omega) (by rw [sizeLine_eq]; omega)
    refine wp_catL (at_app e4 _) at_last lt1 ?_
    repeat fail
    refine wp_slL (lsAt_of (at_app (at_app ec4 _) _)) ?_
    rw [cut_from]
    repeat fail
    have lt2 : (ds.take k ++ [x]).length + (ds.drop k).length ≤ sizeLine := Nat.le_trans (show _ ≤ 2000 by rw [List.length_append, List.length_take, List.length_singleton, List.length_drop]; omega) (by rw [sizeLine_eq]; omega)
    refine wp_catL (at_app at_last _) at_last lt2 ?_
    have g4 : Gr h4 (h4 ++ [MO.lst [x]] ++ [MO.lst (ds.take k ++ [x])] ++ [MO.lst (ds.drop k)] ++ [MO.lst (ds.take k ++ [x] ++ ds.drop k)]) := (Gr.app _).trans ((Gr.app _).trans ((Gr.app _).trans (.app _)))
    have f5 : Fr p h2 _ := f3.trans ((Gr.app [MO.lst (ds.take k)]).fr.trans (f4.trans g4.fr))
    repeat fail
    refine ⟨_, _, _, _, rfl, hp4.gr g4, f2.trans f5, by simp; omega, at_last, fun y hy => ?_, ?_⟩
    · rcases List.mem_append.mp hy with hy | hy
      · rcases List.mem_append.mp hy with hy | hy
        · exact (hd y (List.mem_of_mem_take hy)).fr f5
        · rw [List.mem_singleton.mp hy]
          exact (hos x hx).fr (f2.trans f5)
      · exact (hd y (List.mem_of_mem_drop hy)).fr f5
    · rw [List.length_cons] at hl
      rw [List.length_append, List.length_append, List.length_take, List.length_singleton, List.length_drop]
      omega
  · rintro done ms h2 ⟨rc, ds, x5, x6, rfl, hp2, f2, hc, ec, hd, hl⟩
    refine ⟨trivial, ?_⟩
    have hl2 := hp2.lt
    repeat fail
    refine wp_tupleL (lsAt_of ec) ?_
    repeat fail
    refine pickL (hp2.gr ((Gr.app _).trans (.app _))) (by simp; omega) (lsAt_of at_last) (by simp) (Nat.lt_of_le_of_lt (by simp : _ ≤ 8) (by decide)) fun x h3 hx hp3 f3 l3 => ?_
    have f23 := (((Gr.app [MO.dic []]).trans (.app _)).fr (p := p)).trans f3
    have key : Hd p h3 x ∧ x ≠ .ref p := by
      simp only [List.mem_cons, List.not_mem_nil, or_false] at hx
      have hrc : D.ref rc ≠ .ref p := fun z => hc (by cases z; rfl)
      have hd3 : ∀ x ∈ ds, Od p h3 x := fun x hx => (hd x hx).fr f23
      rw [List.length_nil] at hl
      rcases hx with rfl | rfl | rfl | rfl | rfl | rfl | rfl | rfl
      · exact ⟨.sq ds (lsAt_of (f23.at hc ec)) (by omega) hd3, hrc⟩
      · exact ⟨.sq ds (lsAt_of (f23.at hc ec)) (by omega) hd3, hrc⟩
      · exact ⟨.sq ds (lsAt_of (f23.at hc ec)) (by omega) hd3, hrc⟩
      · exact ⟨.sq ds rfl (by omega) hd3, fun z => nomatch z⟩
      · exact ⟨.none "NoneType" (fun _ _ => rfl) (by decide +kernel), fun z => nomatch z⟩
      · exact ⟨.none "str" (fun _ _ => rfl) (by decide +kernel), fun z => nomatch z⟩
      · have ne : h2.length ≠ p := by omega
        have e3 : h3[h2.length]? = some (.dic []) := f3.at ne (at_app at_last _)
        exact ⟨.none "dict" (fun h4 f4 => ty_dc (dcAt_of (f4.at ne e3))) (by decide +kernel), fun z => ne (by cases z; rfl)⟩
      · exact ⟨.none "int" (fun _ _ => rfl) (by decide +kernel), fun z => nomatch z⟩
    repeat fail
    exact k21C_ok hp3 key.1 key.2 fun _ _ _ _ _ _ _ _ hp1 => n _ _ _ _ _ _ _ _ _ _ _ _ hp1
noncomputable def k21H : MSt := (mSeq (mSet 4 (mLst (aCons (mC .non) (aCons (mTup (aCons (mC (.str "less")) (aCons (mC (.int 1)) aNil))) (aCons (mTup (aCons (mC (.str "less")) (aCons (mC (.int 1)) (aCons (mC (.int 2)) (aCons (mC (.int 3)) aNil))))) (aCons (mLst (aCons (mC (.str "less")) (aCons (mC (.int 1)) (aCons (mC (.int 2)) aNil)))) (aCons (mTup (aCons (mC (.str "more")) (aCons (mC (.int 1)) (aCons (mC (.int 2)) aNil)))) (aCons (mTup (aCons (mC (.str "less")) (aCons (mC (.bl true)) (aCons (mC (.int 2)) aNil)))) (aCons (mTup (aCons (mC (.str "same")) (aCons (mC (.int 1)) (aCons (mC (.str "a")) aNil)))) aNil)))))))))
    (mSeq (mSet 4 (m2 gAdd (mV 4) (mLst (aCons (mTup (aCons (mC (.str "less")) (aCons (mTup (aCons (mC (.str "input")) (aCons (mC (.int 200)) aNil))) (aCons (mC (.int 1)) aNil)))) (aCons (mTup (aCons (mC (.str "less")) (aCons (mTup (aCons (mC (.str "input")) (aCons (m1 gNeg (mC (.int 1))) aNil))) (aCons (mC (.int 1)) aNil)))) (aCons (mTup (aCons (mC (.str "same")) (aCons (mTup (aCons (mC (.str "input")) (aCons (mC (.bl true)) aNil))) (aCons (mC (.int 1)) aNil)))) (aCons (mTup (aCons (mC (.int 1)) (aCons (mC (.int 2)) (aCons (mC (.int 3)) aNil)))) aNil)))))))
    (mSeq (mSet 4 (m2 gAdd (mV 4) (mLst (aCons (mTup (aCons (mC (.str "less")) (aCons (mTup (aCons (mC (.str "output")) (aCons (mC (.int 1)) aNil))) (aCons (mC (.int 1)) aNil)))) (aCons (mTup (aCons (mC (.str "less")) (aCons (mLst (aCons (mC (.str "input")) (aCons (mC (.int 1)) aNil))) (aCons (mC (.int 1)) aNil)))) (aCons (mTup (aCons (mC (.str "same")) (aCons (mTup (aCons (mC (.str "input")) (aCons (mC (.int 199)) aNil))) (aCons (m2 gPow (mC (.int 10)) (mC (.int 39))) aNil)))) aNil))))))
    (mSeq (mFor (iRange1 (aCons (mCall m__law_draw (aCons (mV 1) (aCons (mC (.int 3)) aNil))) aNil)) (gN 5) (mSeq (mSet 6 (mCall m__law_draw (aCons (mV 1) (aCons (m2 gAdd (mCall fLen (aCons (mV 3) aNil)) (mC (.int 1))) aNil))))
    (mSet 3 (m2 gAdd (m2 gAdd (mSl (mV 3) pNo (pAt (mV 6))) (mLst (aCons (mCall m__law_pick (aCons (mV 1) (aCons (mV 4) aNil))) aNil))) (mSl (mV 3) (pAt (mV 6)) pNo)))))
    (mSeq (mSet 7 (mCall m__law_pick (aCons (mV 1) (aCons (mLst (aCons (mV 3) (aCons (mV 3) (aCons (mV 3) (aCons (mCall fTuple (aCons (mV 3) aNil)) (aCons (mC .non) (aCons (mC (.str "less")) (aCons mDnew (aCons (mC (.int 5)) aNil))))))))) aNil))))
    (mSeq (mSet 8 (mAndV (mCall fIsi (aCons (mV 7) (aCons (mTup (aCons (mC (.ty "list")) (aCons (mC (.ty "tuple")) aNil))) aNil))) (m2 gLe (mCall fLen (aCons (mV 7) aNil)) (mC (.int 1000)))))
    (mSeq (mSet 9 (mIfE (mTest (mV 8)) (mLc (iEnumA (aCons (mV 7) aNil)) [15, 16] (gTup 2 (gsCons (gN 15) (gsCons (gN 16) gsNil))) (mNotT (mTest (mCall m__law_right (aCons (mV 16) aNil)))) (mV 15)) (mLst (aCons (m1 gNeg (mC (.int 1))) aNil))))
    (mSeq (mSet 10 (mIfE (mTest (m2 gEq (mV 9) (mLst aNil))) (mC (.str "told")) (mTup (aCons (mC (.str "conditions")) (aCons (m2 gIx (mV 9) (mC (.int 0))) aNil)))))
    (mSeq (mIfS (mTest (m2 gNe (mLst (aCons (mThunk m__law_found (mCall m_ring_of (aCons (mV 7) aNil))) (aCons (mThunk m__law_found (mCall m_is_ring (aCons (mV 7) (aCons (mC .non) aNil)))) aNil))) (mLst (aCons (mV 10) (aCons (mV 10) aNil))))) (mRet (mC (.bl false))) mNx)
    (mSeq (mSet 11 (mCall m__law_pick (aCons (mV 1) (aCons (mLst (aCons (mLst (aCons (mC (.int 1)) (aCons (mC (.int 2)) aNil))) (aCons (mLst (aCons (mC (.int 1)) (aCons (mC .non) aNil))) (aCons (mLst (aCons (mC (.bl true)) aNil)) (aCons (mC (.str "12")) (aCons (mC .non) (aCons (mTup (aCons (mC (.int 3)) (aCons (mC (.str "a")) aNil))) (aCons (m2 gMul (mLst (aCons (mC (.int 0)) aNil)) (mC (.int 5))) aNil)))))))) aNil))))
    (mSeq (mSet 12 (mIfE (mTest (mCall fIsi (aCons (mV 11) (aCons (mTup (aCons (mC (.ty "list")) (aCons (mC (.ty "tuple")) aNil))) aNil)))) (mLc (iEnumA (aCons (mV 11) aNil)) [15, 16] (gTup 2 (gsCons (gN 15) (gsCons (gN 16) gsNil))) (mNotT (mTest (mCall m__law_is_number (aCons (mV 16) aNil)))) (mV 15)) (mLst (aCons (m1 gNeg (mC (.int 1))) aNil))))
    (mSeq (mSet 13 (mIfE (mOrT (mTest (m2 gNe (mV 10) (mC (.str "told")))) (mTest (m2 gEq (mV 12) (mLst aNil)))) (mV 10) (mTup (aCons (mC (.str "input")) (aCons (m2 gIx (mV 12) (mC (.int 0))) aNil)))))
    (mSeq (mIfS (mTest (m2 gNe (mThunk m__law_found (mCall m_keeps (aCons (mV 7) (aCons (mV 11) aNil)))) (mV 13))) (mRet (mC (.bl false))) mNx)
    (mSeq (mSet 14 (mCall m__law_pick (aCons (mV 1) (aCons (mLst (aCons (mC (.int 0)) (aCons (mC (.int 1)) (aCons (mC (.int 5)) (aCons (mC (.int 200)) (aCons (mC (.int 201)) (aCons (m1 gNeg (mC (.int 1))) (aCons (mC (.bl true)) (aCons (mC .non) (aCons (mC (.str "2")) aNil)))))))))) aNil))))
    (mSeq (mSet 13 (mIfE (mOrT (mTest (m2 gNe (mV 10) (mC (.str "told")))) (mTest (mCall m__law_within (aCons (mV 14) (aCons (mC (.int 0)) (aCons (mC (.int 200)) aNil)))))) (mV 10) (mTup (aCons (mC (.str "number")) (aCons (mCall fRepr (aCons (mV 14) aNil)) aNil)))))
    (mIfS (mTest (m2 gNe (mThunk m__law_found (mCall m_numbers_for (aCons (mV 7) (aCons (mV 14) aNil)))) (mV 13))) (mRet (mC (.bl false))) mNx))))))))))))))))
theorem k21H_eq : k21H = (mSeq (mSet 4 (mLst (aCons (mC .non) (aCons (mTup (aCons (mC (.str "less")) (aCons (mC (.int 1)) aNil))) (aCons (mTup (aCons (mC (.str "less")) (aCons (mC (.int 1)) (aCons (mC (.int 2)) (aCons (mC (.int 3)) aNil))))) (aCons (mLst (aCons (mC (.str "less")) (aCons (mC (.int 1)) (aCons (mC (.int 2)) aNil)))) (aCons (mTup (aCons (mC (.str "more")) (aCons (mC (.int 1)) (aCons (mC (.int 2)) aNil)))) (aCons (mTup (aCons (mC (.str "less")) (aCons (mC (.bl true)) (aCons (mC (.int 2)) aNil)))) (aCons (mTup (aCons (mC (.str "same")) (aCons (mC (.int 1)) (aCons (mC (.str "a")) aNil)))) aNil)))))))))
    (mSeq (mSet 4 (m2 gAdd (mV 4) (mLst (aCons (mTup (aCons (mC (.str "less")) (aCons (mTup (aCons (mC (.str "input")) (aCons (mC (.int 200)) aNil))) (aCons (mC (.int 1)) aNil)))) (aCons (mTup (aCons (mC (.str "less")) (aCons (mTup (aCons (mC (.str "input")) (aCons (m1 gNeg (mC (.int 1))) aNil))) (aCons (mC (.int 1)) aNil)))) (aCons (mTup (aCons (mC (.str "same")) (aCons (mTup (aCons (mC (.str "input")) (aCons (mC (.bl true)) aNil))) (aCons (mC (.int 1)) aNil)))) (aCons (mTup (aCons (mC (.int 1)) (aCons (mC (.int 2)) (aCons (mC (.int 3)) aNil)))) aNil)))))))
    (mSeq (mSet 4 (m2 gAdd (mV 4) (mLst (aCons (mTup (aCons (mC (.str "less")) (aCons (mTup (aCons (mC (.str "output")) (aCons (mC (.int 1)) aNil))) (aCons (mC (.int 1)) aNil)))) (aCons (mTup (aCons (mC (.str "less")) (aCons (mLst (aCons (mC (.str "input")) (aCons (mC (.int 1)) aNil))) (aCons (mC (.int 1)) aNil)))) (aCons (mTup (aCons (mC (.str "same")) (aCons (mTup (aCons (mC (.str "input")) (aCons (mC (.int 199)) aNil))) (aCons (m2 gPow (mC (.int 10)) (mC (.int 39))) aNil)))) aNil))))))
    (mSeq (mFor (iRange1 (aCons (mCall m__law_draw (aCons (mV 1) (aCons (mC (.int 3)) aNil))) aNil)) (gN 5) (mSeq (mSet 6 (mCall m__law_draw (aCons (mV 1) (aCons (m2 gAdd (mCall fLen (aCons (mV 3) aNil)) (mC (.int 1))) aNil))))
    (mSet 3 (m2 gAdd (m2 gAdd (mSl (mV 3) pNo (pAt (mV 6))) (mLst (aCons (mCall m__law_pick (aCons (mV 1) (aCons (mV 4) aNil))) aNil))) (mSl (mV 3) (pAt (mV 6)) pNo)))))
    (mSeq (mSet 7 (mCall m__law_pick (aCons (mV 1) (aCons (mLst (aCons (mV 3) (aCons (mV 3) (aCons (mV 3) (aCons (mCall fTuple (aCons (mV 3) aNil)) (aCons (mC .non) (aCons (mC (.str "less")) (aCons mDnew (aCons (mC (.int 5)) aNil))))))))) aNil))))
    (mSeq (mSet 8 (mAndV (mCall fIsi (aCons (mV 7) (aCons (mTup (aCons (mC (.ty "list")) (aCons (mC (.ty "tuple")) aNil))) aNil))) (m2 gLe (mCall fLen (aCons (mV 7) aNil)) (mC (.int 1000)))))
    (mSeq (mSet 9 (mIfE (mTest (mV 8)) (mLc (iEnumA (aCons (mV 7) aNil)) [15, 16] (gTup 2 (gsCons (gN 15) (gsCons (gN 16) gsNil))) (mNotT (mTest (mCall m__law_right (aCons (mV 16) aNil)))) (mV 15)) (mLst (aCons (m1 gNeg (mC (.int 1))) aNil))))
    (mSeq (mSet 10 (mIfE (mTest (m2 gEq (mV 9) (mLst aNil))) (mC (.str "told")) (mTup (aCons (mC (.str "conditions")) (aCons (m2 gIx (mV 9) (mC (.int 0))) aNil)))))
    (mSeq (mIfS (mTest (m2 gNe (mLst (aCons (mThunk m__law_found (mCall m_ring_of (aCons (mV 7) aNil))) (aCons (mThunk m__law_found (mCall m_is_ring (aCons (mV 7) (aCons (mC .non) aNil)))) aNil))) (mLst (aCons (mV 10) (aCons (mV 10) aNil))))) (mRet (mC (.bl false))) mNx)
    (mSeq (mSet 11 (mCall m__law_pick (aCons (mV 1) (aCons (mLst (aCons (mLst (aCons (mC (.int 1)) (aCons (mC (.int 2)) aNil))) (aCons (mLst (aCons (mC (.int 1)) (aCons (mC .non) aNil))) (aCons (mLst (aCons (mC (.bl true)) aNil)) (aCons (mC (.str "12")) (aCons (mC .non) (aCons (mTup (aCons (mC (.int 3)) (aCons (mC (.str "a")) aNil))) (aCons (m2 gMul (mLst (aCons (mC (.int 0)) aNil)) (mC (.int 5))) aNil)))))))) aNil))))
    (mSeq (mSet 12 (mIfE (mTest (mCall fIsi (aCons (mV 11) (aCons (mTup (aCons (mC (.ty "list")) (aCons (mC (.ty "tuple")) aNil))) aNil)))) (mLc (iEnumA (aCons (mV 11) aNil)) [15, 16] (gTup 2 (gsCons (gN 15) (gsCons (gN 16) gsNil))) (mNotT (mTest (mCall m__law_is_number (aCons (mV 16) aNil)))) (mV 15)) (mLst (aCons (m1 gNeg (mC (.int 1))) aNil))))
    (mSeq (mSet 13 (mIfE (mOrT (mTest (m2 gNe (mV 10) (mC (.str "told")))) (mTest (m2 gEq (mV 12) (mLst aNil)))) (mV 10) (mTup (aCons (mC (.str "input")) (aCons (m2 gIx (mV 12) (mC (.int 0))) aNil)))))
    (mSeq (mIfS (mTest (m2 gNe (mThunk m__law_found (mCall m_keeps (aCons (mV 7) (aCons (mV 11) aNil)))) (mV 13))) (mRet (mC (.bl false))) mNx)
    (mSeq (mSet 14 (mCall m__law_pick (aCons (mV 1) (aCons (mLst (aCons (mC (.int 0)) (aCons (mC (.int 1)) (aCons (mC (.int 5)) (aCons (mC (.int 200)) (aCons (mC (.int 201)) (aCons (m1 gNeg (mC (.int 1))) (aCons (mC (.bl true)) (aCons (mC .non) (aCons (mC (.str "2")) aNil)))))))))) aNil))))
    (mSeq (mSet 13 (mIfE (mOrT (mTest (m2 gNe (mV 10) (mC (.str "told")))) (mTest (mCall m__law_within (aCons (mV 14) (aCons (mC (.int 0)) (aCons (mC (.int 200)) aNil)))))) (mV 10) (mTup (aCons (mC (.str "number")) (aCons (mCall fRepr (aCons (mV 14) aNil)) aNil)))))
    (mIfS (mTest (m2 gNe (mThunk m__law_found (mCall m_numbers_for (aCons (mV 7) (aCons (mV 14) aNil)))) (mV 13))) (mRet (mC (.bl false))) mNx)))))))))))))))) := rfl
theorem k21H_ok {rc : Nat} {ds : List D} {N : MS → MH → Prop} {R : D → MH → Prop} {B C : MS → MH → Prop} {x0 x2 x4 x5 x6 x7 x8 x9 x10 x11 x12 x13 x14 x15 x16 : Option D} (hp : PotOk p h) (hc : rc ≠ p) (ec : h[rc]? = some (.lst ds)) (hd : ∀ x ∈ ds, Od p h x) (hl : ds.length ≤ 1001)
    (n : ∀ x3 x4 x5 x6 x7 x8 x9 x10 x11 x12 x13 x14 h1, PotOk p h1 → N [x0, some (.ref p), x2, x3, x4, x5, x6, x7, x8, x9, x10, x11, x12, x13, x14, x15, x16] h1) :
    WS (k21H [x0, some (.ref p), x2, some (.ref rc), x4, x5, x6, x7, x8, x9, x10, x11, x12, x13, x14, x15, x16] h) N R B C := by
  have hpl := hp.lt
  rw [k21H_eq, ← k21I_eq]
  repeat fail
  refine wp_catL (at_app at_last _) at_last (Nat.le_trans (by simp : _ ≤ 20) (by rw [sizeLine_eq]; omega)) ?_
  repeat fail
  refine wp_catL (at_app (at_app at_last _) _) at_last (Nat.le_trans (by simp : _ ≤ 20) (by rw [sizeLine_eq]; omega)) ?_
  have e0 : ∀ l1 l2 l3 l4 l5 l6 : MO, (h ++ [MO.lst [D.str "less", D.int 1, D.int 2]] ++ [l1] ++ [l2] ++ [l3] ++ [l4] ++ [l5] ++ [l6])[h.length]? = some (.lst [D.str "less", D.int 1, D.int 2]) := fun l1 l2 l3 l4 l5 l6 => at_app (at_app (at_app (at_app (at_app (at_app at_last _) _) _) _) _) _
  have e1 : ∀ (l0 l1 l2 l3 l5 l6 : MO), (h ++ [l0] ++ [l1] ++ [l2] ++ [l3] ++ [MO.lst [D.str "input", D.int 1]] ++ [l5] ++ [l6])[(h ++ [l0] ++ [l1] ++ [l2] ++ [l3]).length]? = some (.lst [D.str "input", D.int 1]) := fun l0 l1 l2 l3 l5 l6 => at_app (at_app at_last _) _
  repeat fail
  have e2 : ∀ (l0 l1 l2 l3 l5 : MO) (L : List D), (h ++ [l0] ++ [l1] ++ [l2] ++ [l3] ++ [MO.lst [D.str "input", D.int 1]] ++ [l5] ++ [MO.lst L])[(h ++ [l0] ++ [l1] ++ [l2] ++ [l3] ++ [MO.lst [D.str "input", D.int 1]] ++ [l5]).length]? = some (.lst L) := fun _ _ _ _ _ _ => at_last
  have g : ∀ l0 l1 l2 l3 l4 l5 l6 : MO, Gr h (h ++ [l0] ++ [l1] ++ [l2] ++ [l3] ++ [l4] ++ [l5] ++ [l6]) := fun _ _ _ _ _ _ _ => (Gr.app _).trans ((Gr.app _).trans ((Gr.app _).trans ((Gr.app _).trans ((Gr.app _).trans ((Gr.app _).trans (.app _))))))
  refine k21I_ok (hp.gr (g _ _ _ _ _ _ _)) hc (by simp; omega) (g _ _ _ _ _ _ _ _ _ ec) (e2 _ _ _ _ _ _) (fun x hx => (hd x hx).fr (g _ _ _ _ _ _ _).fr) (fun x hx => ?_) hl (by simp) (by simp) fun _ _ _ _ _ _ _ _ _ _ _ _ hp1 => n _ _ _ _ _ _ _ _ _ _ _ _ _ hp1
  have h0 : h.length ≠ p := by omega
  simp only [List.cons_append, List.nil_append, List.mem_cons, List.not_mem_nil, or_false] at hx
  rcases hx with rfl | rfl | rfl | rfl | rfl | rfl | rfl | rfl | rfl | rfl | rfl | rfl | rfl | rfl
  · exact .lit _ (by simp [lits])
  · exact .lit _ (by simp [lits])
  · exact .lit _ (by simp [lits])
  · exact .lst _ _ h0 (lsAt_of (e0 _ _ _ _ _ _))
  · exact .lit _ (by simp [lits])
  · exact .lit _ (by simp [lits])
  · exact .lit _ (by simp [lits])
  · exact .lit _ (by simp [lits])
  · exact .lit _ (by simp [lits])
  · exact .lit _ (by simp [lits])
  · exact .lit _ (by simp [lits])
  · exact .lit _ (by simp [lits])
  · exact .itl _ _ (by simp; omega) (lsAt_of (e1 _ _ _ _ _ _))
  · exact .good ⟨false, .inp 199, .num (10 ^ (39 : Int).toNat)⟩ ⟨(show 199 < 200 by omega), trivial⟩
theorem chain_ok {ms : MS} {a0 a1 a2 a3 a4 a5 a6 a7 a8 a9 a10 a11 a12 a13 a14 a15 a16 : Option D} (em : ms = [a0, a1, a2, a3, a4, a5, a6, a7, a8, a9, a10, a11, a12, a13, a14, a15, a16])
    (q : ∀ r ds h1, Gr h h1 → h.length ≤ r → h1[r]? = some (.lst ds) → ds.length = 199 → (∀ x ∈ ds, ∃ c : Cnd, c.ok ∧ x = c.d) → Q (.ref r) h1) :
    Wp (mLc (iRange1 (aCons (mC (.int 199)) aNil)) [15] (gN 15) mYes (mTup (aCons (mC (.str "less")) (aCons (mTup (aCons (mC (.str "input")) (aCons (mV 15) aNil))) (aCons (mTup (aCons (mC (.str "input")) (aCons (m2 gAdd (mV 15) (mC (.int 1))) aNil))) aNil)))) ms h) Q := by
  refine wp_lcM (List.range 199) (fun i => .int (0 + (i : Nat))) (fun i => (Cnd.mk true (.inp i) (.inp (i + 1))).d) (wp_iR1 ?_)
  repeat fail
  refine ⟨by decide, by decide, rfl, by simp; rw [sizeLine_eq]; omega, fun _ _ => trivial, fun i hi h2 g2 => ?_, fun h2 g2 e2 => q _ _ _ g2 (Nat.le_refl _) e2 (by simp) fun x hx => ?_⟩
  · subst em
    repeat fail
    refine ⟨?_, .refl⟩
    simp only [Int.zero_add]
    rfl
  · obtain ⟨i, hi, rfl⟩ := List.mem_map.mp hx
    have hi := List.mem_range.mp hi
    exact ⟨⟨true, .inp i, .inp (i + 1)⟩, ⟨show i < 200 by omega, show i + 1 < 200 by omega⟩, rfl⟩
theorem in_ok5 {t : Itm} (ht : t.in_ 5) : t.ok := by
  cases t with
  | num i => trivial
  | inp k => exact Nat.lt_of_lt_of_le (show k < 5 from ht) (by omega)
end
theorem pure_law : ∀ (ns : List Int) (o : MO), ns.length ≤ 63 → (∀ z ∈ ns, Builtin.Int.intBits z ≤ 1048576) → lsAt [o] 0 = some (ns.map D.int) → ∃ h, m_law [.ref 0] [o] = .ok (.bl true) h := fun ns o hl _ eo => by
  have w : Wp (m_law [.ref 0] [o]) fun d _ => d = .bl true := by
    unfold m_law b_law
    refine wp_def (ws_seq (ws_set (wp_mCall (wp_aCons (wp_mV rfl (wp_aNil (pot_new eo hl fun p h1 g1 l1 hp => ?_)))))))
    rw [← k21H_eq]
    refine ws_seq (ws_for (fun done rest ms h => PotOk p h ∧ ∃ x2 x3 x4 x5 x6 x7 x8 x9 x10 x11 x12 x13 x14 x15 x16 : Option D, ms = [some (.ref 0), some (.ref p), x2, x3, x4, x5, x6, x7, x8, x9, x10, x11, x12, x13, x14, x15, x16]) (wp_iR1 ?_))
    repeat fail
    refine ⟨by decide, by decide, ⟨hp, _, _, _, _, _, _, _, _, _, _, _, _, _, _, _, rfl⟩, ?_, ?_⟩
    · rintro done d rest ms h ⟨hp, x2, x3, x4, x5, x6, x7, x8, x9, x10, x11, x12, x13, x14, x15, x16, rfl⟩
      refine ⟨trivial, ?_⟩
      repeat fail
      refine conditions_ok (many := 5) (most := 8) (wide := 3) hp (by decide) (by decide) (by decide) fun r cs h2 hp2 f2 l2 e2 c4 hin => ?_
      have hpl := hp.lt
      repeat fail
      refine draw hp2 (by decide) fun v h3 v0 v1 _ hp3 f3 l3 => ?_
      have hr : r ≠ p := by omega
      have hpl3 := hp3.lt
      repeat fail
      refine if_dec (fun _ => ?_) (fun _ => ?_)
      · repeat fail
        refine chain_ok rfl fun r2 ds h4 g4 l4 e4 dl hd => ?_
        repeat fail
        have rl : (List.replicate (6 : Int).toNat ds).flatten.length = 1194 := by simp [dl]
        refine wp_repL e4 (by rw [dl, sizeLine_eq]; decide) (by decide) (by decide) ?_
        have hp4 := hp3.gr g4
        have hpl4 := hp4.lt
        repeat fail
        refine pickL (xs := [.int 999, .int 1000, .int 1001]) (hp4.gr ((Gr.app _).trans (.app _))) (by simp; omega) (lsAt_of at_last) (by decide) (by decide) fun x h5 hx hp5 f5 l5 => ?_
        obtain ⟨k, hk, rfl⟩ : ∃ k : Nat, k ≤ 1001 ∧ x = .int k := by
          simp only [List.mem_cons, List.not_mem_nil, or_false] at hx
          rcases hx with rfl | rfl | rfl
          · exact ⟨999, by omega, rfl⟩
          · exact ⟨1000, by omega, rfl⟩
          · exact ⟨1001, by omega, rfl⟩
        repeat fail
        have ne : h4.length ≠ p := by omega
        have e5 := f5.at ne (at_app at_last _)
        refine wp_slL (lsAt_of e5) ?_
        rw [cut_to]
        have hpl5 := hp5.lt
        repeat fail
        refine k21H_ok (hp5.gr (.app _)) (by omega) at_last (fun y hy => ?_) (by rw [List.length_take]; omega) fun _ _ _ _ _ _ _ _ _ _ _ _ _ hp6 => ⟨hp6, _, _, _, _, _, _, _, _, _, _, _, _, _, _, _, rfl⟩
        have hy := List.mem_of_mem_take hy
        obtain ⟨l, hl, hy⟩ := List.mem_flatten.mp hy
        rw [List.eq_of_mem_replicate hl] at hy
        obtain ⟨c, hc, rfl⟩ := hd y hy
        exact .good c hc
      · repeat fail
        refine k21H_ok hp3 hr (f3.at hr e2) (fun y hy => ?_) (by rw [List.length_map]; omega) fun _ _ _ _ _ _ _ _ _ _ _ _ _ hp6 => ⟨hp6, _, _, _, _, _, _, _, _, _, _, _, _, _, _, _, rfl⟩
        obtain ⟨c, hc, rfl⟩ := List.mem_map.mp hy
        exact .good c ⟨in_ok5 (hin c hc).1, in_ok5 (hin c hc).2⟩
    · rintro done ms h ⟨hp, x2, x3, x4, x5, x6, x7, x8, x9, x10, x11, x12, x13, x14, x15, x16, rfl⟩
      refine ⟨trivial, ?_⟩
      repeat fail
      rfl
  obtain ⟨d, h, e, rfl⟩ := w.get
  exact ⟨h, e⟩
end Lw
namespace Lw
open PySem PySem.Spec PyProof.Rows L2 Sm
section
variable {P : Program} {w : World} {K : PySem.W.Frag} {mg : Str → Option Value} {base : Heap}
abbrev st_is_number : Stmt := topS 6
theorem sc_is_number : FnScope ["value"] ["value"] (defScope st_is_number) := ⟨rfl, rfl, rfl, by decide +kernel, rfl, by decide +kernel, by decide +kernel⟩
theorem ok_is_number (G : GOk P K mg) : FnS P w K mg base 1 "is_number" ["value"] m_is_number := by
  obtain ⟨fa, fd, g, F⟩ := G.def_ 0 rfl
  exact fn_ok F g sc_is_number (fun _ _ _ _ _ _ us hl => match us, hl with | [_], _ => rfl) fun cdv A outer s H E hr tk hp => (ss_one (s_ret (s_and (s_callB (hv := bb_isinstance) c_isi fIsi_ok (G.fre 1 rfl) (sa_cons s_var (sa_cons (s_ty (hv := bb_int) (G.fre 0 rfl)) sa_nil))) (s_one (s_not (s_callB (hv := bb_isinstance) c_isi fIsi_ok (G.fre 1 rfl) (sa_cons s_var (sa_cons (s_ty (hv := bb_bool) (G.fre 2 rfl)) sa_nil))))))))
abbrev st_is_within : Stmt := topS 7
theorem sc_is_within : FnScope ["value", "least", "most"] ["value", "least", "most"] (defScope st_is_within) := ⟨rfl, rfl, rfl, by decide +kernel, rfl, by decide +kernel, by decide +kernel⟩
theorem ok_is_within (G : GOk P K mg) : FnS P w K mg base 2 "is_within" ["value", "least", "most"] m_is_within := by
  obtain ⟨fa, fd, g, F⟩ := G.def_ 1 rfl
  exact fn_ok F g sc_is_within (fun _ _ _ _ _ _ us hl => match us, hl with | [_, _, _], _ => rfl) fun cdv A outer s H E hr tk hp => (ss_one (s_ret (s_and (s_call ((ok_is_number G).mono (by decide)) hr tk (sa_cons s_var sa_nil) (alen_cons alen_nil)) (s_one (s_chain op_le op_le gLe_ok gLe_ok s_var s_var s_var)))))
abbrev st_is_listed : Stmt := topS 8
theorem sc_is_listed : FnScope ["value"] ["value"] (defScope st_is_listed) := ⟨rfl, rfl, rfl, by decide +kernel, rfl, by decide +kernel, by decide +kernel⟩
theorem ok_is_listed (G : GOk P K mg) : FnS P w K mg base 1 "is_listed" ["value"] m_is_listed := by
  obtain ⟨fa, fd, g, F⟩ := G.def_ 2 rfl
  exact fn_ok F g sc_is_listed (fun _ _ _ _ _ _ us hl => match us, hl with | [_], _ => rfl) fun cdv A outer s H E hr tk hp => (ss_one (s_ret (s_callB (hv := bb_isinstance) c_isi fIsi_ok (G.fre 1 rfl) (sa_cons s_var (sa_cons (s_tup (sa_cons (s_ty (hv := bb_list) (G.fre 4 rfl)) (sa_cons (s_ty (hv := bb_tuple) (G.fre 3 rfl)) sa_nil))) sa_nil)))))
abbrev st_is_word_of : Stmt := topS 9
theorem sc_is_word_of : FnScope ["value", "words"] ["value", "words"] (defScope st_is_word_of) := ⟨rfl, rfl, rfl, by decide +kernel, rfl, by decide +kernel, by decide +kernel⟩
theorem ok_is_word_of (G : GOk P K mg) : FnS P w K mg base 1 "is_word_of" ["value", "words"] m_is_word_of := by
  obtain ⟨fa, fd, g, F⟩ := G.def_ 3 rfl
  exact fn_ok F g sc_is_word_of (fun _ _ _ _ _ _ us hl => match us, hl with | [_, _], _ => rfl) fun cdv A outer s H E hr tk hp => (ss_one (s_ret (s_and (s_callB (hv := bb_isinstance) c_isi fIsi_ok (G.fre 1 rfl) (sa_cons s_var (sa_cons (s_ty (hv := bb_str) (G.fre 5 rfl)) sa_nil))) (s_one (s_cmp (op_inA (hu65 hr)) gIn_ok s_var s_var)))))
abbrev st_is_item : Stmt := topS 13
theorem sc_is_item : FnScope ["value"] ["value"] (defScope st_is_item) := ⟨rfl, rfl, rfl, by decide +kernel, rfl, by decide +kernel, by decide +kernel⟩
theorem ok_is_item (G : GOk P K mg) : FnS P w K mg base 3 "is_item" ["value"] m_is_item := by
  obtain ⟨fa, fd, g, F⟩ := G.def_ 4 rfl
  exact fn_ok F g sc_is_item (fun _ _ _ _ _ _ us hl => match us, hl with | [_], _ => rfl) fun cdv A outer s H E hr tk hp => (ss_cons (s_if (t_val (s_call ((ok_is_number G).mono (by decide)) hr tk (sa_cons s_var sa_nil) (alen_cons alen_nil))) (ss_one (s_ret s_bl)) ss_nil)
  (ss_cons (s_if (t_w (w_or (t_not (t_val (s_callB (hv := bb_isinstance) c_isi fIsi_ok (G.fre 1 rfl) (sa_cons s_var (sa_cons (s_ty (hv := bb_tuple) (G.fre 3 rfl)) sa_nil))))) (w_or (t_cmp (op_neA (hu64 hr)) gNe_ok (s_callB (hv := bb_len) c_len fLen_ok (G.fre 6 rfl) (sa_cons s_var sa_nil)) s_int) (w_or1 (t_not (t_val (s_call ((ok_is_word_of G).mono (by decide)) hr tk (sa_cons (s_ix (ix_A (hu1 hr)) gIx_ok s_var s_int) (sa_cons (s_tup (sa_cons s_str sa_nil)) sa_nil)) (alen_cons (alen_cons alen_nil))))))))) (ss_one (s_ret s_bl)) ss_nil)
  (ss_one (s_ret (s_call ((ok_is_within G).mono (by decide)) hr tk (sa_cons (s_ix (ix_A (hu1 hr)) gIx_ok s_var s_int) (sa_cons s_int (sa_cons (s_bin op_sub gSub_ok (s_glo (G.int 0 rfl)) s_int) sa_nil))) (alen_cons (alen_cons (alen_cons alen_nil))))))))
abbrev st_is_condition : Stmt := topS 14
theorem sc_is_condition : FnScope ["value"] ["value"] (defScope st_is_condition) := ⟨rfl, rfl, rfl, by decide +kernel, rfl, by decide +kernel, by decide +kernel⟩
theorem ok_is_condition (G : GOk P K mg) : FnS P w K mg base 4 "is_condition" ["value"] m_is_condition := by
  obtain ⟨fa, fd, g, F⟩ := G.def_ 5 rfl
  exact fn_ok F g sc_is_condition (fun _ _ _ _ _ _ us hl => match us, hl with | [_], _ => rfl) fun cdv A outer s H E hr tk hp => (ss_cons (s_if (t_w (w_or (t_not (t_val (s_callB (hv := bb_isinstance) c_isi fIsi_ok (G.fre 1 rfl) (sa_cons s_var (sa_cons (s_ty (hv := bb_tuple) (G.fre 3 rfl)) sa_nil))))) (w_or (t_cmp (op_neA (hu64 hr)) gNe_ok (s_callB (hv := bb_len) c_len fLen_ok (G.fre 6 rfl) (sa_cons s_var sa_nil)) s_int) (w_or1 (t_not (t_val (s_call ((ok_is_word_of G).mono (by decide)) hr tk (sa_cons (s_ix (ix_A (hu1 hr)) gIx_ok s_var s_int) (sa_cons (s_tup (sa_cons s_str (sa_cons s_str sa_nil))) sa_nil)) (alen_cons (alen_cons alen_nil))))))))) (ss_one (s_ret s_bl)) ss_nil)
  (ss_one (s_ret (s_and (s_call ((ok_is_item G).mono (by decide)) hr tk (sa_cons (s_ix (ix_A (hu1 hr)) gIx_ok s_var s_int) sa_nil) (alen_cons alen_nil)) (s_one (s_call ((ok_is_item G).mono (by decide)) hr tk (sa_cons (s_ix (ix_A (hu1 hr)) gIx_ok s_var s_int) sa_nil) (alen_cons alen_nil)))))))
abbrev st_check_conditions : Stmt := topS 15
theorem sc_check_conditions : FnScope ["conditions", "at", "condition"] ["conditions"] (defScope st_check_conditions) := ⟨rfl, rfl, rfl, by decide +kernel, rfl, by decide +kernel, by decide +kernel⟩
theorem ok_check_conditions (G : GOk P K mg) : FnS P w K mg base 5 "check_conditions" ["conditions"] m_check_conditions := by
  obtain ⟨fa, fd, g, F⟩ := G.def_ 6 rfl
  exact fn_ok F g sc_check_conditions (fun _ _ _ _ _ _ us hl => match us, hl with | [_], _ => rfl) fun cdv A outer s H E hr tk hp => (ss_cons (s_if (t_w (w_or (t_not (t_val (s_call ((ok_is_listed G).mono (by decide)) hr tk (sa_cons s_var sa_nil) (alen_cons alen_nil)))) (w_or1 (t_cmp op_gt gGt_ok (s_callB (hv := bb_len) c_len fLen_ok (G.fre 6 rfl) (sa_cons s_var sa_nil)) (s_glo (G.int 1 rfl)))))) (ss_one (s_raiseE (slf := "self") (G.exc 0 rfl _ _) hr tk (sa_cons (s_un un_neg gNeg_ok s_int) sa_nil) (alen_cons alen_nil))) ss_nil)
  (ss_one (s_for (vs := [1, 2]) (si_enumA (G.fre 7 rfl) (sa_cons s_var sa_nil)) (sg_tup (sgs_cons (sg_name sc_check_conditions.nd) (sgs_cons (sg_name sc_check_conditions.nd) sgs_nil))) (ss_one (s_if (t_not (t_val (s_call ((ok_is_condition G).mono (by decide)) hr tk (sa_cons s_var sa_nil) (alen_cons alen_nil)))) (ss_one (s_raiseE (slf := "self") (G.exc 0 rfl _ _) hr tk (sa_cons s_var sa_nil) (alen_cons alen_nil))) ss_nil)) hp)))
abbrev st_number_of : Stmt := topS 16
theorem sc_number_of : FnScope ["item", "numbers"] ["item", "numbers"] (defScope st_number_of) := ⟨rfl, rfl, rfl, by decide +kernel, rfl, by decide +kernel, by decide +kernel⟩
theorem ok_number_of (G : GOk P K mg) : FnS P w K mg base 1 "number_of" ["item", "numbers"] m_number_of := by
  obtain ⟨fa, fd, g, F⟩ := G.def_ 7 rfl
  exact fn_ok F g sc_number_of (fun _ _ _ _ _ _ us hl => match us, hl with | [_, _], _ => rfl) fun cdv A outer s H E hr tk hp => (ss_cons (s_if (t_val (s_callB (hv := bb_isinstance) c_isi fIsi_ok (G.fre 1 rfl) (sa_cons s_var (sa_cons (s_ty (hv := bb_int) (G.fre 0 rfl)) sa_nil)))) (ss_one (s_ret s_var)) ss_nil)
  (ss_one (s_ret (s_ifE (t_cmp op_lt gLt_ok (s_ix (ix_A (hu1 hr)) gIx_ok s_var s_int) (s_callB (hv := bb_len) c_len fLen_ok (G.fre 6 rfl) (sa_cons s_var sa_nil))) (s_ix (ix_A (hu1 hr)) gIx_ok s_var (s_ix (ix_A (hu1 hr)) gIx_ok s_var s_int)) s_non))))
abbrev st_is_kept : Stmt := topS 17
theorem sc_is_kept : FnScope ["condition", "numbers", "one", "other"] ["condition", "numbers"] (defScope st_is_kept) := ⟨rfl, rfl, rfl, by decide +kernel, rfl, by decide +kernel, by decide +kernel⟩
theorem ok_is_kept (G : GOk P K mg) : FnS P w K mg base 2 "is_kept" ["condition", "numbers"] m_is_kept := by
  obtain ⟨fa, fd, g, F⟩ := G.def_ 8 rfl
  exact fn_ok F g sc_is_kept (fun _ _ _ _ _ _ us hl => match us, hl with | [_, _], _ => rfl) fun cdv A outer s H E hr tk hp => (ss_cons (s_set sc_is_kept.nd (s_call ((ok_number_of G).mono (by decide)) hr tk (sa_cons (s_ix (ix_A (hu1 hr)) gIx_ok s_var s_int) (sa_cons s_var sa_nil)) (alen_cons (alen_cons alen_nil))))
  (ss_cons (s_set sc_is_kept.nd (s_call ((ok_number_of G).mono (by decide)) hr tk (sa_cons (s_ix (ix_A (hu1 hr)) gIx_ok s_var s_int) (sa_cons s_var sa_nil)) (alen_cons (alen_cons alen_nil))))
  (ss_cons (s_if (t_w (w_or (t_cmp op_isA gIsY_ok s_var s_non) (w_or1 (t_cmp op_isA gIsY_ok s_var s_non)))) (ss_one (s_ret s_bl)) ss_nil)
  (ss_one (s_ret (s_ifE (t_cmp (op_eqA (hu64 hr)) gEq_ok (s_ix (ix_A (hu1 hr)) gIx_ok s_var s_int) s_str) (s_cmp op_lt gLt_ok s_var s_var) (s_cmp (op_eqA (hu64 hr)) gEq_ok s_var s_var)))))))
abbrev st_keeps : Stmt := topS 18
theorem sc_keeps : FnScope ["conditions", "numbers", "at", "number", "condition"] ["conditions", "numbers"] (defScope st_keeps) := ⟨rfl, rfl, rfl, by decide +kernel, rfl, by decide +kernel, by decide +kernel⟩
theorem ok_keeps (G : GOk P K mg) : FnS P w K mg base 6 "keeps" ["conditions", "numbers"] m_keeps := by
  obtain ⟨fa, fd, g, F⟩ := G.def_ 9 rfl
  exact fn_ok F g sc_keeps (fun _ _ _ _ _ _ us hl => match us, hl with | [_, _], _ => rfl) fun cdv A outer s H E hr tk hp => (ss_cons (s_expr (s_call ((ok_check_conditions G).mono (by decide)) hr tk (sa_cons s_var sa_nil) (alen_cons alen_nil)))
  (ss_cons (s_if (t_not (t_val (s_call ((ok_is_listed G).mono (by decide)) hr tk (sa_cons s_varC sa_nil) (alen_cons alen_nil)))) (ss_one (s_raiseE (slf := "self") (G.exc 2 rfl _ _) hr tk (sa_cons (s_un un_neg gNeg_ok s_int) sa_nil) (alen_cons alen_nil))) ss_nil)
  (ss_cons (s_for (vs := [2, 3]) (si_enumA (G.fre 7 rfl) (sa_cons s_varC sa_nil)) (sg_tup (sgs_cons (sg_name sc_keeps.nd) (sgs_cons (sg_name sc_keeps.nd) sgs_nil))) (ss_one (s_if (t_not (t_val (s_call ((ok_is_number G).mono (by decide)) hr tk (sa_cons s_var sa_nil) (alen_cons alen_nil)))) (ss_one (s_raiseE (slf := "self") (G.exc 2 rfl _ _) hr tk (sa_cons s_var sa_nil) (alen_cons alen_nil))) ss_nil)) hp)
  (ss_one (s_ret (s_callB (hv := bb_all) (cr_all rfl) fAll_ok (G.fre 8 rfl) (sa_cons (s_lc (own := [("condition", 4)]) sc_keeps.nd (si_seq s_var) (by kernel_rfl) (fun _ _ _ _ _ => (sg_name sc_keeps.nd)) (fun _ _ _ _ _ => sts_nil) (fun _ _ _ _ _ => (s_call ((ok_is_kept G).mono (by decide)) hr takes0 (sa_cons s_var (sa_cons s_varC sa_nil)) (alen_cons (alen_cons alen_nil))))) sa_nil)))))))
abbrev st_told_numbers : Stmt := topS 19
theorem sc_told_numbers : FnScope ["conditions", "found", "condition", "item"] ["conditions"] (defScope st_told_numbers) := ⟨rfl, rfl, rfl, by decide +kernel, rfl, by decide +kernel, by decide +kernel⟩
theorem ok_told_numbers (G : GOk P K mg) : FnS P w K mg base 1 "told_numbers" ["conditions"] m_told_numbers := by
  obtain ⟨fa, fd, g, F⟩ := G.def_ 10 rfl
  exact fn_ok F g sc_told_numbers (fun _ _ _ _ _ _ us hl => match us, hl with | [_], _ => rfl) fun cdv A outer s H E hr tk hp => (ss_cons (s_set sc_told_numbers.nd (s_lst (sa_cons s_int sa_nil)))
  (ss_cons (s_for (vs := [2]) (si_seq s_var) (sg_name sc_told_numbers.nd) (ss_one (s_expr (s_meth PySem.F.plainAttrs_list PySem.F.slot_list_extend PySem.F.type_list_extend mt_extend gExtend_ok s_var (sa_cons (s_lc (own := [("item", 3)]) sc_told_numbers.nd (si_seq (s_slice s_var (sp_at s_int) sp_no)) (by kernel_rfl) (fun _ _ _ _ _ => (sg_name sc_told_numbers.nd)) (fun _ _ _ _ _ => (sts_one (t_val (s_callB (hv := bb_isinstance) c_isi fIsi_ok (G.fre 1 rfl) (sa_cons s_var (sa_cons (s_ty (hv := bb_int) (G.fre 0 rfl)) sa_nil)))))) (fun _ _ _ _ _ => s_var)) sa_nil)))) hp)
  (ss_one (s_ret s_var))))
abbrev st_raised : Stmt := topS 20
theorem sc_raised : FnScope ["numbers", "item", "least"] ["numbers", "item", "least"] (defScope st_raised) := ⟨rfl, rfl, rfl, by decide +kernel, rfl, by decide +kernel, by decide +kernel⟩
theorem ok_raised (G : GOk P K mg) : FnS P w K mg base 1 "raised" ["numbers", "item", "least"] m_raised := by
  obtain ⟨fa, fd, g, F⟩ := G.def_ 11 rfl
  exact fn_ok F g sc_raised (fun _ _ _ _ _ _ us hl => match us, hl with | [_, _, _], _ => rfl) fun cdv A outer s H E hr tk hp => (ss_cons (s_if (t_val (s_callB (hv := bb_isinstance) c_isi fIsi_ok (G.fre 1 rfl) (sa_cons s_var (sa_cons (s_ty (hv := bb_int) (G.fre 0 rfl)) sa_nil)))) (ss_one (s_ret (s_ifE (t_cmp op_lt gLt_ok s_var s_var) s_non s_bl))) ss_nil)
  (ss_cons (s_if (t_cmp op_ge gGe_ok (s_ix (ix_A (hu1 hr)) gIx_ok s_var (s_ix (ix_A (hu1 hr)) gIx_ok s_var s_int)) s_var) (ss_one (s_ret s_bl)) ss_nil)
  (ss_cons (s_asg (vs := []) s_var (sg_sub (set_A (hu1 hr)) setA_ok s_var (s_ix (ix_A (hu1 hr)) gIx_ok s_var s_int)))
  (ss_one (s_ret s_bl)))))
abbrev st_turn_of : Stmt := topS 21
theorem sc_turn_of : FnScope ["conditions", "numbers", "changed", "word", "one", "other", "more", "answers"] ["conditions", "numbers"] (defScope st_turn_of) := ⟨rfl, rfl, rfl, by decide +kernel, rfl, by decide +kernel, by decide +kernel⟩
theorem ok_turn_of (G : GOk P K mg) : FnS P w K mg base 2 "turn_of" ["conditions", "numbers"] m_turn_of := by
  obtain ⟨fa, fd, g, F⟩ := G.def_ 12 rfl
  exact fn_ok F g sc_turn_of (fun _ _ _ _ _ _ us hl => match us, hl with | [_, _], _ => rfl) fun cdv A outer s H E hr tk hp => (ss_cons (s_set sc_turn_of.nd s_bl)
  (ss_cons (s_for (vs := [3, 4, 5]) (si_seq s_var) (sg_tup (sgs_cons (sg_name sc_turn_of.nd) (sgs_cons (sg_name sc_turn_of.nd) (sgs_cons (sg_name sc_turn_of.nd) sgs_nil)))) (ss_cons (s_set sc_turn_of.nd (s_callT (hv := bb_int) c_int fInt_ok (G.fre 0 rfl) (sa_cons (s_cmp (op_eqA (hu64 hr)) gEq_ok s_var s_str) sa_nil)))
    (ss_cons (s_set sc_turn_of.nd (s_lst (sa_cons (s_call ((ok_raised G).mono (by decide)) hr tk (sa_cons s_var (sa_cons s_var (sa_cons (s_bin op_addA gAdd_ok (s_call ((ok_number_of G).mono (by decide)) hr tk (sa_cons s_var (sa_cons s_var sa_nil)) (alen_cons (alen_cons alen_nil))) s_var) sa_nil))) (alen_cons (alen_cons (alen_cons alen_nil)))) sa_nil)))
    (ss_cons (s_if (t_cmp (op_eqA (hu64 hr)) gEq_ok s_var s_str) (ss_one (s_expr (s_meth PySem.F.plainAttrs_list PySem.F.slot_list_append PySem.F.type_list_append mt_append gAppend_ok s_var (sa_cons (s_call ((ok_raised G).mono (by decide)) hr tk (sa_cons s_var (sa_cons s_var (sa_cons (s_call ((ok_number_of G).mono (by decide)) hr tk (sa_cons s_var (sa_cons s_var sa_nil)) (alen_cons (alen_cons alen_nil))) sa_nil))) (alen_cons (alen_cons (alen_cons alen_nil)))) sa_nil)))) ss_nil)
    (ss_cons (s_if (t_cmp (op_inA (hu65 hr)) gIn_ok s_non s_var) (ss_one (s_ret s_non)) ss_nil)
    (ss_one (s_set sc_turn_of.nd (s_or s_var (s_one (s_cmp (op_inA (hu65 hr)) gIn_ok s_bl s_var))))))))) hp)
  (ss_one (s_ret s_var))))
abbrev st_least_numbers : Stmt := topS 22
theorem sc_least_numbers : FnScope ["conditions", "many", "condition", "item", "numbers", "turn", "changed"] ["conditions", "many"] (defScope st_least_numbers) := ⟨rfl, rfl, rfl, by decide +kernel, rfl, by decide +kernel, by decide +kernel⟩
theorem ok_least_numbers (G : GOk P K mg) : FnS P w K mg base 3 "least_numbers" ["conditions", "many"] m_least_numbers := by
  obtain ⟨fa, fd, g, F⟩ := G.def_ 13 rfl
  exact fn_ok F g sc_least_numbers (fun _ _ _ _ _ _ us hl => match us, hl with | [_, _], _ => rfl) fun cdv A outer s H E hr tk hp => (ss_cons (s_for (vs := [2]) (si_seq s_var) (sg_name sc_least_numbers.nd) (ss_one (s_for (vs := [3]) (si_seq (s_slice s_var (sp_at s_int) sp_no)) (sg_name sc_least_numbers.nd) (ss_one (s_if (t_w (w_and (t_val (s_callB (hv := bb_isinstance) c_isi fIsi_ok (G.fre 1 rfl) (sa_cons s_var (sa_cons (s_ty (hv := bb_tuple) (G.fre 3 rfl)) sa_nil)))) (w_and1 (t_cmp op_ge gGe_ok (s_ix (ix_A (hu1 hr)) gIx_ok s_var s_int) s_var)))) (ss_one (s_ret s_non)) ss_nil)) hp)) hp)
  (ss_cons (s_set sc_least_numbers.nd (s_bin op_mulA gMul_ok (s_lst (sa_cons (s_bin op_sub gSub_ok (s_callB (hv := bb_min) (c_min rfl) fMin_ok (G.fre 9 rfl) (sa_cons (s_call ((ok_told_numbers G).mono (by decide)) hr tk (sa_cons s_var sa_nil) (alen_cons alen_nil)) sa_nil)) s_var) sa_nil)) s_var))
  (ss_cons (s_for (vs := [5]) (si_range1 (G.fre 10 rfl) (sa_cons (s_bin op_addA gAdd_ok s_var s_int) sa_nil)) (sg_name sc_least_numbers.nd) (ss_cons (s_set sc_least_numbers.nd (s_call ((ok_turn_of G).mono (by decide)) hr tk (sa_cons s_var (sa_cons s_var sa_nil)) (alen_cons (alen_cons alen_nil))))
    (ss_cons (s_if (t_cmp op_isA gIsY_ok s_var s_non) (ss_one (s_ret s_non)) ss_nil)
    (ss_one (s_if (t_not (t_val s_var)) (ss_one (s_ret (s_callT (hv := bb_tuple) c_tuple fTuple_ok (G.fre 3 rfl) (sa_cons s_var sa_nil)))) ss_nil)))) hp)
  (ss_one (s_ret s_non)))))
abbrev st_numbers_for : Stmt := topS 23
theorem sc_numbers_for : FnScope ["conditions", "many"] ["conditions", "many"] (defScope st_numbers_for) := ⟨rfl, rfl, rfl, by decide +kernel, rfl, by decide +kernel, by decide +kernel⟩
theorem ok_numbers_for (G : GOk P K mg) : FnS P w K mg base 6 "numbers_for" ["conditions", "many"] m_numbers_for := by
  obtain ⟨fa, fd, g, F⟩ := G.def_ 14 rfl
  exact fn_ok F g sc_numbers_for (fun _ _ _ _ _ _ us hl => match us, hl with | [_, _], _ => rfl) fun cdv A outer s H E hr tk hp => (ss_cons (s_expr (s_call ((ok_check_conditions G).mono (by decide)) hr tk (sa_cons s_var sa_nil) (alen_cons alen_nil)))
  (ss_cons (s_if (t_not (t_val (s_call ((ok_is_within G).mono (by decide)) hr tk (sa_cons s_var (sa_cons s_int (sa_cons (s_glo (G.int 0 rfl)) sa_nil))) (alen_cons (alen_cons (alen_cons alen_nil)))))) (ss_one (s_raiseE (slf := "self") (G.exc 1 rfl _ _) hr tk (sa_cons s_var sa_nil) (alen_cons alen_nil))) ss_nil)
  (ss_one (s_ret (s_call ((ok_least_numbers G).mono (by decide)) hr tk (sa_cons s_var (sa_cons s_var sa_nil)) (alen_cons (alen_cons alen_nil)))))))
abbrev st_place_of_item : Stmt := topS 24
theorem sc_place_of_item : FnScope ["item"] ["item"] (defScope st_place_of_item) := ⟨rfl, rfl, rfl, by decide +kernel, rfl, by decide +kernel, by decide +kernel⟩
theorem ok_place_of_item (G : GOk P K mg) : FnS P w K mg base 1 "place_of_item" ["item"] m_place_of_item := by
  obtain ⟨fa, fd, g, F⟩ := G.def_ 15 rfl
  exact fn_ok F g sc_place_of_item (fun _ _ _ _ _ _ us hl => match us, hl with | [_], _ => rfl) fun cdv A outer s H E hr tk hp => (ss_cons (s_if (t_val (s_callB (hv := bb_isinstance) c_isi fIsi_ok (G.fre 1 rfl) (sa_cons s_var (sa_cons (s_ty (hv := bb_int) (G.fre 0 rfl)) sa_nil)))) (ss_one (s_ret (s_tup (sa_cons (s_un un_neg gNeg_ok s_int) (sa_cons s_var sa_nil))))) ss_nil)
  (ss_one (s_ret (s_tup (sa_cons (s_ix (ix_A (hu1 hr)) gIx_ok s_var s_int) (sa_cons s_int sa_nil))))))
abbrev st_edges_of : Stmt := topS 25
theorem sc_edges_of : FnScope ["conditions", "found", "at", "word", "one", "other", "first", "near", "second", "far"] ["conditions"] (defScope st_edges_of) := ⟨rfl, rfl, rfl, by decide +kernel, rfl, by decide +kernel, by decide +kernel⟩
theorem ok_edges_of (G : GOk P K mg) : FnS P w K mg base 2 "edges_of" ["conditions"] m_edges_of := by
  obtain ⟨fa, fd, g, F⟩ := G.def_ 16 rfl
  exact fn_ok F g sc_edges_of (fun _ _ _ _ _ _ us hl => match us, hl with | [_], _ => rfl) fun cdv A outer s H E hr tk hp => (ss_cons (s_set sc_edges_of.nd (s_lst sa_nil))
  (ss_cons (s_for (vs := [2, 3, 4, 5]) (si_enumA (G.fre 7 rfl) (sa_cons s_var sa_nil)) (sg_tup (sgs_cons (sg_name sc_edges_of.nd) (sgs_cons (sg_tup (sgs_cons (sg_name sc_edges_of.nd) (sgs_cons (sg_name sc_edges_of.nd) (sgs_cons (sg_name sc_edges_of.nd) sgs_nil)))) sgs_nil))) (ss_cons (s_asg (vs := [6, 7]) (s_call ((ok_place_of_item G).mono (by decide)) hr tk (sa_cons s_var sa_nil) (alen_cons alen_nil)) (sg_tup (sgs_cons (sg_name sc_edges_of.nd) (sgs_cons (sg_name sc_edges_of.nd) sgs_nil))))
    (ss_cons (s_asg (vs := [8, 9]) (s_call ((ok_place_of_item G).mono (by decide)) hr tk (sa_cons s_var sa_nil) (alen_cons alen_nil)) (sg_tup (sgs_cons (sg_name sc_edges_of.nd) (sgs_cons (sg_name sc_edges_of.nd) sgs_nil))))
    (ss_cons (s_expr (s_meth PySem.F.plainAttrs_list PySem.F.slot_list_append PySem.F.type_list_append mt_append gAppend_ok s_var (sa_cons (s_tup (sa_cons s_var (sa_cons s_var (sa_cons (s_bin op_sub gSub_ok (s_bin op_addA gAdd_ok (s_callT (hv := bb_int) c_int fInt_ok (G.fre 0 rfl) (sa_cons (s_cmp (op_eqA (hu64 hr)) gEq_ok s_var s_str) sa_nil)) s_var) s_var) (sa_cons (s_tup (sa_cons s_var (sa_cons s_str sa_nil))) sa_nil))))) sa_nil)))
    (ss_one (s_if (t_cmp (op_eqA (hu64 hr)) gEq_ok s_var s_str) (ss_one (s_expr (s_meth PySem.F.plainAttrs_list PySem.F.slot_list_append PySem.F.type_list_append mt_append gAppend_ok s_var (sa_cons (s_tup (sa_cons s_var (sa_cons s_var (sa_cons (s_bin op_sub gSub_ok s_var s_var) (sa_cons (s_tup (sa_cons s_var (sa_cons s_str sa_nil))) sa_nil))))) sa_nil)))) ss_nil))))) hp)
  (ss_one (s_ret s_var))))
abbrev st_ring_along : Stmt := topS 26
theorem sc_ring_along : FnScope ["edges", "last", "place", "many", "turn", "start", "found", "edge"] ["edges", "last", "place"] (defScope st_ring_along) := ⟨rfl, rfl, rfl, by decide +kernel, rfl, by decide +kernel, by decide +kernel⟩
theorem ok_ring_along (G : GOk P K mg) : FnS P w K mg base 1 "ring_along" ["edges", "last", "place"] m_ring_along := by
  obtain ⟨fa, fd, g, F⟩ := G.def_ 17 rfl
  exact fn_ok F g sc_ring_along (fun _ _ _ _ _ _ us hl => match us, hl with | [_, _, _], _ => rfl) fun cdv A outer s H E hr tk hp => (ss_cons (s_set sc_ring_along.nd (s_callB (hv := bb_len) c_len fLen_ok (G.fre 6 rfl) (sa_cons s_var sa_nil)))
  (ss_cons (s_for (vs := [4]) (si_range1 (G.fre 10 rfl) (sa_cons s_var sa_nil)) (sg_name sc_ring_along.nd) (ss_one (s_set sc_ring_along.nd (s_ix (ix_A (hu1 hr)) gIx_ok (s_ix (ix_A (hu1 hr)) gIx_ok s_var (s_ix (ix_A (hu1 hr)) gIx_ok s_var s_var)) s_int))) hp)
  (ss_cons (s_set sc_ring_along.nd s_var)
  (ss_cons (s_set sc_ring_along.nd (s_lst sa_nil))
  (ss_cons (s_while (t_w (w_or (t_cmp (op_eqA (hu64 hr)) gEq_ok (s_callB (hv := bb_len) c_len fLen_ok (G.fre 6 rfl) (sa_cons s_var sa_nil)) s_int) (w_or1 (t_cmp (op_neA (hu64 hr)) gNe_ok s_var s_var)))) (ss_cons (s_set sc_ring_along.nd (s_ix (ix_A (hu1 hr)) gIx_ok s_var (s_ix (ix_A (hu1 hr)) gIx_ok s_var s_var)))
    (ss_cons (s_expr (s_meth PySem.F.plainAttrs_list PySem.F.slot_list_append PySem.F.type_list_append mt_append gAppend_ok s_var (sa_cons (s_ix (ix_A (hu1 hr)) gIx_ok s_var s_int) sa_nil)))
    (ss_one (s_set sc_ring_along.nd (s_ix (ix_A (hu1 hr)) gIx_ok s_var s_int))))) hp)
  (ss_one (s_ret (s_callT (hv := bb_tuple) c_tuple fTuple_ok (G.fre 3 rfl) (sa_cons (s_revA s_var) sa_nil)))))))))
abbrev st_found_ring : Stmt := topS 27
theorem sc_found_ring : FnScope ["conditions", "edges", "heights", "first", "second", "weight", "pair", "last", "turn", "met", "number"] ["conditions"] (defScope st_found_ring) := ⟨rfl, rfl, rfl, by decide +kernel, rfl, by decide +kernel, by decide +kernel⟩
theorem ok_found_ring (G : GOk P K mg) : FnS P w K mg base 3 "found_ring" ["conditions"] m_found_ring := by
  obtain ⟨fa, fd, g, F⟩ := G.def_ 18 rfl
  exact fn_ok F g sc_found_ring (fun _ _ _ _ _ _ us hl => match us, hl with | [_], _ => rfl) fun cdv A outer s H E hr tk hp => (ss_cons (s_set sc_found_ring.nd (s_call ((ok_edges_of G).mono (by decide)) hr tk (sa_cons s_var sa_nil) (alen_cons alen_nil)))
  (ss_cons (s_set sc_found_ring.nd s_dnew)
  (ss_cons (s_for (vs := [3, 4, 5, 6]) (si_seq s_var) (sg_tup (sgs_cons (sg_name sc_found_ring.nd) (sgs_cons (sg_name sc_found_ring.nd) (sgs_cons (sg_name sc_found_ring.nd) (sgs_cons (sg_name sc_found_ring.nd) sgs_nil))))) (ss_cons (s_asg (vs := []) s_int (sg_sub (set_A (hu1 hr)) setA_ok s_var s_var))
    (ss_one (s_asg (vs := []) s_int (sg_sub (set_A (hu1 hr)) setA_ok s_var s_var)))) hp)
  (ss_cons (s_set sc_found_ring.nd s_dnew)
  (ss_cons (s_for (vs := [8]) (si_range1 (G.fre 10 rfl) (sa_cons (s_bin op_addA gAdd_ok (s_callB (hv := bb_len) c_len fLen_ok (G.fre 6 rfl) (sa_cons s_var sa_nil)) s_int) sa_nil)) (sg_name sc_found_ring.nd) (ss_cons (s_set sc_found_ring.nd s_non)
    (ss_cons (s_for (vs := [10, 3, 4, 5, 6]) (si_enumA (G.fre 7 rfl) (sa_cons s_var sa_nil)) (sg_tup (sgs_cons (sg_name sc_found_ring.nd) (sgs_cons (sg_tup (sgs_cons (sg_name sc_found_ring.nd) (sgs_cons (sg_name sc_found_ring.nd) (sgs_cons (sg_name sc_found_ring.nd) (sgs_cons (sg_name sc_found_ring.nd) sgs_nil))))) sgs_nil))) (ss_one (s_if (t_cmp op_gt gGt_ok (s_bin op_addA gAdd_ok (s_ix (ix_A (hu1 hr)) gIx_ok s_var s_var) s_var) (s_ix (ix_A (hu1 hr)) gIx_ok s_var s_var)) (ss_cons (s_asg (vs := []) (s_bin op_addA gAdd_ok (s_ix (ix_A (hu1 hr)) gIx_ok s_var s_var) s_var) (sg_sub (set_A (hu1 hr)) setA_ok s_var s_var))
    (ss_cons (s_asg (vs := []) s_var (sg_sub (set_A (hu1 hr)) setA_ok s_var s_var))
    (ss_one (s_set sc_found_ring.nd s_var)))) ss_nil)) hp)
    (ss_one (s_if (t_cmp op_isA gIsY_ok s_var s_non) (ss_one (s_ret s_non)) ss_nil)))) hp)
  (ss_one (s_ret (s_call ((ok_ring_along G).mono (by decide)) hr tk (sa_cons s_var (sa_cons s_var (sa_cons s_var sa_nil))) (alen_cons (alen_cons (alen_cons alen_nil)))))))))))
abbrev st_ring_of : Stmt := topS 28
theorem sc_ring_of : FnScope ["conditions"] ["conditions"] (defScope st_ring_of) := ⟨rfl, rfl, rfl, by decide +kernel, rfl, by decide +kernel, by decide +kernel⟩
theorem ok_ring_of (G : GOk P K mg) : FnS P w K mg base 6 "ring_of" ["conditions"] m_ring_of := by
  obtain ⟨fa, fd, g, F⟩ := G.def_ 19 rfl
  exact fn_ok F g sc_ring_of (fun _ _ _ _ _ _ us hl => match us, hl with | [_], _ => rfl) fun cdv A outer s H E hr tk hp => (ss_cons (s_expr (s_call ((ok_check_conditions G).mono (by decide)) hr tk (sa_cons s_var sa_nil) (alen_cons alen_nil)))
  (ss_one (s_ret (s_call ((ok_found_ring G).mono (by decide)) hr tk (sa_cons s_var sa_nil) (alen_cons alen_nil)))))
abbrev st_ends_of : Stmt := topS 29
theorem sc_ends_of : FnScope ["conditions", "pair", "word", "one", "other"] ["conditions", "pair"] (defScope st_ends_of) := ⟨rfl, rfl, rfl, by decide +kernel, rfl, by decide +kernel, by decide +kernel⟩
theorem ok_ends_of (G : GOk P K mg) : FnS P w K mg base 1 "ends_of" ["conditions", "pair"] m_ends_of := by
  obtain ⟨fa, fd, g, F⟩ := G.def_ 20 rfl
  exact fn_ok F g sc_ends_of (fun _ _ _ _ _ _ us hl => match us, hl with | [_, _], _ => rfl) fun cdv A outer s H E hr tk hp => (ss_cons (s_asg (vs := [2, 3, 4]) (s_ix (ix_A (hu1 hr)) gIx_ok s_var (s_ix (ix_A (hu1 hr)) gIx_ok s_var s_int)) (sg_tup (sgs_cons (sg_name sc_ends_of.nd) (sgs_cons (sg_name sc_ends_of.nd) (sgs_cons (sg_name sc_ends_of.nd) sgs_nil)))))
  (ss_one (s_ret (s_ifE (t_cmp (op_eqA (hu64 hr)) gEq_ok (s_ix (ix_A (hu1 hr)) gIx_ok s_var s_int) s_str) (s_tup (sa_cons s_var (sa_cons s_var sa_nil))) (s_tup (sa_cons s_var (sa_cons s_var sa_nil)))))))
abbrev st_is_pair_of_ring : Stmt := topS 30
theorem sc_is_pair_of_ring : FnScope ["conditions", "value"] ["conditions", "value"] (defScope st_is_pair_of_ring) := ⟨rfl, rfl, rfl, by decide +kernel, rfl, by decide +kernel, by decide +kernel⟩
theorem ok_is_pair_of_ring (G : GOk P K mg) : FnS P w K mg base 3 "is_pair_of_ring" ["conditions", "value"] m_is_pair_of_ring := by
  obtain ⟨fa, fd, g, F⟩ := G.def_ 21 rfl
  exact fn_ok F g sc_is_pair_of_ring (fun _ _ _ _ _ _ us hl => match us, hl with | [_, _], _ => rfl) fun cdv A outer s H E hr tk hp => (ss_cons (s_if (t_w (w_or (t_not (t_val (s_callB (hv := bb_isinstance) c_isi fIsi_ok (G.fre 1 rfl) (sa_cons s_var (sa_cons (s_ty (hv := bb_tuple) (G.fre 3 rfl)) sa_nil))))) (w_or (t_cmp (op_neA (hu64 hr)) gNe_ok (s_callB (hv := bb_len) c_len fLen_ok (G.fre 6 rfl) (sa_cons s_var sa_nil)) s_int) (w_or1 (t_not (t_val (s_call ((ok_is_within G).mono (by decide)) hr tk (sa_cons (s_ix (ix_A (hu1 hr)) gIx_ok s_var s_int) (sa_cons s_int (sa_cons (s_bin op_sub gSub_ok (s_callB (hv := bb_len) c_len fLen_ok (G.fre 6 rfl) (sa_cons s_var sa_nil)) s_int) sa_nil))) (alen_cons (alen_cons (alen_cons alen_nil)))))))))) (ss_one (s_ret s_bl)) ss_nil)
  (ss_cons (s_if (t_not (t_val (s_call ((ok_is_word_of G).mono (by decide)) hr tk (sa_cons (s_ix (ix_A (hu1 hr)) gIx_ok s_var s_int) (sa_cons (s_tup (sa_cons s_str (sa_cons s_str sa_nil))) sa_nil)) (alen_cons (alen_cons alen_nil))))) (ss_one (s_ret s_bl)) ss_nil)
  (ss_one (s_ret (s_or (s_cmp (op_eqA (hu64 hr)) gEq_ok (s_ix (ix_A (hu1 hr)) gIx_ok s_var s_int) s_str) (s_one (s_cmp (op_eqA (hu64 hr)) gEq_ok (s_ix (ix_A (hu1 hr)) gIx_ok (s_ix (ix_A (hu1 hr)) gIx_ok s_var (s_ix (ix_A (hu1 hr)) gIx_ok s_var s_int)) s_int) s_str)))))))
abbrev st_is_ring : Stmt := topS 31
theorem sc_is_ring : FnScope ["conditions", "value", "weight", "at", "pair", "end", "start"] ["conditions", "value"] (defScope st_is_ring) := ⟨rfl, rfl, rfl, by decide +kernel, rfl, by decide +kernel, by decide +kernel⟩
theorem ok_is_ring (G : GOk P K mg) : FnS P w K mg base 6 "is_ring" ["conditions", "value"] m_is_ring := by
  obtain ⟨fa, fd, g, F⟩ := G.def_ 22 rfl
  exact fn_ok F g sc_is_ring (fun _ _ _ _ _ _ us hl => match us, hl with | [_, _], _ => rfl) fun cdv A outer s H E hr tk hp => (ss_cons (s_expr (s_call ((ok_check_conditions G).mono (by decide)) hr tk (sa_cons s_varC sa_nil) (alen_cons alen_nil)))
  (ss_cons (s_if (t_w (w_or (t_not (t_val (s_callB (hv := bb_isinstance) c_isi fIsi_ok (G.fre 1 rfl) (sa_cons s_var (sa_cons (s_ty (hv := bb_tuple) (G.fre 3 rfl)) sa_nil))))) (w_or1 (t_cmp (op_eqA (hu64 hr)) gEq_ok (s_callB (hv := bb_len) c_len fLen_ok (G.fre 6 rfl) (sa_cons s_var sa_nil)) s_int)))) (ss_one (s_ret s_bl)) ss_nil)
  (ss_cons (s_if (t_not (t_val (s_callB (hv := bb_all) (cr_all rfl) fAll_ok (G.fre 8 rfl) (sa_cons (s_lc (own := [("pair", 4)]) sc_is_ring.nd (si_seq s_var) (by kernel_rfl) (fun _ _ _ _ _ => (sg_name sc_is_ring.nd)) (fun _ _ _ _ _ => sts_nil) (fun _ _ _ _ _ => (s_call ((ok_is_pair_of_ring G).mono (by decide)) hr takes0 (sa_cons s_varC (sa_cons s_var sa_nil)) (alen_cons (alen_cons alen_nil))))) sa_nil)))) (ss_one (s_ret s_bl)) ss_nil)
  (ss_cons (s_set sc_is_ring.nd s_int)
  (ss_cons (s_for (vs := [3, 4]) (si_enumA (G.fre 7 rfl) (sa_cons s_var sa_nil)) (sg_tup (sgs_cons (sg_name sc_is_ring.nd) (sgs_cons (sg_name sc_is_ring.nd) sgs_nil))) (ss_cons (s_set sc_is_ring.nd (s_ix (ix_A (hu1 hr)) gIx_ok (s_call ((ok_ends_of G).mono (by decide)) hr tk (sa_cons s_varC (sa_cons s_var sa_nil)) (alen_cons (alen_cons alen_nil))) s_int))
    (ss_cons (s_set sc_is_ring.nd (s_ix (ix_A (hu1 hr)) gIx_ok (s_call ((ok_ends_of G).mono (by decide)) hr tk (sa_cons s_varC (sa_cons (s_ix (ix_A (hu1 hr)) gIx_ok s_var (s_bin op_mod gMod_ok (s_bin op_addA gAdd_ok s_var s_int) (s_callB (hv := bb_len) c_len fLen_ok (G.fre 6 rfl) (sa_cons s_var sa_nil)))) sa_nil)) (alen_cons (alen_cons alen_nil))) s_int))
    (ss_cons (s_aug sc_is_ring.nd iop_add giAdd_ok (s_callT (hv := bb_int) c_int fInt_ok (G.fre 0 rfl) (sa_cons (s_cmp (op_eqA (hu64 hr)) gEq_ok (s_ix (ix_A (hu1 hr)) gIx_ok (s_ix (ix_A (hu1 hr)) gIx_ok s_varC (s_ix (ix_A (hu1 hr)) gIx_ok s_var s_int)) s_int) s_str) sa_nil)))
    (ss_one (s_if (t_w (w_and (t_val (s_callB (hv := bb_isinstance) c_isi fIsi_ok (G.fre 1 rfl) (sa_cons s_var (sa_cons (s_ty (hv := bb_int) (G.fre 0 rfl)) sa_nil)))) (w_and1 (t_val (s_callB (hv := bb_isinstance) c_isi fIsi_ok (G.fre 1 rfl) (sa_cons s_var (sa_cons (s_ty (hv := bb_int) (G.fre 0 rfl)) sa_nil))))))) (ss_one (s_aug sc_is_ring.nd iop_add giAdd_ok (s_bin op_sub gSub_ok s_var s_var))) (ss_one (s_if (t_cmp (op_neA (hu64 hr)) gNe_ok s_var s_var) (ss_one (s_ret s_bl)) ss_nil))))))) hp)
  (ss_one (s_ret (s_cmp op_gt gGt_ok s_var s_int))))))))
abbrev st__law_pot : Stmt := topS 33
theorem sc__law_pot : FnScope ["script", "cell"] ["script"] (defScope st__law_pot) := ⟨rfl, rfl, rfl, by decide +kernel, rfl, by decide +kernel, by decide +kernel⟩
theorem ok__law_pot (G : GOk P K mg) : FnS P w K mg base 1 "_law_pot" ["script"] m__law_pot := by
  obtain ⟨fa, fd, g, F⟩ := G.def_ 23 rfl
  exact fn_ok F g sc__law_pot (fun _ _ _ _ _ _ us hl => match us, hl with | [_], _ => rfl) fun cdv A outer s H E hr tk hp => (ss_one (s_ret (s_lst (sa_cons (s_lc (own := [("cell", 1)]) sc__law_pot.nd (si_seq (s_slice s_var sp_no (sp_at s_int))) (by kernel_rfl) (fun _ _ _ _ _ => (sg_name sc__law_pot.nd)) (fun _ _ _ _ _ => sts_nil) (fun _ _ _ _ _ => (s_callB (hv := bb_abs) c_abs fAbs_ok (G.fre 11 rfl) (sa_cons s_var sa_nil)))) (sa_cons s_int (sa_cons s_int (sa_cons s_int sa_nil)))))))
abbrev st__law_draw : Stmt := topS 34
theorem sc__law_draw : FnScope ["pot", "many", "found", "cell"] ["pot", "many"] (defScope st__law_draw) := ⟨rfl, rfl, rfl, by decide +kernel, rfl, by decide +kernel, by decide +kernel⟩
theorem ok__law_draw (G : GOk P K mg) : FnS P w K mg base 1 "_law_draw" ["pot", "many"] m__law_draw := by
  obtain ⟨fa, fd, g, F⟩ := G.def_ 24 rfl
  exact fn_ok F g sc__law_draw (fun _ _ _ _ _ _ us hl => match us, hl with | [_, _], _ => rfl) fun cdv A outer s H E hr tk hp => (ss_cons (s_if (t_cmp op_lt gLt_ok s_var s_int) (ss_one (s_ret s_int)) ss_nil)
  (ss_cons (s_if (t_cmp op_gt gGt_ok (s_ix (ix_A (hu1 hr)) gIx_ok s_var s_int) s_int) (ss_cons (s_set sc__law_draw.nd (s_bin op_mod gMod_ok (s_callT (hv := bb_int) c_int fInt_ok (G.fre 0 rfl) (sa_cons (s_ix (ix_A (hu1 hr)) gIx_ok s_var s_int) sa_nil)) s_var))
    (ss_cons (s_asg (vs := []) (s_bin op_fdivW gDiv_ok (s_ix (ix_A (hu1 hr)) gIx_ok s_var s_int) s_var) (sg_sub (set_A (hu1 hr)) setA_ok s_var s_int))
    (ss_one (s_ret s_var)))) ss_nil)
  (ss_cons (s_set sc__law_draw.nd s_int)
  (ss_cons (s_if (t_cmp op_lt gLt_ok (s_ix (ix_A (hu1 hr)) gIx_ok s_var s_int) (s_callB (hv := bb_len) c_len fLen_ok (G.fre 6 rfl) (sa_cons (s_ix (ix_A (hu1 hr)) gIx_ok s_var s_int) sa_nil))) (ss_cons (s_set sc__law_draw.nd (s_ix (ix_A (hu1 hr)) gIx_ok (s_ix (ix_A (hu1 hr)) gIx_ok s_var s_int) (s_ix (ix_A (hu1 hr)) gIx_ok s_var s_int)))
    (ss_cons (s_asg (vs := []) (s_bin op_addA gAdd_ok (s_ix (ix_A (hu1 hr)) gIx_ok s_var s_int) s_int) (sg_sub (set_A (hu1 hr)) setA_ok s_var s_int))
    (ss_one (s_if (t_cmp op_ge gGe_ok s_var (s_bin op_pow gPow_ok s_int s_int)) (ss_cons (s_asg (vs := []) (s_bin op_fdivW gDiv_ok s_var s_var) (sg_sub (set_A (hu1 hr)) setA_ok s_var s_int))
    (ss_one (s_ret (s_bin op_mod gMod_ok (s_callT (hv := bb_int) c_int fInt_ok (G.fre 0 rfl) (sa_cons s_var sa_nil)) s_var)))) ss_nil)))) ss_nil)
  (ss_cons (s_asg (vs := []) (s_bin op_mod gMod_ok (s_callT (hv := bb_int) c_int fInt_ok (G.fre 0 rfl) (sa_cons (s_bin op_addA gAdd_ok (s_bin op_addA gAdd_ok (s_bin op_mulA gMul_ok (s_ix (ix_A (hu1 hr)) gIx_ok s_var s_int) s_int) s_var) s_int) sa_nil)) s_int) (sg_sub (set_A (hu1 hr)) setA_ok s_var s_int))
  (ss_one (s_ret (s_bin op_mod gMod_ok (s_callT (hv := bb_int) c_int fInt_ok (G.fre 0 rfl) (sa_cons (s_bin op_addA gAdd_ok (s_bin op_fdivW gDiv_ok (s_bin op_mulA gMul_ok (s_ix (ix_A (hu1 hr)) gIx_ok s_var s_int) (s_ix (ix_A (hu1 hr)) gIx_ok s_var s_int)) s_int) (s_bin op_fdivW gDiv_ok (s_ix (ix_A (hu1 hr)) gIx_ok s_var s_int) s_int)) sa_nil)) s_var))))))))
abbrev st__law_pick : Stmt := topS 35
theorem sc__law_pick : FnScope ["pot", "row"] ["pot", "row"] (defScope st__law_pick) := ⟨rfl, rfl, rfl, by decide +kernel, rfl, by decide +kernel, by decide +kernel⟩
theorem ok__law_pick (G : GOk P K mg) : FnS P w K mg base 2 "_law_pick" ["pot", "row"] m__law_pick := by
  obtain ⟨fa, fd, g, F⟩ := G.def_ 25 rfl
  exact fn_ok F g sc__law_pick (fun _ _ _ _ _ _ us hl => match us, hl with | [_, _], _ => rfl) fun cdv A outer s H E hr tk hp => (ss_one (s_ret (s_ix (ix_A (hu1 hr)) gIx_ok s_var (s_call ((ok__law_draw G).mono (by decide)) hr tk (sa_cons s_var (sa_cons (s_callB (hv := bb_len) c_len fLen_ok (G.fre 6 rfl) (sa_cons s_var sa_nil)) sa_nil)) (alen_cons (alen_cons alen_nil))))))
abbrev st__law_within : Stmt := topS 36
theorem sc__law_within : FnScope ["thing", "low", "high"] ["thing", "low", "high"] (defScope st__law_within) := ⟨rfl, rfl, rfl, by decide +kernel, rfl, by decide +kernel, by decide +kernel⟩
theorem ok__law_within (G : GOk P K mg) : FnS P w K mg base 1 "_law_within" ["thing", "low", "high"] m__law_within := by
  obtain ⟨fa, fd, g, F⟩ := G.def_ 26 rfl
  exact fn_ok F g sc__law_within (fun _ _ _ _ _ _ us hl => match us, hl with | [_, _, _], _ => rfl) fun cdv A outer s H E hr tk hp => (ss_one (s_ret (s_and (s_callB (hv := bb_isinstance) c_isi fIsi_ok (G.fre 1 rfl) (sa_cons s_var (sa_cons (s_ty (hv := bb_int) (G.fre 0 rfl)) sa_nil))) (s_and (s_not (s_callB (hv := bb_isinstance) c_isi fIsi_ok (G.fre 1 rfl) (sa_cons s_var (sa_cons (s_ty (hv := bb_bool) (G.fre 2 rfl)) sa_nil)))) (s_one (s_chain op_le op_le gLe_ok gLe_ok s_var s_var s_var))))))
abbrev st__law_item : Stmt := topS 37
theorem sc__law_item : FnScope ["pot", "many", "wide"] ["pot", "many", "wide"] (defScope st__law_item) := ⟨rfl, rfl, rfl, by decide +kernel, rfl, by decide +kernel, by decide +kernel⟩
theorem ok__law_item (G : GOk P K mg) : FnS P w K mg base 3 "_law_item" ["pot", "many", "wide"] m__law_item := by
  obtain ⟨fa, fd, g, F⟩ := G.def_ 27 rfl
  exact fn_ok F g sc__law_item (fun _ _ _ _ _ _ us hl => match us, hl with | [_, _, _], _ => rfl) fun cdv A outer s H E hr tk hp => (ss_cons (s_if (t_w (w_and (t_cmp op_gt gGt_ok (s_call ((ok__law_draw G).mono (by decide)) hr tk (sa_cons s_var (sa_cons s_int sa_nil)) (alen_cons (alen_cons alen_nil))) s_int) (w_and1 (t_cmp op_gt gGt_ok s_var s_int)))) (ss_one (s_ret (s_tup (sa_cons s_str (sa_cons (s_call ((ok__law_draw G).mono (by decide)) hr tk (sa_cons s_var (sa_cons s_var sa_nil)) (alen_cons (alen_cons alen_nil))) sa_nil))))) ss_nil)
  (ss_one (s_ret (s_call ((ok__law_pick G).mono (by decide)) hr tk (sa_cons s_var (sa_cons (s_lst (sa_cons s_int (sa_cons s_int (sa_cons (s_bin op_sub gSub_ok (s_call ((ok__law_draw G).mono (by decide)) hr tk (sa_cons s_var (sa_cons (s_bin op_addA gAdd_ok (s_bin op_mulA gMul_ok s_int s_var) s_int) sa_nil)) (alen_cons (alen_cons alen_nil))) s_var) sa_nil)))) sa_nil)) (alen_cons (alen_cons alen_nil))))))
abbrev st__law_conditions : Stmt := topS 38
theorem sc__law_conditions : FnScope ["pot", "many", "most", "wide", "found", "k", "word"] ["pot", "many", "most", "wide"] (defScope st__law_conditions) := ⟨rfl, rfl, rfl, by decide +kernel, rfl, by decide +kernel, by decide +kernel⟩
theorem ok__law_conditions (G : GOk P K mg) : FnS P w K mg base 4 "_law_conditions" ["pot", "many", "most", "wide"] m__law_conditions := by
  obtain ⟨fa, fd, g, F⟩ := G.def_ 28 rfl
  exact fn_ok F g sc__law_conditions (fun _ _ _ _ _ _ us hl => match us, hl with | [_, _, _, _], _ => rfl) fun cdv A outer s H E hr tk hp => (ss_cons (s_set sc__law_conditions.nd (s_lst sa_nil))
  (ss_cons (s_for (vs := [5]) (si_range1 (G.fre 10 rfl) (sa_cons (s_call ((ok__law_draw G).mono (by decide)) hr tk (sa_cons s_var (sa_cons (s_bin op_addA gAdd_ok s_var s_int) sa_nil)) (alen_cons (alen_cons alen_nil))) sa_nil)) (sg_name sc__law_conditions.nd) (ss_cons (s_set sc__law_conditions.nd (s_call ((ok__law_pick G).mono (by decide)) hr tk (sa_cons s_var (sa_cons (s_lst (sa_cons s_str (sa_cons s_str (sa_cons s_str sa_nil)))) sa_nil)) (alen_cons (alen_cons alen_nil))))
    (ss_one (s_expr (s_meth PySem.F.plainAttrs_list PySem.F.slot_list_append PySem.F.type_list_append mt_append gAppend_ok s_var (sa_cons (s_tup (sa_cons s_var (sa_cons (s_call ((ok__law_item G).mono (by decide)) hr tk (sa_cons s_var (sa_cons s_var (sa_cons s_var sa_nil))) (alen_cons (alen_cons (alen_cons alen_nil)))) (sa_cons (s_call ((ok__law_item G).mono (by decide)) hr tk (sa_cons s_var (sa_cons s_var (sa_cons s_var sa_nil))) (alen_cons (alen_cons (alen_cons alen_nil)))) sa_nil)))) sa_nil))))) hp)
  (ss_one (s_ret s_var))))
abbrev st__law_is_number : Stmt := topS 39
theorem sc__law_is_number : FnScope ["thing"] ["thing"] (defScope st__law_is_number) := ⟨rfl, rfl, rfl, by decide +kernel, rfl, by decide +kernel, by decide +kernel⟩
theorem ok__law_is_number (G : GOk P K mg) : FnS P w K mg base 1 "_law_is_number" ["thing"] m__law_is_number := by
  obtain ⟨fa, fd, g, F⟩ := G.def_ 29 rfl
  exact fn_ok F g sc__law_is_number (fun _ _ _ _ _ _ us hl => match us, hl with | [_], _ => rfl) fun cdv A outer s H E hr tk hp => (ss_one (s_ret (s_and (s_callB (hv := bb_isinstance) c_isi fIsi_ok (G.fre 1 rfl) (sa_cons s_var (sa_cons (s_ty (hv := bb_int) (G.fre 0 rfl)) sa_nil))) (s_one (s_not (s_callB (hv := bb_isinstance) c_isi fIsi_ok (G.fre 1 rfl) (sa_cons s_var (sa_cons (s_ty (hv := bb_bool) (G.fre 2 rfl)) sa_nil))))))))
abbrev st__law_item_right : Stmt := topS 40
theorem sc__law_item_right : FnScope ["thing"] ["thing"] (defScope st__law_item_right) := ⟨rfl, rfl, rfl, by decide +kernel, rfl, by decide +kernel, by decide +kernel⟩
theorem ok__law_item_right (G : GOk P K mg) : FnS P w K mg base 2 "_law_item_right" ["thing"] m__law_item_right := by
  obtain ⟨fa, fd, g, F⟩ := G.def_ 30 rfl
  exact fn_ok F g sc__law_item_right (fun _ _ _ _ _ _ us hl => match us, hl with | [_], _ => rfl) fun cdv A outer s H E hr tk hp => (ss_cons (s_if (t_val (s_call ((ok__law_is_number G).mono (by decide)) hr tk (sa_cons s_var sa_nil) (alen_cons alen_nil))) (ss_one (s_ret s_bl)) ss_nil)
  (ss_cons (s_if (t_w (w_or (t_not (t_val (s_callB (hv := bb_isinstance) c_isi fIsi_ok (G.fre 1 rfl) (sa_cons s_var (sa_cons (s_ty (hv := bb_tuple) (G.fre 3 rfl)) sa_nil))))) (w_or (t_cmp (op_neA (hu64 hr)) gNe_ok (s_callB (hv := bb_len) c_len fLen_ok (G.fre 6 rfl) (sa_cons s_var sa_nil)) s_int) (w_or (t_not (t_val (s_callB (hv := bb_isinstance) c_isi fIsi_ok (G.fre 1 rfl) (sa_cons (s_ix (ix_A (hu1 hr)) gIx_ok s_var s_int) (sa_cons (s_ty (hv := bb_str) (G.fre 5 rfl)) sa_nil))))) (w_or1 (t_cmp (op_neA (hu64 hr)) gNe_ok (s_ix (ix_A (hu1 hr)) gIx_ok s_var s_int) s_str)))))) (ss_one (s_ret s_bl)) ss_nil)
  (ss_one (s_ret (s_call ((ok__law_within G).mono (by decide)) hr tk (sa_cons (s_ix (ix_A (hu1 hr)) gIx_ok s_var s_int) (sa_cons s_int (sa_cons s_int sa_nil))) (alen_cons (alen_cons (alen_cons alen_nil))))))))
abbrev st__law_right : Stmt := topS 41
theorem sc__law_right : FnScope ["thing"] ["thing"] (defScope st__law_right) := ⟨rfl, rfl, rfl, by decide +kernel, rfl, by decide +kernel, by decide +kernel⟩
theorem ok__law_right (G : GOk P K mg) : FnS P w K mg base 3 "_law_right" ["thing"] m__law_right := by
  obtain ⟨fa, fd, g, F⟩ := G.def_ 31 rfl
  exact fn_ok F g sc__law_right (fun _ _ _ _ _ _ us hl => match us, hl with | [_], _ => rfl) fun cdv A outer s H E hr tk hp => (ss_cons (s_if (t_w (w_or (t_not (t_val (s_callB (hv := bb_isinstance) c_isi fIsi_ok (G.fre 1 rfl) (sa_cons s_var (sa_cons (s_ty (hv := bb_tuple) (G.fre 3 rfl)) sa_nil))))) (w_or (t_cmp (op_neA (hu64 hr)) gNe_ok (s_callB (hv := bb_len) c_len fLen_ok (G.fre 6 rfl) (sa_cons s_var sa_nil)) s_int) (w_or1 (t_not (t_val (s_callB (hv := bb_isinstance) c_isi fIsi_ok (G.fre 1 rfl) (sa_cons (s_ix (ix_A (hu1 hr)) gIx_ok s_var s_int) (sa_cons (s_ty (hv := bb_str) (G.fre 5 rfl)) sa_nil))))))))) (ss_one (s_ret s_bl)) ss_nil)
  (ss_one (s_ret (s_and (s_cmp (op_inA (hu65 hr)) gIn_ok (s_ix (ix_A (hu1 hr)) gIx_ok s_var s_int) (s_tup (sa_cons s_str (sa_cons s_str sa_nil)))) (s_and (s_call ((ok__law_item_right G).mono (by decide)) hr tk (sa_cons (s_ix (ix_A (hu1 hr)) gIx_ok s_var s_int) sa_nil) (alen_cons alen_nil)) (s_one (s_call ((ok__law_item_right G).mono (by decide)) hr tk (sa_cons (s_ix (ix_A (hu1 hr)) gIx_ok s_var s_int) sa_nil) (alen_cons alen_nil))))))))
abbrev st__law_found : Stmt := topS 42
theorem sc__law_found : FnScope ["work", "e"] ["work"] (defScope st__law_found) := ⟨rfl, rfl, rfl, by decide +kernel, rfl, by decide +kernel, by decide +kernel⟩
theorem ok__law_found (G : GOk P K mg) (k : Nat) : FnT P w K mg base k "_law_found" "work" ["work", "e"] (defScope st__law_found) m__law_found := by
  obtain ⟨fa, fd, g, F⟩ := G.def_ 32 rfl
  exact fnT_ok F g sc__law_found (by decide) (fun _ _ _ _ _ _ us hl => match us, hl with | [_], _ => rfl) fun cdv A outer s H E σ0 r mh wk rh hr tk act => (ws0_cons (w_try sc__law_found.nd tk rh (fun W' pn xe tk => ws0_one (w_expr (act W' pn xe _ _ tk))) (hm_ret (G.exm 0 rfl) rfl (fun a oe cls d pn hz hd => (xv_tup (xa_cons x_str (xa_cons (x_fld (G.xf 0 rfl) rfl hz hd) xa_nil)))) (hm_ret (G.exm 2 rfl) rfl (fun a oe cls d pn hz hd => (xv_tup (xa_cons x_str (xa_cons (x_fld (G.xf 2 rfl) rfl hz hd) xa_nil)))) (hm_ret (G.exm 1 rfl) rfl (fun a oe cls d pn hz hd => (xv_tup (xa_cons x_str (xa_cons (x_repr (G.fre 12 rfl) (x_fld (G.xf 1 rfl) rfl hz hd)) xa_nil)))) hm_nil)))) (ss_one (s_ret s_str)) rh)
abbrev st_law : Stmt := topS 43
theorem sc_law : FnScope ["script", "pot", "turn", "conditions", "odd", "time", "at", "thing", "listed", "wrong", "due", "row", "bad", "later", "many", "k", "one"] ["script"] (defScope st_law) := ⟨rfl, rfl, rfl, by decide +kernel, rfl, by decide +kernel, by decide +kernel⟩
theorem ok_law (G : GOk P K mg) (TB : LTB K mg base) : FnS P w K mg base 11 "law" ["script"] m_law := by
  obtain ⟨fa, fd, g, F⟩ := G.def_ 33 rfl
  exact fn_okL G.law F g sc_law (fun _ _ _ _ _ _ us hl => match us, hl with | [_], _ => rfl) fun c P LT cdv hcd A outer s H E hr tk hp => (ss_cons (s_set sc_law.nd (s_call ((ok__law_pot G).mono (by decide)) hr tk (sa_cons s_var sa_nil) (alen_cons alen_nil)))
  (ss_cons (s_for (vs := [2]) (si_range1 (G.fre 10 rfl) (sa_cons s_int sa_nil)) (sg_name sc_law.nd) (ss_cons (s_set sc_law.nd (s_call ((ok__law_conditions G).mono (by decide)) hr tk (sa_cons s_var (sa_cons s_int (sa_cons s_int (sa_cons s_int sa_nil)))) (alen_cons (alen_cons (alen_cons (alen_cons alen_nil))))))
    (ss_cons (s_if (t_cmp (op_eqA (hu64 hr)) gEq_ok (s_call ((ok__law_draw G).mono (by decide)) hr tk (sa_cons s_var (sa_cons s_int sa_nil)) (alen_cons (alen_cons alen_nil))) s_int) (ss_cons (s_set sc_law.nd (s_bin op_mulA gMul_ok (s_lc (own := [("k", 15)]) sc_law.nd (si_range1 (G.fre 10 rfl) (sa_cons s_int sa_nil)) (by kernel_rfl) (fun _ _ _ _ _ => (sg_name sc_law.nd)) (fun _ _ _ _ _ => sts_nil) (fun _ _ _ _ _ => (s_tup (sa_cons s_str (sa_cons (s_tup (sa_cons s_str (sa_cons s_var sa_nil))) (sa_cons (s_tup (sa_cons s_str (sa_cons (s_bin op_addA gAdd_ok s_var s_int) sa_nil))) sa_nil)))))) s_int))
    (ss_one (s_set sc_law.nd (s_slice s_var sp_no (sp_at (s_call ((ok__law_pick G).mono (by decide)) hr tk (sa_cons s_var (sa_cons (s_lst (sa_cons s_int (sa_cons s_int (sa_cons s_int sa_nil)))) sa_nil)) (alen_cons (alen_cons alen_nil)))))))) ss_nil)
    (ss_cons (s_set sc_law.nd (s_lst (sa_cons s_non (sa_cons (s_tup (sa_cons s_str (sa_cons s_int sa_nil))) (sa_cons (s_tup (sa_cons s_str (sa_cons s_int (sa_cons s_int (sa_cons s_int sa_nil))))) (sa_cons (s_lst (sa_cons s_str (sa_cons s_int (sa_cons s_int sa_nil)))) (sa_cons (s_tup (sa_cons s_str (sa_cons s_int (sa_cons s_int sa_nil)))) (sa_cons (s_tup (sa_cons s_str (sa_cons s_bl (sa_cons s_int sa_nil)))) (sa_cons (s_tup (sa_cons s_str (sa_cons s_int (sa_cons s_str sa_nil)))) sa_nil)))))))))
    (ss_cons (s_set sc_law.nd (s_bin op_addA gAdd_ok s_var (s_lst (sa_cons (s_tup (sa_cons s_str (sa_cons (s_tup (sa_cons s_str (sa_cons s_int sa_nil))) (sa_cons s_int sa_nil)))) (sa_cons (s_tup (sa_cons s_str (sa_cons (s_tup (sa_cons s_str (sa_cons (s_un un_neg gNeg_ok s_int) sa_nil))) (sa_cons s_int sa_nil)))) (sa_cons (s_tup (sa_cons s_str (sa_cons (s_tup (sa_cons s_str (sa_cons s_bl sa_nil))) (sa_cons s_int sa_nil)))) (sa_cons (s_tup (sa_cons s_int (sa_cons s_int (sa_cons s_int sa_nil)))) sa_nil)))))))
    (ss_cons (s_set sc_law.nd (s_bin op_addA gAdd_ok s_var (s_lst (sa_cons (s_tup (sa_cons s_str (sa_cons (s_tup (sa_cons s_str (sa_cons s_int sa_nil))) (sa_cons s_int sa_nil)))) (sa_cons (s_tup (sa_cons s_str (sa_cons (s_lst (sa_cons s_str (sa_cons s_int sa_nil))) (sa_cons s_int sa_nil)))) (sa_cons (s_tup (sa_cons s_str (sa_cons (s_tup (sa_cons s_str (sa_cons s_int sa_nil))) (sa_cons (s_bin op_pow gPow_ok s_int s_int) sa_nil)))) sa_nil))))))
    (ss_cons (s_for (vs := [5]) (si_range1 (G.fre 10 rfl) (sa_cons (s_call ((ok__law_draw G).mono (by decide)) hr tk (sa_cons s_var (sa_cons s_int sa_nil)) (alen_cons (alen_cons alen_nil))) sa_nil)) (sg_name sc_law.nd) (ss_cons (s_set sc_law.nd (s_call ((ok__law_draw G).mono (by decide)) hr tk (sa_cons s_var (sa_cons (s_bin op_addA gAdd_ok (s_callB (hv := bb_len) c_len fLen_ok (G.fre 6 rfl) (sa_cons s_var sa_nil)) s_int) sa_nil)) (alen_cons (alen_cons alen_nil))))
    (ss_one (s_set sc_law.nd (s_bin op_addA gAdd_ok (s_bin op_addA gAdd_ok (s_slice s_var sp_no (sp_at s_var)) (s_lst (sa_cons (s_call ((ok__law_pick G).mono (by decide)) hr tk (sa_cons s_var (sa_cons s_var sa_nil)) (alen_cons (alen_cons alen_nil))) sa_nil))) (s_slice s_var (sp_at s_var) sp_no))))) hp)
    (ss_cons (s_setC sc_law.nd (s_call ((ok__law_pick G).mono (by decide)) hr tk (sa_cons s_var (sa_cons (s_lst (sa_cons s_var (sa_cons s_var (sa_cons s_var (sa_cons (s_callT (hv := bb_tuple) c_tuple fTuple_ok (G.fre 3 rfl) (sa_cons s_var sa_nil)) (sa_cons s_non (sa_cons s_str (sa_cons s_dnew (sa_cons s_int sa_nil))))))))) sa_nil)) (alen_cons (alen_cons alen_nil))))
    (ss_cons (s_set sc_law.nd (s_and (s_callB (hv := bb_isinstance) c_isi fIsi_ok (G.fre 1 rfl) (sa_cons s_varC (sa_cons (s_tup (sa_cons (s_ty (hv := bb_list) (G.fre 4 rfl)) (sa_cons (s_ty (hv := bb_tuple) (G.fre 3 rfl)) sa_nil))) sa_nil))) (s_one (s_cmp op_le gLe_ok (s_callB (hv := bb_len) c_len fLen_ok (G.fre 6 rfl) (sa_cons s_varC sa_nil)) s_int))))
    (ss_cons (s_set sc_law.nd (s_ifE (t_val s_var) (s_lc (own := [("k", 15), ("one", 16)]) sc_law.nd (si_enumA (G.fre 7 rfl) (sa_cons s_varC sa_nil)) (by kernel_rfl) (fun _ _ _ _ _ => (sg_tup (sgs_cons (sg_name sc_law.nd) (sgs_cons (sg_name sc_law.nd) sgs_nil)))) (fun _ _ _ _ _ => (sts_one (t_not (t_val (s_call ((ok__law_right G).mono (by decide)) hr takes0 (sa_cons s_var sa_nil) (alen_cons alen_nil)))))) (fun _ _ _ _ _ => s_var)) (s_lst (sa_cons (s_un un_neg gNeg_ok s_int) sa_nil))))
    (ss_cons (s_set sc_law.nd (s_ifE (t_cmp (op_eqA (hu64 hr)) gEq_ok s_var (s_lst sa_nil)) s_str (s_tup (sa_cons s_str (sa_cons (s_ix (ix_A (hu1 hr)) gIx_ok s_var s_int) sa_nil)))))
    (ss_cons (s_if (t_cmp (op_neA (hu64 hr)) gNe_ok (s_lst (sa_cons (s_thunk (ok__law_found G _) LT TB hcd hr tk fun A outer s H E f c hr tk => (s_call ((ok_ring_of G).mono (by decide)) hr tk (sa_cons s_varF sa_nil) (alen_cons alen_nil))) (sa_cons (s_thunk (ok__law_found G _) LT TB hcd hr tk fun A outer s H E f c hr tk => (s_call ((ok_is_ring G).mono (by decide)) hr tk (sa_cons s_varF (sa_cons s_non sa_nil)) (alen_cons (alen_cons alen_nil)))) sa_nil))) (s_lst (sa_cons s_var (sa_cons s_var sa_nil)))) (ss_one (s_ret s_bl)) ss_nil)
    (ss_cons (s_setC sc_law.nd (s_call ((ok__law_pick G).mono (by decide)) hr tk (sa_cons s_var (sa_cons (s_lst (sa_cons (s_lst (sa_cons s_int (sa_cons s_int sa_nil))) (sa_cons (s_lst (sa_cons s_int (sa_cons s_non sa_nil))) (sa_cons (s_lst (sa_cons s_bl sa_nil)) (sa_cons s_str (sa_cons s_non (sa_cons (s_tup (sa_cons s_int (sa_cons s_str sa_nil))) (sa_cons (s_bin op_mulA gMul_ok (s_lst (sa_cons s_int sa_nil)) s_int) sa_nil)))))))) sa_nil)) (alen_cons (alen_cons alen_nil))))
    (ss_cons (s_set sc_law.nd (s_ifE (t_val (s_callB (hv := bb_isinstance) c_isi fIsi_ok (G.fre 1 rfl) (sa_cons s_varC (sa_cons (s_tup (sa_cons (s_ty (hv := bb_list) (G.fre 4 rfl)) (sa_cons (s_ty (hv := bb_tuple) (G.fre 3 rfl)) sa_nil))) sa_nil)))) (s_lc (own := [("k", 15), ("one", 16)]) sc_law.nd (si_enumA (G.fre 7 rfl) (sa_cons s_varC sa_nil)) (by kernel_rfl) (fun _ _ _ _ _ => (sg_tup (sgs_cons (sg_name sc_law.nd) (sgs_cons (sg_name sc_law.nd) sgs_nil)))) (fun _ _ _ _ _ => (sts_one (t_not (t_val (s_call ((ok__law_is_number G).mono (by decide)) hr takes0 (sa_cons s_var sa_nil) (alen_cons alen_nil)))))) (fun _ _ _ _ _ => s_var)) (s_lst (sa_cons (s_un un_neg gNeg_ok s_int) sa_nil))))
    (ss_cons (s_set sc_law.nd (s_ifE (t_w (w_or (t_cmp (op_neA (hu64 hr)) gNe_ok s_var s_str) (w_or1 (t_cmp (op_eqA (hu64 hr)) gEq_ok s_var (s_lst sa_nil))))) s_var (s_tup (sa_cons s_str (sa_cons (s_ix (ix_A (hu1 hr)) gIx_ok s_var s_int) sa_nil)))))
    (ss_cons (s_if (t_cmp (op_neA (hu64 hr)) gNe_ok (s_thunk (ok__law_found G _) LT TB hcd hr tk fun A outer s H E f c hr tk => (s_call ((ok_keeps G).mono (by decide)) hr tk (sa_cons s_varF (sa_cons s_varF sa_nil)) (alen_cons (alen_cons alen_nil)))) s_var) (ss_one (s_ret s_bl)) ss_nil)
    (ss_cons (s_setC sc_law.nd (s_call ((ok__law_pick G).mono (by decide)) hr tk (sa_cons s_var (sa_cons (s_lst (sa_cons s_int (sa_cons s_int (sa_cons s_int (sa_cons s_int (sa_cons s_int (sa_cons (s_un un_neg gNeg_ok s_int) (sa_cons s_bl (sa_cons s_non (sa_cons s_str sa_nil)))))))))) sa_nil)) (alen_cons (alen_cons alen_nil))))
    (ss_cons (s_set sc_law.nd (s_ifE (t_w (w_or (t_cmp (op_neA (hu64 hr)) gNe_ok s_var s_str) (w_or1 (t_val (s_call ((ok__law_within G).mono (by decide)) hr tk (sa_cons s_varC (sa_cons s_int (sa_cons s_int sa_nil))) (alen_cons (alen_cons (alen_cons alen_nil)))))))) s_var (s_tup (sa_cons s_str (sa_cons (s_callB (hv := bb_repr) c_repr fRepr_ok (G.fre 12 rfl) (sa_cons s_varC sa_nil)) sa_nil)))))
    (ss_one (s_if (t_cmp (op_neA (hu64 hr)) gNe_ok (s_thunk (ok__law_found G _) LT TB hcd hr tk fun A outer s H E f c hr tk => (s_call ((ok_numbers_for G).mono (by decide)) hr tk (sa_cons s_varF (sa_cons s_varF sa_nil)) (alen_cons (alen_cons alen_nil)))) s_var) (ss_one (s_ret s_bl)) ss_nil))))))))))))))))))) hp)
  (ss_one (s_ret s_bl))))
end
end Lw
theorem PySem.Challenge.cw_symbolruns_k21_conditions_refused_holds : PySem.Challenge.rw_symbolruns_k21_conditions_refused.Holds :=
  Lw.end0 (fun w K mg base G TB => Lw.ok_law G TB) Lw.pure_law
