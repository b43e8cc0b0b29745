import PyProof.Rows.All
import HandS.ForMost
import HandS.Star
import HandS.Walk
import HandS.TupAny
import HandS.Zip
import HandS.Wide
import HandS.Conv
import HandS.IsInst
import HandS.Strs
import HandS.Slots
import HandS.SlotsOwn
import HandS.Lambda
import HandS.GenList
import KE.GoesMore
import KE.GoesEnum
import HandS.Style
import HandS.SetFor
import HandS.SortInts
import HandS.RaiseMore
import HandS.Words
import HandS.Defaults
import KE.KDictWalk
import KE.KDictCopyH
import KE.KDictPairs
import HandS.TupLen
import KE.KDictDisplayH
import HandS.SortRule
import KE.KDictSum
import HandS.DictComp
import HandS.TupMul
import HandS.TupLe
import HandS.Gcd
import HandS.Deep
import HandS.HeadHook2
import PyProof.AutoSeq1
import PySem.Challenge.RW_armrises_k80_whole_ordered_partings
import Wide.All
import OpenK.AllK
import Wide.FinOn
import KE.KStateDown
import HandS.WordsExc
import HandS.Head0
import HandS.Head1
import HandS.Head2
import HandS.Head3
import HandS.HeadEnd
import HandS.HeadHook1
-- text T0
set_option Elab.async false
set_option linter.all false
set_option maxRecDepth 100000
set_option maxHeartbeats 4000000
namespace T
open PySem L2

inductive D where
  | non | bl (b : Bool) | int (i : Int) | str (x : Str)
  | tup (ds : List D) | lst (ds : List D) | dct (t : Bool) (ks : List (List Key)) (ds : List D)
  | ty (n : String) | fn (i : Nat) | frz (ds : List D) | obj (c : Nat) (ds : List D) | vw (t : Bool) (ks : List (List Key)) (ds : List D)
  deriving Inhabited
/-! dicts: t: the keys are tuples -/
def kHd : List Key → Key
  | k :: _ => k
  | [] => .inl 0
def wfK (t : Bool) (ks : List (List Key)) : Bool := t || ks.all fun k => match k with
  | [_] => true
  | _ => false
def hoD (t : Bool) (ks : List (List Key)) (xs : List V) : HO := match t with
  | true => .dT (ks.zip xs)
  | false => .dK ((ks.map kHd).zip xs)
theorem hoD_mut {t : Bool} {ks : List (List Key)} {xs : List V} : Mut (some (hoD t ks xs)) := by
  cases t <;> exact True.intro

structure Tab where
  K : PySem.W.Frag
  w : World
  fn : Nat → Addr
  /-- the tables of code objects, with the name that their code objects bear -/
  tabs : List (Addr × Str) := []

def Sub (H H' : Hp) : Prop := ∀ a o, H a = some o → H' a = some o
theorem Sub.refl (H : Hp) : Sub H H := fun _ _ h => h
theorem Sub.trans {H1 H2 H3 : Hp} (a : Sub H1 H2) (b : Sub H2 H3) : Sub H1 H3 := fun x o h => b x o (a x o h)

theorem Rd.mono {H H' : Hp} {a : Addr} {u : HO} (s : Sub H H') (h : Rd H a u) : Rd H' a u := by
  rcases h with h | ⟨o, h⟩
  · exact .inl (s _ _ h)
  · exact .inr ⟨o, s _ _ h⟩
theorem SqL.mono {K : PySem.W.Frag} {H H' : Hp} {a : Addr} {xs : List V} (s : Sub H H') (h : SqL K H a xs) : SqL K H' a xs := by
  rcases h with h | h
  · exact .inl (Rd.mono s h)
  · exact .inr h
theorem SqT.mono {K : PySem.W.Frag} {H H' : Hp} {a : Addr} {xs : List V} (s : Sub H H') (h : SqT K H a xs) : SqT K H' a xs := by
  rcases h with h | h
  · exact .inl (Rd.mono s h)
  · exact .inr h

/-- d.items(), d a dict, as an object -/
def vwO (p d : Addr) : HO := .ext fun h => h.get? p = some { cls := .type "dict_items", data := .fields #[.ref d] }
mutual
def Rep (G : Tab) (H : Hp) : D → V → Prop
  | .non, v => v = .non
  | .bl b, v => v = .bl b
  | .int i, v => v = .int i
  | .str x, v => v = .str x
  | .ty n, v => v = .ty n
  | .fn i, v => v = .ref (G.fn i)
  | .tup ds, v => ∃ a xs, v = .ref a ∧ H a = some (.tup xs) ∧ RepL G H ds xs
  | .lst ds, v => ∃ a xs, v = .ref a ∧ H a = some (.lst xs) ∧ RepL G H ds xs
  | .frz ds, v => ∃ a xs, v = .ref a ∧ SqL G.K H a xs ∧ RepL G H ds xs
  | .dct t ks ds, v => ∃ a od xs, v = .ref a ∧ H a = some (.frz od (hoD t ks xs)) ∧ ks.length = ds.length ∧ wfK t ks = true ∧ RepL G H ds xs
  | .obj c ds, v => ∃ a dx xs, v = .ref a ∧ H a = some (SlX.SlO a (G.fn c) dx (xs.map some)) ∧ H dx = some (.xd []) ∧ dx ≠ a ∧ RepL G H ds xs
  | .vw t ks ds, v => ∃ p d od xs, v = .ref p ∧ H p = some (vwO p d) ∧ H d = some (.frz od (hoD t ks xs)) ∧ ks.length = ds.length ∧ wfK t ks = true ∧ RepL G H ds xs
def RepL (G : Tab) (H : Hp) : List D → List V → Prop
  | [], xs => xs = []
  | d :: ds, xs => ∃ v vs, xs = v :: vs ∧ Rep G H d v ∧ RepL G H ds vs
end

mutual
theorem Rep.mono {G : Tab} {H H' : Hp} (s : Sub H H') : ∀ (d : D) (v : V), Rep G H d v → Rep G H' d v
  | .non, _, h => h
  | .bl _, _, h => h
  | .int _, _, h => h
  | .str _, _, h => h
  | .ty _, _, h => h
  | .fn _, _, h => h
  | .tup ds, v, h => by
    unfold Rep at h ⊢
    obtain ⟨a, xs, e, q, r⟩ := h
    exact ⟨a, xs, e, s _ _ q, RepL.mono s ds xs r⟩
  | .lst ds, v, h => by
    unfold Rep at h ⊢
    obtain ⟨a, xs, e, q, r⟩ := h
    exact ⟨a, xs, e, s _ _ q, RepL.mono s ds xs r⟩
  | .frz ds, v, h => by
    unfold Rep at h ⊢
    obtain ⟨a, xs, e, q, r⟩ := h
    exact ⟨a, xs, e, SqL.mono s q, RepL.mono s ds xs r⟩
  | .dct t ks ds, v, h => by
    unfold Rep at h ⊢
    obtain ⟨a, od, xs, e, q, l, w, r⟩ := h
    exact ⟨a, od, xs, e, s _ _ q, l, w, RepL.mono s ds xs r⟩
  | .obj c ds, v, h => by
    unfold Rep at h ⊢
    obtain ⟨a, dx, xs, e, q, q2, n, r⟩ := h
    exact ⟨a, dx, xs, e, s _ _ q, s _ _ q2, n, RepL.mono s ds xs r⟩
  | .vw t ks ds, v, h => by
    unfold Rep at h ⊢
    obtain ⟨p, d, od, xs, e, q, q2, l, w, r⟩ := h
    exact ⟨p, d, od, xs, e, s _ _ q, s _ _ q2, l, w, RepL.mono s ds xs r⟩
theorem RepL.mono {G : Tab} {H H' : Hp} (s : Sub H H') : ∀ (ds : List D) (xs : List V), RepL G H ds xs → RepL G H' ds xs
  | [], _, h => h
  | d :: ds, xs, h => by
    unfold RepL at h ⊢
    obtain ⟨v, vs, e, r, q⟩ := h
    exact ⟨v, vs, e, Rep.mono s d v r, RepL.mono s ds vs q⟩
end
theorem RepL.length {G : Tab} {H : Hp} : ∀ {ds : List D} {xs : List V}, RepL G H ds xs → xs.length = ds.length
  | [], xs, h => by unfold RepL at h; subst h; rfl
  | d :: ds, xs, h => by
    unfold RepL at h
    obtain ⟨v, vs, e, _, q⟩ := h
    subst e
    show vs.length + 1 = ds.length + 1
    rw [RepL.length q]
theorem RepL.get {G : Tab} {H : Hp} : ∀ {ds : List D} {xs : List V} {i : Nat} {d : D}, RepL G H ds xs → ds[i]? = some d → ∃ v, xs[i]? = some v ∧ Rep G H d v
  | [], xs, i, d, h, e => by rw [List.getElem?_nil] at e; cases e
  | d0 :: ds, xs, i, d, h, e => by
    unfold RepL at h
    obtain ⟨v, vs, e1, r, q⟩ := h
    subst e1
    cases i with
    | zero => simp at e; subst e; exact ⟨v, rfl, r⟩
    | succ i =>
      obtain ⟨w, a, b⟩ := RepL.get (i := i) (d := d) q (by simpa using e)
      exact ⟨w, by simpa using a, b⟩
theorem RepL.get' {G : Tab} {H : Hp} {ds : List D} {xs : List V} {i : Nat} {v : V} (h : RepL G H ds xs) (e : xs[i]? = some v) : ∃ d, ds[i]? = some d ∧ Rep G H d v := by
  have hl := h.length
  have hi : i < xs.length := (List.getElem?_eq_some_iff.mp e).1
  have hi2 : i < ds.length := by omega
  obtain ⟨w, a, b⟩ := RepL.get (i := i) (d := ds[i]) h (List.getElem?_eq_getElem hi2)
  rw [a] at e; cases e
  exact ⟨ds[i], List.getElem?_eq_getElem hi2, b⟩
theorem RepL.append {G : Tab} {H : Hp} : ∀ {ds es : List D} {xs ys : List V}, RepL G H ds xs → RepL G H es ys → RepL G H (ds ++ es) (xs ++ ys)
  | [], es, xs, ys, h, k => by unfold RepL at h; subst h; exact k
  | d :: ds, es, xs, ys, h, k => by
    unfold RepL at h
    obtain ⟨v, vs, e, r, q⟩ := h
    subst e
    show RepL G H (d :: (ds ++ es)) (v :: (vs ++ ys))
    unfold RepL
    exact ⟨v, _, rfl, r, RepL.append q k⟩
theorem RepL.nil {G : Tab} {H : Hp} : RepL G H [] [] := by unfold RepL; rfl
theorem RepL.cons {G : Tab} {H : Hp} {d : D} {ds : List D} {v : V} {vs : List V} (r : Rep G H d v) (q : RepL G H ds vs) : RepL G H (d :: ds) (v :: vs) := by
  unfold RepL; exact ⟨v, vs, rfl, r, q⟩
theorem RepL.one {G : Tab} {H : Hp} {d : D} {v : V} (r : Rep G H d v) : RepL G H [d] [v] := .cons r .nil

/-! slots -/
inductive Sl where
  | un | fz (d : D) | own (d : D) | io (d : D)
  deriving Inhabited
abbrev Gam := List Sl
def OwnRep (G : Tab) (HF H : Hp) : D → Addr → Prop
  | .lst ds, a => ∃ xs, H a = some (.lst xs) ∧ HF a = none ∧ RepL G HF ds xs
  | .dct t ks ds, a => ∃ xs, H a = some (hoD t ks xs) ∧ HF a = none ∧ ks.length = ds.length ∧ wfK t ks = true ∧ RepL G HF ds xs
  | .obj c ds, a => ∃ dx xs, H a = some (SlX.SlO a (G.fn c) dx (xs.map some)) ∧ HF a = none ∧ HF dx = some (.xd []) ∧ dx ≠ a ∧ RepL G HF ds xs
  | _, _ => False
def SlOk (G : Tab) (HF H : Hp) (o : Option V) : Sl → Prop
  | .un => True
  | .fz d => ∃ v, o = some v ∧ Rep G HF d v
  | .own d => ∃ a, o = some (.ref a) ∧ OwnRep G HF H d a
  | .io d => ∃ a, o = some (.ref a) ∧ OwnRep G HF H d a
def Sl.owns : Sl → Bool
  | .own _ => true | .io _ => true | _ => false
def Sl.isIo : Sl → Bool
  | .io _ => true | _ => false
def OwnAt (σ : St) (γ : Gam) (i : Nat) (a : Addr) : Prop := (∃ s, γ[i]? = some s ∧ s.owns = true) ∧ σ[i]? = some (some (.ref a))

/-- the frozen part lies in the heap; the tables stand in the heap, their code objects in the frozen part -/
structure SubT (G : Tab) (HF H : Hp) : Prop where
  s : Sub HF H
  t : ∀ p ∈ G.tabs, HF p.1 = none ∧ ∃ ps : Array Value, H p.1 = some (.tbl ps) ∧ TriplesOk ps.toList ∧ ∀ (pos : Pos) (cv : Value), codeAmong pos ps.toList = some cv → ∃ c, cv = .ref c ∧ HF c = some (LamX.CodeO c p.2)
instance {G : Tab} {HF H : Hp} : CoeFun (SubT G HF H) (fun _ => ∀ (a : Addr) (o : HO), HF a = some o → H a = some o) := ⟨fun k a o h => k.s a o h⟩
theorem SubT.trans {G : Tab} {HF H H' : Hp} (k : SubT G HF H) (b : Sub H H') : SubT G HF H' :=
  ⟨k.s.trans b, fun p hp => by
    obtain ⟨n, ps, e, q, z⟩ := k.t p hp
    exact ⟨n, ps, b _ _ e, q, z⟩⟩
theorem SubT.move {G : Tab} {HF H HF' H' : Hp} (k : SubT G HF H) (s : Sub HF' H') (m : Sub HF HF') (f : ∀ p ∈ G.tabs, ∀ ps, H p.1 = some (.tbl ps) → H' p.1 = H p.1 ∧ (HF p.1 = none → HF' p.1 = none)) : SubT G HF' H' :=
  ⟨s, fun p hp => by
    obtain ⟨n, ps, e, q, z⟩ := k.t p hp
    obtain ⟨f1, f2⟩ := f p hp ps e
    exact ⟨f2 n, ps, f1.trans e, q, fun pos cv h => by
      obtain ⟨c, e1, e2⟩ := z pos cv h
      exact ⟨c, e1, m _ _ e2⟩⟩⟩
structure Ok (G : Tab) (σ : St) (H HF : Hp) (γ : Gam) : Prop where
  subT : SubT G HF H
  len : σ.length = γ.length
  sl : ∀ (i : Nat) s, γ[i]? = some s → SlOk G HF H (σ[i]?.join) s
  dis : ∀ i j a, OwnAt σ γ i a → OwnAt σ γ j a → i = j
theorem Ok.sub {G : Tab} {σ : St} {H HF : Hp} {γ : Gam} (k : Ok G σ H HF γ) : Sub HF H := k.subT.s

def NT (o : Option HO) : Prop := ∃ xs, o = some (.tup xs)
/-- it stays, or a table becomes another -/
def Fr (o o' : Option HO) : Prop := o' = o ∨ ∃ ps ps', o = some (.tbl ps) ∧ o' = some (.tbl ps')
theorem Fr.trans {o1 o2 o3 : Option HO} (a : Fr o1 o2) (b : Fr o2 o3) : Fr o1 o3 := by
  rcases a with rfl | ⟨p, q, rfl, rfl⟩
  · exact b
  · rcases b with rfl | ⟨p', q', _, rfl⟩
    · exact .inr ⟨_, _, rfl, rfl⟩
    · exact .inr ⟨_, _, rfl, rfl⟩
theorem Fr.eq {o o' : Option HO} (a : Fr o o') (n : ∀ ps, o ≠ some (.tbl ps)) : o' = o := by
  rcases a with h | ⟨p, q, h, _⟩
  · exact h
  · exact absurd h (n p)
theorem Fr.nn {o o' : Option HO} (a : Fr o o') (n : o ≠ none) : o' ≠ none := by
  rcases a with rfl | ⟨p, q, _, rfl⟩
  · exact n
  · exact fun z => nomatch z
theorem Fr.nt {o o' : Option HO} (a : Fr o o') (n : NT o') : NT o := by
  rcases a with rfl | ⟨p, q, rfl, rfl⟩
  · exact n
  · obtain ⟨xs, z⟩ := n
    cases z
structure Stp (σ : St) (γ : Gam) (H HF : Hp) (σ' : St) (γ' : Gam) (H' HF' : Hp) : Prop where
  mono : Sub HF HF'
  frame : ∀ b, H b ≠ none → (∀ i, ¬ OwnAt σ γ i b) → Fr (H b) (H' b) ∧ (HF' b = HF b ∨ NT (H b))
  own : ∀ j b, OwnAt σ' γ' j b → (∃ i, OwnAt σ γ i b) ∨ H b = none
  io : ∀ (i : Nat) s, γ[i]? = some s → s.isIo = true → (∃ s', γ'[i]? = some s' ∧ s'.isIo = true) ∧ σ'[i]? = σ[i]?

theorem Stp.refl {σ : St} {γ : Gam} {H HF : Hp} : Stp σ γ H HF σ γ H HF :=
  ⟨Sub.refl _, fun _ _ _ => ⟨.inl rfl, .inl rfl⟩, fun j b h => .inl ⟨j, h⟩, fun i s e h => ⟨⟨s, e, h⟩, rfl⟩⟩
theorem Stp.trans {σ σ1 σ2 : St} {γ γ1 γ2 : Gam} {H HF H1 HF1 H2 HF2 : Hp} (a : Stp σ γ H HF σ1 γ1 H1 HF1) (b : Stp σ1 γ1 H1 HF1 σ2 γ2 H2 HF2) : Stp σ γ H HF σ2 γ2 H2 HF2 where
  mono := a.mono.trans b.mono
  frame := fun c h n => by
    obtain ⟨e1, e2⟩ := a.frame c h n
    have n1 : ∀ i, ¬ OwnAt σ1 γ1 i c := fun i q => by
      rcases a.own i c q with ⟨j, q⟩ | q
      · exact n j q
      · exact h q
    obtain ⟨f1, f2⟩ := b.frame c (e1.nn h) n1
    refine ⟨e1.trans f1, ?_⟩
    rcases e2 with e2 | e2
    · rcases f2 with f2 | f2
      · exact .inl (f2.trans e2)
      · exact .inr (e1.nt f2)
    · exact .inr e2
  own := fun j c q => by
    rcases b.own j c q with ⟨i, q⟩ | q
    · exact a.own i c q
    · by_cases hn : ∃ i, OwnAt σ γ i c
      · exact .inl hn
      · by_cases hz : H c = none
        · exact .inr hz
        · obtain ⟨e1, _⟩ := a.frame c hz fun i z => hn ⟨i, z⟩
          exact absurd q (e1.nn hz)
  io := fun i s e h => by
    obtain ⟨⟨s', e', h'⟩, q⟩ := a.io i s e h
    obtain ⟨z, q'⟩ := b.io i s' e' h'
    exact ⟨z, q'.trans q⟩

/-! results -/
inductive R where
  | fz (d : D) | own (d : D)
  deriving Inhabited
structure Exn where
  cls : Nat
  pay : List D
  deriving Inhabited
inductive Out (α : Type) where
  | ok (a : α) (γ : Gam)
  | er (x : Exn) (γ : Gam)
  | bad
/-- how an exception lies -/
def XRep (G : Tab) (x : Exn) (cls : Value) (d : Option Addr) (H HF : Hp) : Prop := cls = .ref (G.fn x.cls)

/-- a result, from a start to an end -/
def ROk2 (G : Tab) (σ : L2.St) (γ : Gam) (H : Hp) (σ' : L2.St) (γ' : Gam) (H' HF' : Hp) : R → V → Prop
  | .fz d, v => Rep G HF' d v
  | .own d, v => ∃ a, v = .ref a ∧ OwnRep G HF' H' d a ∧ (∀ j, ¬ OwnAt σ' γ' j a) ∧ (H a = none ∨ ∃ i, OwnAt σ γ i a)
abbrev ROk (G : Tab) (σ : L2.St) (γ : Gam) (H : Hp) (γ' : Gam) (H' HF' : Hp) : R → V → Prop := ROk2 G σ γ H σ γ' H' HF'

abbrev Wt := Value → Option Addr → L2.St → Hp → Prop
def Out.bind {α β : Type} (o : Out α) (f : α → Gam → Out β) : Out β := match o with
  | .ok a γ => f a γ
  | .er x γ => .er x γ
  | .bad => .bad
/-- how what is told lies in the heap: the slots, the start, the end -/
abbrev RelK (α β : Type) := L2.St → Gam → Hp → Gam → Hp → Hp → α → β → Prop
def post {α β : Type} (rel : RelK α β) (G : Tab) (W : Wt) (σ : L2.St) (γ : Gam) (H HF : Hp) (Q : β → Hp → Prop) : Out α → Prop
  | .ok a γ' => ∀ b H' HF', Ok G σ H' HF' γ' → Stp σ γ H HF σ γ' H' HF' → rel σ γ H γ' H' HF' a b → Q b H'
  | .er x γ' => ∀ cls d H' HF', Ok G σ H' HF' γ' → Stp σ γ H HF σ γ' H' HF' → XRep G x cls d H' HF' → W cls d σ H'
  | .bad => False
def tM {α β : Type} (rel : RelK α β) (G : Tab) (W : Wt) (m : Gam → Out α) : L2.St → Hp → (β → Hp → Prop) → Prop := fun σ H Q => ∃ HF γ, Ok G σ H HF γ ∧ post rel G W σ γ H HF Q (m γ)
def rE (G : Tab) : RelK R V := fun σ γ H γ' H' HF' r v => ROk G σ γ H γ' H' HF' r v
abbrev tE (G : Tab) (W : Wt) (m : Gam → Out R) : TE := tM (rE G) G W m

/-- an operand: a frozen value, or a slot as it stands -/
inductive Ar where
  | d (d : D) | sl (i : Nat)
  deriving Inhabited
def ArOk (G : Tab) (σ : L2.St) (HF : Hp) : Ar → V → Prop
  | .d d, v => Rep G HF d v
  | .sl i, v => σ[i]? = some (some v)
def rO (G : Tab) : RelK Ar V := fun σ _ _ _ _ HF' r v => ArOk G σ HF' r v
abbrev tO (G : Tab) (W : Wt) (m : Gam → Out Ar) : TE := tM (rO G) G W m
inductive ArsOk (G : Tab) (σ : L2.St) (HF : Hp) : List Ar → List V → Prop
  | nil : ArsOk G σ HF [] []
  | cons {a : Ar} {as : List Ar} {v : V} {vs : List V} : ArOk G σ HF a v → ArsOk G σ HF as vs → ArsOk G σ HF (a :: as) (v :: vs)
def rA (G : Tab) : RelK (List Ar) (List V) := fun σ _ _ _ _ HF' r v => ArsOk G σ HF' r v
abbrev tA (G : Tab) (W : Wt) (m : Gam → Out (List Ar)) : TA := tM (rA G) G W m
def rT : RelK Bool Bool := fun _ _ _ _ _ _ a b => a = b
abbrev tT (G : Tab) (W : Wt) (m : Gam → Out Bool) : TT := tM rT G W m

theorem post_bind {α β α' β' : Type} {r1 : RelK α β} {r2 : RelK α' β'} {G : Tab} {W : Wt} {σ : L2.St} {γ : Gam} {H HF : Hp} {Q1 : β → Hp → Prop} {Q : β' → Hp → Prop} {f : α → Gam → Out α'} : ∀ {o : Out α}, post r2 G W σ γ H HF Q (o.bind f) →
    (∀ a γ1 b1 H1 HF1, Ok G σ H1 HF1 γ1 → Stp σ γ H HF σ γ1 H1 HF1 → r1 σ γ H γ1 H1 HF1 a b1 → post r2 G W σ γ H HF Q (f a γ1) → Q1 b1 H1) → post r1 G W σ γ H HF Q1 o
  | .ok a γ1, h, k => fun b H1 HF1 h1 h2 h3 => k a γ1 b H1 HF1 h1 h2 h3 h
  | .er x γ1, h, _ => h
  | .bad, h, _ => h
structure Later {α β : Type} (r : RelK α β) : Prop where
  mv : ∀ {σ : L2.St} {γ γ1 γ' : Gam} {H HF H1 HF1 H' HF' : Hp} {a : α} {b : β}, Stp σ γ H HF σ γ1 H1 HF1 → r σ γ1 H1 γ' H' HF' a b → r σ γ H γ' H' HF' a b
/-- the start moved on -/
theorem post_from {α β : Type} {r : RelK α β} (L : Later r) {G : Tab} {W : Wt} {σ : L2.St} {γ γ1 : Gam} {H HF H1 HF1 : Hp} {Q : β → Hp → Prop} (s : Stp σ γ H HF σ γ1 H1 HF1) : ∀ {o : Out α}, post r G W σ γ H HF Q o → post r G W σ γ1 H1 HF1 Q o
  | .ok a γ', h => fun b H' HF' k1 k2 k3 => h b H' HF' k1 (s.trans k2) (L.mv s k3)
  | .er x γ', h => fun c d H' HF' k1 k2 k3 => h c d H' HF' k1 (s.trans k2) k3
  | .bad, h => h
theorem later_O {G : Tab} : Later (rO G) := ⟨fun _ h => h⟩
theorem later_A {G : Tab} : Later (rA G) := ⟨fun _ h => h⟩
theorem later_T : Later rT := ⟨fun _ h => h⟩
theorem later_E {G : Tab} : Later (rE G) := by
  refine ⟨?_⟩
  intro σ γ γ1 γ' H HF H1 HF1 H' HF' a b s h
  cases a with
  | fz d => exact h
  | own d =>
    obtain ⟨a, e, o, n, w⟩ := h
    refine ⟨a, e, o, n, ?_⟩
    rcases w with w | ⟨i, w⟩
    · by_cases hn : ∃ i, OwnAt σ γ i a
      · exact .inr hn
      · by_cases hz : H a = none
        · exact .inl hz
        · obtain ⟨e1, _⟩ := s.frame a hz fun i z => hn ⟨i, z⟩
          exact absurd w (e1.nn hz)
    · rcases s.own i a w with q | q
      · exact .inr q
      · exact .inl q

inductive OutS where
  | nx (γ : Gam) | rt (r : R) (γ : Gam) | bk (γ : Gam) | ct (γ : Gam) | er (x : Exn) (γ : Gam) | bad
def postS (G : Tab) (W : Wt) (σ : St) (γ : Gam) (H HF : Hp) (E : Ends) : OutS → Prop
  | .nx γ' => ∀ σ' H' HF', Ok G σ' H' HF' γ' → Stp σ γ H HF σ' γ' H' HF' → E.nx σ' H'
  | .bk γ' => ∀ σ' H' HF', Ok G σ' H' HF' γ' → Stp σ γ H HF σ' γ' H' HF' → E.bk σ' H'
  | .ct γ' => ∀ σ' H' HF', Ok G σ' H' HF' γ' → Stp σ γ H HF σ' γ' H' HF' → E.ct σ' H'
  | .rt r γ' => ∀ σ' v H' HF', Ok G σ' H' HF' γ' → Stp σ γ H HF σ' γ' H' HF' → ROk2 G σ γ H σ' γ' H' HF' r v → E.rt v H'
  | .er x γ' => ∀ cls d σ' H' HF', Ok G σ' H' HF' γ' → Stp σ γ H HF σ' γ' H' HF' → XRep G x cls d H' HF' → W cls d σ' H'
  | .bad => False
theorem ROk2.from {G : Tab} {σ σ1 σ' : L2.St} {γ γ1 γ' : Gam} {H HF H1 HF1 H' HF' : Hp} {r : R} {v : V} (s : Stp σ γ H HF σ1 γ1 H1 HF1) (h : ROk2 G σ1 γ1 H1 σ' γ' H' HF' r v) : ROk2 G σ γ H σ' γ' H' HF' r v := by
  cases r with
  | fz d => exact h
  | own d =>
    obtain ⟨a, e, o, n, w⟩ := h
    refine ⟨a, e, o, n, ?_⟩
    rcases w with w | ⟨i, w⟩
    · by_cases hn : ∃ i, OwnAt σ γ i a
      · exact .inr hn
      · by_cases hz : H a = none
        · exact .inl hz
        · obtain ⟨e1, _⟩ := s.frame a hz fun i z => hn ⟨i, z⟩
          exact absurd w (e1.nn hz)
    · rcases s.own i a w with q | q
      · exact .inr q
      · exact .inl q
theorem postS_from {G : Tab} {W : Wt} {σ σ1 : L2.St} {γ γ1 : Gam} {H HF H1 HF1 : Hp} {E : Ends} (s : Stp σ γ H HF σ1 γ1 H1 HF1) : ∀ {o : OutS}, postS G W σ γ H HF E o → postS G W σ1 γ1 H1 HF1 E o
  | .nx _, h => fun σ' H' HF' k1 k2 => h σ' H' HF' k1 (s.trans k2)
  | .bk _, h => fun σ' H' HF' k1 k2 => h σ' H' HF' k1 (s.trans k2)
  | .ct _, h => fun σ' H' HF' k1 k2 => h σ' H' HF' k1 (s.trans k2)
  | .rt _ _, h => fun σ' v H' HF' k1 k2 r => h σ' v H' HF' k1 (s.trans k2) (r.from s)
  | .er _ _, h => fun c d σ' H' HF' k1 k2 r => h c d σ' H' HF' k1 (s.trans k2) r
  | .bad, h => h
def Out.toS {α : Type} (o : Out α) (f : α → Gam → OutS) : OutS := match o with
  | .ok a γ => f a γ
  | .er x γ => .er x γ
  | .bad => .bad
theorem postS_bind {α β : Type} {r1 : RelK α β} {G : Tab} {W : Wt} {σ : L2.St} {γ : Gam} {H HF : Hp} {Q1 : β → Hp → Prop} {E : Ends} {f : α → Gam → OutS} : ∀ {o : Out α}, postS G W σ γ H HF E (o.toS f) →
    (∀ a γ1 b1 H1 HF1, Ok G σ H1 HF1 γ1 → Stp σ γ H HF σ γ1 H1 HF1 → r1 σ γ H γ1 H1 HF1 a b1 → postS G W σ γ H HF E (f a γ1) → Q1 b1 H1) → post r1 G W σ γ H HF Q1 o
  | .ok a γ1, h, k => fun b H1 HF1 h1 h2 h3 => k a γ1 b H1 HF1 h1 h2 h3 h
  | .er x γ1, h, _ => fun c d H' HF' k1 k2 r => h c d σ H' HF' k1 k2 r
  | .bad, h, _ => h
def tS (G : Tab) (W : Wt) (m : Gam → OutS) : TS := fun E σ H => ∃ HF γ, Ok G σ H HF γ ∧ postS G W σ γ H HF E (m γ)
end T

-- text T1
set_option Elab.async false
set_option linter.all false
set_option maxRecDepth 100000
set_option maxHeartbeats 4000000
namespace T
open PySem L2

theorem sub_upd {H : Hp} {a : Addr} {o : HO} (h : H a = none) : Sub H (upd H a o) := fun b u e => by
  rw [upd_ne (ne_of_none e h)]; exact e
theorem Ok.hf_none {G : Tab} {σ : L2.St} {H HF : Hp} {γ : Gam} (k : Ok G σ H HF γ) {p : Addr} (h : H p = none) : HF p = none := by
  cases e : HF p with
  | none => rfl
  | some u => rw [k.sub _ _ e] at h; cases h
theorem OwnRep.nt {G : Tab} {HF H : Hp} {d : D} {a : Addr} (h : OwnRep G HF H d a) : ¬ NT (H a) := by
  rintro ⟨ys, z⟩
  cases d with
  | lst ds => obtain ⟨xs, e, _⟩ := h; rw [e] at z; cases z
  | dct t ks ds => obtain ⟨xs, e, _⟩ := h; rw [e] at z; cases t <;> cases z
  | obj c ds => obtain ⟨dx, xs, e, _⟩ := h; rw [e] at z; unfold SlX.SlO at z; cases z
  | _ => exact h.elim
theorem OwnRep.ntb {G : Tab} {HF H : Hp} {d : D} {a : Addr} (h : OwnRep G HF H d a) : ∀ ps, H a ≠ some (.tbl ps) := by
  intro ps z
  cases d with
  | lst ds => obtain ⟨xs, e, _⟩ := h; rw [e] at z; cases z
  | dct t ks ds => obtain ⟨xs, e, _⟩ := h; rw [e] at z; cases t <;> cases z
  | obj c ds => obtain ⟨dx, xs, e, _⟩ := h; rw [e] at z; unfold SlX.SlO at z; cases z
  | _ => exact h.elim
theorem OwnRep.at_ {G : Tab} {HF H : Hp} {d : D} {a : Addr} (h : OwnRep G HF H d a) : ∃ o, H a = some o ∧ HF a = none := by
  cases d with
  | lst ds => obtain ⟨xs, e, n, _⟩ := h; exact ⟨_, e, n⟩
  | dct t ks ds => obtain ⟨xs, e, n, _⟩ := h; exact ⟨_, e, n⟩
  | obj c ds => obtain ⟨dx, xs, e, n, _⟩ := h; exact ⟨_, e, n⟩
  | _ => exact h.elim
/-- own things stay where the heap and the frozen part stay -/
theorem OwnRep.keep {G : Tab} {HF H HF' H' : Hp} {d : D} {a : Addr} (h : OwnRep G HF H d a) (s : Sub HF HF') (e : H' a = H a) (n : HF' a = none) : OwnRep G HF' H' d a := by
  cases d with
  | lst ds => obtain ⟨xs, e1, _, r⟩ := h; exact ⟨xs, e.trans e1, n, RepL.mono s _ _ r⟩
  | dct t ks ds => obtain ⟨xs, e1, _, l, w, r⟩ := h; exact ⟨xs, e.trans e1, n, l, w, RepL.mono s _ _ r⟩
  | obj c ds => obtain ⟨dx, xs, e1, _, q, m, r⟩ := h; exact ⟨dx, xs, e.trans e1, n, s _ _ q, m, RepL.mono s _ _ r⟩
  | _ => exact h.elim
theorem SlOk.own_at {G : Tab} {HF H : Hp} {o : Option V} {s : Sl} (h : SlOk G HF H o s) (w : s.owns = true) : ∃ a d, o = some (.ref a) ∧ OwnRep G HF H d a := by
  cases s with
  | un => cases w
  | fz d => cases w
  | own d => obtain ⟨a, e, r⟩ := h; exact ⟨a, d, e, r⟩
  | io d => obtain ⟨a, e, r⟩ := h; exact ⟨a, d, e, r⟩
theorem Ok.own {G : Tab} {σ : L2.St} {H HF : Hp} {γ : Gam} (k : Ok G σ H HF γ) {i : Nat} {a : Addr} (h : OwnAt σ γ i a) : ∃ o, H a = some o ∧ HF a = none := by
  obtain ⟨⟨s, e, w⟩, q⟩ := h
  have z := k.sl i s e
  rw [q] at z
  obtain ⟨b, d, e1, r⟩ := z.own_at w
  cases e1
  exact r.at_
theorem Ok.nt {G : Tab} {σ : L2.St} {H HF : Hp} {γ : Gam} (k : Ok G σ H HF γ) {i : Nat} {a : Addr} (h : OwnAt σ γ i a) : ¬ NT (H a) := by
  obtain ⟨⟨s, e, w⟩, q⟩ := h
  have z := k.sl i s e
  rw [q] at z
  obtain ⟨b, d, e1, r⟩ := z.own_at w
  cases e1
  exact r.nt
theorem Ok.ntb {G : Tab} {σ : L2.St} {H HF : Hp} {γ : Gam} (k : Ok G σ H HF γ) {i : Nat} {a : Addr} (h : OwnAt σ γ i a) : ∀ ps, H a ≠ some (.tbl ps) := by
  obtain ⟨⟨s, e, w⟩, q⟩ := h
  have z := k.sl i s e
  rw [q] at z
  obtain ⟨b, d, e1, r⟩ := z.own_at w
  cases e1
  exact r.ntb
theorem or_nt {o x y : Option HO} (h : x = y ∨ NT o) (n : ¬ NT o) : x = y := h.elim id fun z => absurd z n
/-- a slot's state moved along -/
theorem SlOk.keep {G : Tab} {HF H HF' H' : Hp} {o : Option V} {s : Sl} (h : SlOk G HF H o s) (m : Sub HF HF') (f : ∀ a, s.owns = true → o = some (.ref a) → H' a = H a ∧ HF' a = none) : SlOk G HF' H' o s := by
  cases s with
  | un => trivial
  | fz d => obtain ⟨v, e, r⟩ := h; exact ⟨v, e, Rep.mono m d v r⟩
  | own d => obtain ⟨a, e, r⟩ := h; obtain ⟨e1, e2⟩ := f a rfl e; exact ⟨a, e, r.keep m e1 e2⟩
  | io d => obtain ⟨a, e, r⟩ := h; obtain ⟨e1, e2⟩ := f a rfl e; exact ⟨a, e, r.keep m e1 e2⟩
theorem ownAt_of {σ : L2.St} {γ : Gam} {i : Nat} {s : Sl} {a : Addr} (e : γ[i]? = some s) (w : s.owns = true) (q : σ[i]?.join = some (.ref a)) : OwnAt σ γ i a := by
  refine ⟨⟨s, e, w⟩, ?_⟩
  cases h : σ[i]? with
  | none => rw [h] at q; cases q
  | some o => rw [h] at q; simp at q; rw [q]
/-- the heap and its frozen part grow, own things stay -/
theorem Ok.keep {G : Tab} {σ : L2.St} {H HF H' HF' : Hp} {γ : Gam} (k : Ok G σ H HF γ) (s : SubT G HF' H') (m : Sub HF HF') (f : ∀ i a, OwnAt σ γ i a → H' a = H a ∧ HF' a = none) : Ok G σ H' HF' γ :=
  ⟨s, k.len, fun i sl e => (k.sl i sl e).keep m fun a w q => f i a (ownAt_of e w q), k.dis⟩

/-- a new object, not frozen -/
theorem Ok.laid {G : Tab} {σ : L2.St} {H HF : Hp} {γ : Gam} (k : Ok G σ H HF γ) {p : Addr} {o : HO} (h : H p = none) : Ok G σ (upd H p o) HF γ :=
  k.keep (k.subT.trans (sub_upd h)) (Sub.refl _) fun i a q => by
    obtain ⟨u, e, n⟩ := k.own q
    exact ⟨upd_ne (ne_of_none e h), n⟩
theorem Stp.laid {σ : L2.St} {γ : Gam} {H HF : Hp} {p : Addr} {o : HO} (h : H p = none) : Stp σ γ H HF σ γ (upd H p o) HF :=
  ⟨Sub.refl _, fun b nb _ => ⟨.inl (upd_ne (fun z => nb (z ▸ h))), .inl rfl⟩, fun j b q => .inl ⟨j, q⟩, fun i s e w => ⟨⟨s, e, w⟩, rfl⟩⟩
/-- frozen -/
theorem Ok.frz {G : Tab} {σ : L2.St} {H HF : Hp} {γ : Gam} (k : Ok G σ H HF γ) {p : Addr} {o : HO} (h : H p = some o) (n : HF p = none) (w : ∀ j, ¬ OwnAt σ γ j p) (nt : ∀ ps, o ≠ .tbl ps := by intro ps z; cases z) : Ok G σ H (upd HF p o) γ :=
  k.keep (k.subT.move (fun b u e => by
    by_cases hb : b = p
    · subst hb; rw [upd_same] at e; cases e; exact h
    · rw [upd_ne hb] at e; exact k.sub _ _ e) (sub_upd n) fun q _ ps e => ⟨rfl, fun e2 => (upd_ne fun z => by rw [z, h] at e; cases e; exact nt _ rfl).trans e2⟩) (sub_upd n) fun i a q => by
    obtain ⟨u, e, m⟩ := k.own q
    exact ⟨rfl, by rw [upd_ne (show a ≠ p from fun z => w i (by rw [← z]; exact q))]; exact m⟩
theorem Stp.frz {σ σ' : L2.St} {γ γ' : Gam} {H HF H' HF' : Hp} (s : Stp σ γ H HF σ' γ' H' HF') {p : Addr} {o : HO} (n : HF' p = none) (w : H p = none ∨ ∃ i, OwnAt σ γ i p) : Stp σ γ H HF σ' γ' H' (upd HF' p o) :=
  ⟨s.mono.trans (sub_upd n), fun b nb q => by
    obtain ⟨e1, e2⟩ := s.frame b nb q
    refine ⟨e1, ?_⟩
    rw [upd_ne]
    · exact e2
    · rintro rfl
      rcases w with w | ⟨i, w⟩
      · exact nb w
      · exact q i w, s.own, s.io⟩
/-- a new object, frozen at once -/
theorem Ok.laidF {G : Tab} {σ : L2.St} {H HF : Hp} {γ : Gam} (k : Ok G σ H HF γ) {p : Addr} {o : HO} (h : H p = none) (nt : ∀ ps, o ≠ .tbl ps := by intro ps z; cases z) : Ok G σ (upd H p o) (upd HF p o) γ :=
  (k.laid h).frz upd_same (k.hf_none h) (fun j q => by
    obtain ⟨u, e, _⟩ := k.own q
    rw [h] at e; cases e) nt
theorem Stp.laidF {G : Tab} {σ : L2.St} {γ : Gam} {H HF : Hp} (k : Ok G σ H HF γ) {p : Addr} {o : HO} (h : H p = none) : Stp σ γ H HF σ γ (upd H p o) (upd HF p o) :=
  (Stp.laid h).frz (k.hf_none h) (.inl h)

/-- what an own thing becomes when it is frozen: w stands at its place, in the heap and in the frozen part -/
theorem OwnRep.fz {G : Tab} {HF H : Hp} {d : D} {a : Addr} (o : OwnRep G HF H d a) : ∃ u, H a = some u ∧ HF a = none ∧ (Rep G (upd HF a u) d (.ref a) ∨ (Mut (some u) ∧ ∀ od, Rep G (upd HF a (.frz od u)) d (.ref a))) := by
  cases d with
  | lst ds =>
    obtain ⟨xs, e1, e2, q⟩ := o
    refine ⟨_, e1, e2, .inl ?_⟩
    unfold Rep
    exact ⟨a, xs, rfl, upd_same, RepL.mono (sub_upd e2) _ _ q⟩
  | dct t ks ds =>
    obtain ⟨xs, e1, e2, l, w, q⟩ := o
    refine ⟨_, e1, e2, .inr ⟨hoD_mut, fun od => ?_⟩⟩
    unfold Rep
    exact ⟨a, od, xs, rfl, upd_same, l, w, RepL.mono (sub_upd e2) _ _ q⟩
  | obj c ds =>
    obtain ⟨dx, xs, e1, e2, e3, n, q⟩ := o
    refine ⟨_, e1, e2, .inl ?_⟩
    unfold Rep
    exact ⟨a, dx, xs, rfl, upd_same, sub_upd e2 _ _ e3, n, RepL.mono (sub_upd e2) _ _ q⟩
  | _ => exact o.elim
/-- the heap is written at one place, which is frozen from then on -/
theorem Ok.frzW {G : Tab} {σ : L2.St} {H HF H' : Hp} {γ : Gam} (k : Ok G σ H HF γ) {p : Addr} {o : HO} (h : H' p = some o) (hr : ∀ b, b ≠ p → H' b = H b) (n : HF p = none) (w : ∀ j, ¬ OwnAt σ γ j p) (nt : ∀ ps, H p ≠ some (.tbl ps)) : Ok G σ H' (upd HF p o) γ :=
  k.keep (k.subT.move (fun b u e => by
    by_cases hb : b = p
    · subst hb; rw [upd_same] at e; cases e; exact h
    · rw [upd_ne hb] at e; rw [hr b hb]; exact k.sub _ _ e) (sub_upd n) fun q _ ps e => have ne : q.1 ≠ p := fun z => by rw [z] at e; exact nt ps e
    ⟨hr _ ne, fun e2 => (upd_ne ne).trans e2⟩) (sub_upd n) fun i a q => by
    obtain ⟨u, e, m⟩ := k.own q
    have ne : a ≠ p := fun z => w i (by rw [← z]; exact q)
    exact ⟨hr a ne, by rw [upd_ne ne]; exact m⟩
theorem Stp.frzW {σ σ' : L2.St} {γ γ' : Gam} {H HF H' HF' H2 : Hp} (s : Stp σ γ H HF σ' γ' H' HF') {p : Addr} {o : HO} (hr : ∀ b, b ≠ p → H2 b = H' b) (n : HF' p = none) (w : H p = none ∨ ∃ i, OwnAt σ γ i p) : Stp σ γ H HF σ' γ' H2 (upd HF' p o) :=
  ⟨s.mono.trans (sub_upd n), fun b nb q => by
    obtain ⟨e1, e2⟩ := s.frame b nb q
    have ne : b ≠ p := by
      rintro rfl
      rcases w with w | ⟨i, w⟩
      · exact nb w
      · exact q i w
    exact ⟨by rw [hr b ne]; exact e1, e2.imp (fun z => (upd_ne ne).trans z) id⟩, s.own, s.io⟩
/-- an own result is frozen -/
theorem ROk.frz {G : Tab} {σ : L2.St} {γ γ' : Gam} {H HF H' HF' : Hp} {d : D} {v : V} (r : ROk G σ γ H γ' H' HF' (.own d) v) (k : Ok G σ H' HF' γ') (s : Stp σ γ H HF σ γ' H' HF') :
    ∃ a u, H' a = some u ∧ ((∃ HF2, Ok G σ H' HF2 γ' ∧ Stp σ γ H HF σ γ' H' HF2 ∧ Sub HF' HF2 ∧ Rep G HF2 d v) ∨
      (Mut (some u) ∧ ∀ od, ∃ HF2, Ok G σ (upd H' a (.frz od u)) HF2 γ' ∧ Stp σ γ H HF σ γ' (upd H' a (.frz od u)) HF2 ∧ Sub HF' HF2 ∧ Rep G HF2 d v)) := by
  obtain ⟨a, e, o, n, w⟩ := r
  subst e
  have nb := o.ntb
  obtain ⟨u, h1, h2, q⟩ := o.fz
  refine ⟨a, u, h1, ?_⟩
  rcases q with q | ⟨m, q⟩
  · exact .inl ⟨_, k.frz h1 h2 n (fun ps z => nb ps (z ▸ h1)), s.frz h2 w, sub_upd h2, q⟩
  · exact .inr ⟨m, fun od => ⟨_, k.frzW upd_same (fun b hb => upd_ne hb) h2 n nb, s.frzW (fun b hb => upd_ne hb) h2 w, sub_upd h2, q od⟩⟩
/-- an expression, then a thing locked for good -/
def tFz (t : TE) : TE := fun σ H Q => t σ H fun v H' => Q v H' ∨ ∃ d u, H' d = some u ∧ Mut (some u) ∧ ∀ od, Q v (upd H' d (.frz od u))
theorem pe_fz {X : Cx} {e : Expr} {t : TE} (h : PE X e t) : PE X e (tFz t) := by
  refine ⟨fun pins s σ H Q I hw => ?_⟩
  refine thn (h.run pins s σ H _ I hw) fun v s1 ⟨x, H1, I2, r, q⟩ => ?_
  rcases q with q | ⟨d, u, e, m, q⟩
  · exact ⟨x, H1, I2, r, q⟩
  · obtain ⟨od, I3⟩ := I2.lock e m
    exact ⟨x, _, I3, r, q od⟩
section
variable {X : Cx} {G : Tab} {W : Wt} {σ : L2.St} {H : Hp}
/-- from a result to an operand -/
def fO (m : Gam → Out R) : Gam → Out Ar := fun γ => match m γ with
  | .ok (.fz d) γ' => .ok (.d d) γ'
  | .ok (.own d) γ' => .ok (.d d) γ'
  | .er x γ' => .er x γ'
  | .bad => .bad
theorem tO_of {m : Gam → Out R} {Q : VK} (h : tO G W (fO m) σ H Q) : tFz (tE G W m) σ H Q := by
  obtain ⟨HF, γ, k, p⟩ := h
  refine ⟨HF, γ, k, ?_⟩
  unfold fO at p
  cases e : m γ with
  | bad => rw [e] at p; exact p
  | er x γ' => rw [e] at p; exact p
  | ok r γ' =>
    rw [e] at p
    cases r with
    | fz d => exact fun v H' HF' k' s' r' => .inl (p v H' HF' k' s' r')
    | own d =>
      intro v H' HF' k' s' r'
      obtain ⟨a, u, h1, q⟩ := r'.frz k' s'
      rcases q with ⟨HF2, k2, s2, m2, r2⟩ | ⟨mu, q⟩
      · exact .inl (p v H' HF2 k2 s2 r2)
      · refine .inr ⟨a, u, h1, mu, fun od => ?_⟩
        obtain ⟨HF2, k2, s2, m2, r2⟩ := q od
        exact p v _ HF2 k2 s2 r2
theorem to_val {e : Expr} {m : Gam → Out R} (h : PE X e (tE G W m)) : PE X e (tO G W (fO m)) := ⟨fun pins s σ H Q I hw => (pe_fz h).run pins s σ H Q I (tO_of hw)⟩

/-- a slot as it stands -/
def oSl (i : Nat) : Gam → Out Ar := fun γ => match γ[i]? with
  | some (.un) => .bad
  | some _ => .ok (.sl i) γ
  | none => .bad
theorem Ok.val {G : Tab} {σ : L2.St} {H HF : Hp} {γ : Gam} (k : Ok G σ H HF γ) {i : Nat} {s : Sl} (e : γ[i]? = some s) (n : s ≠ .un) : ∃ v, σ[i]? = some (some v) := by
  have z := k.sl i s e
  have j : ∀ v : V, σ[i]?.join = some v → σ[i]? = some (some v) := fun v q => by
    cases h : σ[i]? with
    | none => rw [h] at q; cases q
    | some o => rw [h] at q; simp at q; rw [q]
  cases s with
  | un => exact absurd rfl n
  | fz d => obtain ⟨v, q, _⟩ := z; exact ⟨v, j v q⟩
  | own d => obtain ⟨a, q, _⟩ := z; exact ⟨_, j _ q⟩
  | io d => obtain ⟨a, q, _⟩ := z; exact ⟨_, j _ q⟩
theorem to_sl {i : Nat} {x : Str} {pos : Pos} (hN : X.N[i]? = some x) (hv : Vis X.env.scope x) (hd : (x == ("__debug__" : Str)) = false) (hcd : (x == ("__classdict__" : Str)) = false) : PE X (.Name x pos) (tO G W (oSl i)) := by
  refine ⟨fun pins s σ H Q I h => (pe_var hN hv hd hcd).run pins s σ H Q I ?_⟩
  obtain ⟨HF, γ, k, p⟩ := h
  unfold oSl at p
  cases e : γ[i]? with
  | none => rw [e] at p; exact p.elim
  | some sl =>
    rw [e] at p
    by_cases n : sl = .un
    · subst n; exact p.elim
    · obtain ⟨v, q⟩ := k.val e n
      refine ⟨v, q, ?_⟩
      cases sl with
      | un => exact absurd rfl n
      | _ => exact p v H HF k .refl q
/-- a slot's value, frozen -/
def eRd (i : Nat) : Gam → Out R := fun γ => match γ[i]? with
  | some (.fz d) => .ok (.fz d) γ
  | some (.own d) => .ok (.fz d) (γ.set i (.fz d))
  | _ => .bad
/-- a slot's value, taken out of the slot -/
def eMv (i : Nat) : Gam → Out R := fun γ => match γ[i]? with
  | some (.fz d) => .ok (.fz d) γ
  | some (.own d) => .ok (.own d) (γ.set i .un)
  | _ => .bad
end
theorem getE_set {α : Type} {l : List α} {i j : Nat} {x y : α} (e : (l.set i x)[j]? = some y) : (j = i ∧ y = x ∧ i < l.length) ∨ (j ≠ i ∧ l[j]? = some y) := by
  by_cases h : j = i
  · subst h
    by_cases hl : j < l.length
    · rw [List.getElem?_set_self hl] at e; cases e; exact .inl ⟨rfl, rfl, hl⟩
    · rw [List.getElem?_eq_none (by simpa using hl)] at e; cases e
  · rw [List.getElem?_set_ne (Ne.symm h)] at e; exact .inr ⟨h, e⟩
/-- own slots after a slot has ceased to own -/
theorem OwnAt.unset {σ : L2.St} {γ : Gam} {i j : Nat} {s : Sl} {a : Addr} (w : s.owns = false) (h : OwnAt σ (γ.set i s) j a) : j ≠ i ∧ OwnAt σ γ j a := by
  obtain ⟨⟨t, e, q⟩, z⟩ := h
  rcases getE_set e with ⟨_, rfl, _⟩ | ⟨n, e⟩
  · rw [w] at q; cases q
  · exact ⟨n, ⟨⟨t, e, q⟩, z⟩⟩
theorem Stp.unown {G : Tab} {σ : L2.St} {γ : Gam} {H HF : Hp} {i : Nat} {s s0 : Sl} (e : γ[i]? = some s0) (n0 : s0.isIo = false) (w : s.owns = false) : Stp σ γ H HF σ (γ.set i s) H HF :=
  ⟨Sub.refl _, fun b _ _ => ⟨.inl rfl, .inl rfl⟩, fun j b q => .inl ⟨j, (q.unset w).2⟩, fun j t et wt => by
    refine ⟨⟨t, ?_, wt⟩, rfl⟩
    rw [List.getElem?_set_ne]
    · exact et
    · rintro rfl; rw [e] at et; cases et; rw [n0] at wt; cases wt⟩
section
variable {X : Cx} {G : Tab} {W : Wt}
theorem join_eq {σ : L2.St} {i : Nat} {v : V} (h : σ[i]?.join = some v) : σ[i]? = some (some v) := by
  cases q : σ[i]? with
  | none => rw [q] at h; cases h
  | some o => rw [q] at h; simp at h; rw [h]
/-- the own thing in slot i is frozen -/
theorem Ok.fzSl {σ : L2.St} {H HF H' : Hp} {γ : Gam} (k : Ok G σ H HF γ) {i : Nat} {d : D} {a : Addr} {w : HO} (e : γ[i]? = some (.own d)) (q : σ[i]?.join = some (.ref a)) (h1 : H' a = some w) (h2 : ∀ b, b ≠ a → H' b = H b) (n : HF a = none) (r : Rep G (upd HF a w) d (.ref a)) :
    Ok G σ H' (upd HF a w) (γ.set i (.fz d)) ∧ Stp σ γ H HF σ (γ.set i (.fz d)) H' (upd HF a w) := by
  have oa : OwnAt σ γ i a := ownAt_of e rfl q
  have m : Sub HF (upd HF a w) := sub_upd n
  have un : ∀ j b, OwnAt σ (γ.set i (.fz d)) j b → b ≠ a ∧ OwnAt σ γ j b := fun j b h => by
    obtain ⟨n, h⟩ := h.unset rfl
    exact ⟨fun z => n (k.dis _ _ _ (z ▸ h) oa), h⟩
  refine ⟨⟨k.subT.move (fun b u eb => ?_) m (fun q _ ps eq => have ne : q.1 ≠ a := fun z => k.ntb oa ps (z ▸ eq)
    ⟨h2 _ ne, fun e2 => (upd_ne ne).trans e2⟩), by rw [List.length_set]; exact k.len, fun j s ej => ?_, fun j l b h1 h2 => k.dis j l b (un j b h1).2 (un l b h2).2⟩,
    ⟨m, fun b nb nw => ?_, fun j b h => .inl ⟨j, (un j b h).2⟩, (Stp.unown (G := G) (HF := HF) (H := H) (σ := σ) (s := .fz d) e rfl rfl).io⟩⟩
  · by_cases hb : b = a
    · subst hb; rw [upd_same] at eb; cases eb; exact h1
    · rw [upd_ne hb] at eb; rw [h2 b hb]; exact k.sub _ _ eb
  · rcases getE_set ej with ⟨rfl, rfl, _⟩ | ⟨n, ej⟩
    · exact ⟨.ref a, q, r⟩
    · refine (k.sl j s ej).keep m fun b w qb => ?_
      have ob := ownAt_of ej w qb
      obtain ⟨_, _, nb⟩ := k.own ob
      have ne : b ≠ a := fun z => n (k.dis _ _ _ (by rw [← z]; exact ob) oa)
      exact ⟨h2 b ne, (upd_ne ne).trans nb⟩
  · have ne : b ≠ a := fun z => nw i (by rw [z]; exact oa)
    exact ⟨.inl (h2 b ne), .inl (upd_ne ne)⟩
theorem te_rd {i : Nat} {x : Str} {pos : Pos} (hN : X.N[i]? = some x) (hv : Vis X.env.scope x) (hd : (x == ("__debug__" : Str)) = false) (hcd : (x == ("__classdict__" : Str)) = false) : PE X (.Name x pos) (tE G W (eRd i)) := by
  refine ⟨fun pins s σ H Q I h => (pe_fz (pe_var hN hv hd hcd)).run pins s σ H Q I ?_⟩
  obtain ⟨HF, γ, k, p⟩ := h
  unfold eRd at p
  cases e : γ[i]? with
  | none => rw [e] at p; exact p.elim
  | some sl =>
    rw [e] at p
    have z := k.sl i sl e
    cases sl with
    | un => exact p.elim
    | io d => exact p.elim
    | fz d =>
      obtain ⟨v, q, r⟩ := z
      exact ⟨v, join_eq q, .inl (p v H HF k .refl r)⟩
    | own d =>
      obtain ⟨a, q, r⟩ := z
      refine ⟨.ref a, join_eq q, ?_⟩
      obtain ⟨u, h1, h2, z⟩ := r.fz
      rcases z with z | ⟨mu, z⟩
      · obtain ⟨k2, s2⟩ := k.fzSl e q h1 (fun _ _ => rfl) h2 z
        exact .inl (p (.ref a) H _ k2 s2 z)
      · refine .inr ⟨a, u, h1, mu, fun od => ?_⟩
        obtain ⟨k2, s2⟩ := k.fzSl e q (H' := upd H a (.frz od u)) upd_same (fun b hb => upd_ne hb) h2 (z od)
        exact p (.ref a) _ _ k2 s2 (z od)
theorem te_mv {i : Nat} {x : Str} {pos : Pos} (hN : X.N[i]? = some x) (hv : Vis X.env.scope x) (hd : (x == ("__debug__" : Str)) = false) (hcd : (x == ("__classdict__" : Str)) = false) : PE X (.Name x pos) (tE G W (eMv i)) := by
  refine ⟨fun pins s σ H Q I h => (pe_var hN hv hd hcd).run pins s σ H Q I ?_⟩
  obtain ⟨HF, γ, k, p⟩ := h
  unfold eMv at p
  cases e : γ[i]? with
  | none => rw [e] at p; exact p.elim
  | some sl =>
    rw [e] at p
    have z := k.sl i sl e
    cases sl with
    | un => exact p.elim
    | io d => exact p.elim
    | fz d =>
      obtain ⟨v, q, r⟩ := z
      exact ⟨v, join_eq q, p v H HF k .refl r⟩
    | own d =>
      obtain ⟨a, q, r⟩ := z
      refine ⟨.ref a, join_eq q, ?_⟩
      have oa : OwnAt σ γ i a := ownAt_of e rfl q
      refine p (.ref a) H HF ⟨k.subT, by rw [List.length_set]; exact k.len, fun j s ej => ?_, fun j l b h1 h2 => k.dis j l b (h1.unset rfl).2 (h2.unset rfl).2⟩ (Stp.unown (G := G) (s0 := .own d) e rfl rfl) ⟨a, rfl, r, fun j h => ?_, .inr ⟨i, oa⟩⟩
      · rcases getE_set ej with ⟨rfl, rfl, _⟩ | ⟨n, ej⟩
        · trivial
        · exact k.sl j s ej
      · obtain ⟨n, h⟩ := h.unset rfl
        exact n (k.dis _ _ _ h oa)
end
end T

-- text T2
set_option Elab.async false
set_option linter.all false
set_option maxRecDepth 100000
set_option maxHeartbeats 4000000
namespace T
open PySem L2
section
variable {X : Cx} {G : Tab} {W : Wt} {σ : L2.St} {H HF HF' : Hp} {γ : Gam}
theorem ArOk.mono {a : Ar} {v : V} (s : Sub HF HF') (h : ArOk G σ HF a v) : ArOk G σ HF' a v := by
  cases a with
  | d d => exact Rep.mono s d v h
  | sl i => exact h
theorem ArsOk.mono (s : Sub HF HF') : ∀ {as : List Ar} {vs : List V}, ArsOk G σ HF as vs → ArsOk G σ HF' as vs
  | _, _, .nil => .nil
  | _, _, .cons h t => .cons (h.mono s) (ArsOk.mono s t)

def aNil : Gam → Out (List Ar) := fun γ => .ok [] γ
def aCons (m : Gam → Out Ar) (ms : Gam → Out (List Ar)) : Gam → Out (List Ar) := fun γ => (m γ).bind fun a γ1 => (ms γ1).bind fun as γ2 => .ok (a :: as) γ2
theorem ta_nil {Q : List V → Hp → Prop} (h : tA G W aNil σ H Q) : tNil σ H Q := by
  obtain ⟨HF, γ, k, p⟩ := h
  exact p [] H HF k .refl .nil
theorem ta_cons {m : Gam → Out Ar} {ms : Gam → Out (List Ar)} {Q : List V → Hp → Prop} (h : tA G W (aCons m ms) σ H Q) : tCons (tO G W m) (tA G W ms) σ H Q := by
  obtain ⟨HF, γ, k, p⟩ := h
  refine ⟨HF, γ, k, post_bind (r1 := rO G) p fun a γ1 b1 H1 HF1 k1 s1 r1 p1 => ?_⟩
  refine ⟨HF1, γ1, k1, post_bind (r1 := rA G) (post_from later_A s1 p1) fun as γ2 vs H2 HF2 k2 s2 r2 p2 => ?_⟩
  exact p2 (b1 :: vs) H2 HF2 k2 s2 (.cons (ArOk.mono s2.mono r1) r2)
theorem tpa_nil : PA X [] (tA G W aNil) := ⟨fun pos pins s σ H Q I h => pa_nil.run pos pins s σ H Q I (ta_nil h)⟩
theorem tpa_cons {e : Expr} {es : List Expr} {m : Gam → Out Ar} {ms : Gam → Out (List Ar)} (ha : PE X e (tO G W m)) (hr : PA X es (tA G W ms)) (hs : starEach (e :: es) X.env = (false, eval e X.env) :: starEach es X.env) :
    PA X (e :: es) (tA G W (aCons m ms)) := ⟨fun pos pins s σ H Q I h => (pa_cons ha hr hs).run pos pins s σ H Q I (ta_cons h)⟩

/-! what an operand holds -/
def slD : Sl → Option D
  | .fz d => some d | .own d => some d | .io d => some d | .un => none
def look (γ : Gam) : Ar → Option D
  | .d d => some d
  | .sl i => match γ[i]? with
    | some s => slD s
    | none => none
def looks (γ : Gam) : List Ar → Option (List D)
  | [] => some []
  | a :: as => match look γ a with
    | some d => (match looks γ as with
      | some ds => some (d :: ds)
      | none => none)
    | none => none
def Pk (G : Tab) (HF H : Hp) (d : D) (v : V) : Prop := Rep G HF d v ∨ ∃ a, v = .ref a ∧ OwnRep G HF H d a
inductive Pks (G : Tab) (HF H : Hp) : List D → List V → Prop
  | nil : Pks G HF H [] []
  | cons {d : D} {ds : List D} {v : V} {vs : List V} : Pk G HF H d v → Pks G HF H ds vs → Pks G HF H (d :: ds) (v :: vs)
theorem look_pk (k : Ok G σ H HF γ) {a : Ar} {v : V} {d : D} (r : ArOk G σ HF a v) (e : look γ a = some d) : Pk G HF H d v := by
  cases a with
  | d d' => cases e; exact .inl r
  | sl i =>
    have r' : σ[i]? = some (some v) := r
    unfold look at e
    cases q : γ[i]? with
    | none => simp only [q] at e; cases e
    | some s =>
      simp only [q] at e
      have z := k.sl i s q
      rw [r'] at z
      cases s with
      | un => cases e
      | fz d' =>
        cases e
        obtain ⟨w, e1, rr⟩ := z
        cases e1
        exact .inl rr
      | own d' =>
        cases e
        obtain ⟨a, e1, rr⟩ := z
        cases e1
        exact .inr ⟨a, rfl, rr⟩
      | io d' =>
        cases e
        obtain ⟨a, e1, rr⟩ := z
        cases e1
        exact .inr ⟨a, rfl, rr⟩
theorem looks_pk (k : Ok G σ H HF γ) : ∀ {as : List Ar} {vs : List V} {ds : List D}, ArsOk G σ HF as vs → looks γ as = some ds → Pks G HF H ds vs
  | _, _, _, .nil, e => by cases e; exact .nil
  | a :: as, _, ds, .cons r t, e => by
    unfold looks at e
    cases q : look γ a with
    | none => rw [q] at e; cases e
    | some d =>
      rw [q] at e
      cases q2 : looks γ as with
      | none => rw [q2] at e; cases e
      | some ds' =>
        rw [q2] at e
        cases e
        exact .cons (look_pk k r q) (looks_pk k t q2)
theorem Pk.int {i : Int} {v : V} (h : Pk G HF H (.int i) v) : v = .int i := by
  rcases h with h | ⟨_, _, h⟩
  · exact h
  · exact h.elim
theorem Pk.bl {i : Bool} {v : V} (h : Pk G HF H (.bl i) v) : v = .bl i := by
  rcases h with h | ⟨_, _, h⟩
  · exact h
  · exact h.elim
theorem Pk.str {i : Str} {v : V} (h : Pk G HF H (.str i) v) : v = .str i := by
  rcases h with h | ⟨_, _, h⟩
  · exact h
  · exact h.elim
theorem Pk.non {v : V} (h : Pk G HF H .non v) : v = .non := by
  rcases h with h | ⟨_, _, h⟩
  · exact h
  · exact h.elim
theorem Pk.ty {n : String} {v : V} (h : Pk G HF H (.ty n) v) : v = .ty n := by
  rcases h with h | ⟨_, _, h⟩
  · exact h
  · exact h.elim
theorem Pk.tup {ds : List D} {v : V} (s : Sub HF H) (h : Pk G HF H (.tup ds) v) : ∃ a xs, v = .ref a ∧ SqT G.K H a xs ∧ RepL G HF ds xs := by
  rcases h with h | ⟨_, _, h⟩
  · unfold Rep at h
    obtain ⟨a, xs, e, q, r⟩ := h
    exact ⟨a, xs, e, SqT.of (s _ _ q), r⟩
  · exact h.elim
theorem Pk.tupF {ds : List D} {v : V} (h : Pk G HF H (.tup ds) v) : Rep G HF (.tup ds) v := by
  rcases h with h | ⟨_, _, h⟩
  · exact h
  · exact h.elim
theorem Pk.lst {ds : List D} {v : V} (s : Sub HF H) (h : Pk G HF H (.lst ds) v) : ∃ a xs, v = .ref a ∧ H a = some (.lst xs) ∧ RepL G HF ds xs := by
  rcases h with h | ⟨a, e, xs, h, _, r⟩
  · unfold Rep at h
    obtain ⟨a, xs, e, q, r⟩ := h
    exact ⟨a, xs, e, s _ _ q, r⟩
  · exact ⟨a, xs, e, h, r⟩
theorem Pk.frz {ds : List D} {v : V} (s : Sub HF H) (h : Pk G HF H (.frz ds) v) : ∃ a xs, v = .ref a ∧ SqL G.K H a xs ∧ RepL G HF ds xs := by
  rcases h with h | ⟨_, _, h⟩
  · unfold Rep at h
    obtain ⟨a, xs, e, q, r⟩ := h
    exact ⟨a, xs, e, SqL.mono s q, r⟩
  · exact h.elim

/-! results of operations -/
inductive BR where
  | val (d : D) | newL (ds : List D) | newT (ds : List D) | newD (t : Bool) (ks : List (List Key)) (ds : List D) | newLF (ds : List D)
def BRes (G : Tab) (HF H : Hp) : BR → V → Hp → Prop
  | .val d, v, H' => H' = H ∧ Rep G HF d v
  | .newL ds, v, H' => ∃ p xs, v = .ref p ∧ H p = none ∧ H' = upd H p (.lst xs) ∧ RepL G HF ds xs
  | .newT ds, v, H' => ∃ p xs, v = .ref p ∧ H p = none ∧ H' = upd H p (.tup xs) ∧ RepL G HF ds xs
  | .newD t ks ds, v, H' => ∃ p xs, v = .ref p ∧ H p = none ∧ H' = upd H p (hoD t ks xs) ∧ ks.length = ds.length ∧ wfK t ks = true ∧ RepL G HF ds xs
  | .newLF ds, v, H' => ∃ p xs HF2, v = .ref p ∧ H p = none ∧ H' = upd H p (.lst xs) ∧ Sub HF HF2 ∧ Sub HF2 H ∧ (∀ b, HF2 b = HF b ∨ NT (H b)) ∧ RepL G HF2 ds xs
def BR.out (br : BR) (γ : Gam) : Out R := match br with
  | .val d => .ok (.fz d) γ
  | .newL ds => .ok (.own (.lst ds)) γ
  | .newT ds => .ok (.fz (.tup ds)) γ
  | .newD t ks ds => .ok (.own (.dct t ks ds)) γ
  | .newLF ds => .ok (.own (.lst ds)) γ
def ofB (o : Option BR) (γ : Gam) : Out R := match o with
  | some br => br.out γ
  | none => .bad
theorem rep_newT {G : Tab} {HF : Hp} {p : Addr} {ds : List D} {xs : List V} (n : HF p = none) (r : RepL G HF ds xs) : Rep G (upd HF p (.tup xs)) (.tup ds) (.ref p) := by
  unfold Rep
  exact ⟨p, xs, rfl, upd_same, RepL.mono (sub_upd n) _ _ r⟩
theorem br_fin {br : BR} {v : V} {H' : Hp} {Q : VK} (k : Ok G σ H HF γ) (p : post (rE G) G W σ γ H HF Q (br.out γ)) (b : BRes G HF H br v H') : Q v H' := by
  cases br with
  | val d => obtain ⟨rfl, r⟩ := b; exact p v _ HF k .refl r
  | newL ds =>
    obtain ⟨q, xs, rfl, n, rfl, r⟩ := b
    refine p (.ref q) _ HF (k.laid n) (.laid n) ⟨q, rfl, ⟨xs, upd_same, k.hf_none n, r⟩, fun j z => ?_, .inl n⟩
    obtain ⟨u, e, _⟩ := k.own z
    rw [n] at e; cases e
  | newT ds =>
    obtain ⟨q, xs, rfl, n, rfl, r⟩ := b
    exact p (.ref q) _ _ (k.laidF n) (.laidF k n) (rep_newT (k.hf_none n) r)
  | newD t ks ds =>
    obtain ⟨q, xs, rfl, n, rfl, l, w, r⟩ := b
    refine p (.ref q) _ HF (k.laid n) (.laid n) ⟨q, rfl, ⟨xs, upd_same, k.hf_none n, l, w, r⟩, fun j z => ?_, .inl n⟩
    obtain ⟨u, e, _⟩ := k.own z
    rw [n] at e; cases e
  | newLF ds =>
    obtain ⟨q, xs, HF2, rfl, n, rfl, m, m2, f, r⟩ := b
    have k2 : Ok G σ H HF2 γ := k.keep (k.subT.move m2 m fun q _ ps eq => ⟨rfl, fun e => (or_nt (f q.1) (by rintro ⟨xs, z⟩; rw [eq] at z; cases z)).trans e⟩) m fun i a z => by
      obtain ⟨u, _, na⟩ := k.own z
      exact ⟨rfl, (or_nt (f a) (k.nt z)).trans na⟩
    have s2 : Stp σ γ H HF σ γ H HF2 := ⟨m, fun b _ _ => ⟨.inl rfl, f b⟩, fun j b z => .inl ⟨j, z⟩, fun i s e w => ⟨⟨s, e, w⟩, rfl⟩⟩
    refine p (.ref q) _ HF2 (k2.laid n) (s2.trans (.laid n)) ⟨q, rfl, ⟨xs, upd_same, k2.hf_none n, r⟩, fun j z => ?_, .inl n⟩
    obtain ⟨u, e, _⟩ := k.own z
    rw [n] at e; cases e

/-! operators of two operands, calls of built-ins -/
def OpOk (G : Tab) (r : R2) (f : D → D → Option BR) : Prop := ∀ {H HF : Hp} {x y : V} {d1 d2 : D} {br : BR} {Q : VK}, Sub HF H → Pk G HF H d1 x → Pk G HF H d2 y → f d1 d2 = some br → (∀ v H', BRes G HF H br v H' → Q v H') → r x y H Q
def eOp (f : D → D → Option BR) (ma mb : Gam → Out Ar) : Gam → Out R := fun γ => (ma γ).bind fun a γ1 => (mb γ1).bind fun b γ2 => match look γ2 a with
  | some d1 => (match look γ2 b with
    | some d2 => ofB (f d1 d2) γ2
    | none => .bad)
  | none => .bad
theorem te_op {r : R2} {f : D → D → Option BR} (F : OpOk G r f) {ma mb : Gam → Out Ar} {Q : VK} (h : tE G W (eOp f ma mb) σ H Q) : tOp r (tO G W ma) (tO G W mb) σ H Q := by
  obtain ⟨HF, γ, k, p⟩ := h
  refine ⟨HF, γ, k, post_bind (r1 := rO G) p fun a γ1 x H1 HF1 k1 s1 r1 p1 => ?_⟩
  refine ⟨HF1, γ1, k1, post_bind (r1 := rO G) (post_from later_E s1 p1) fun b γ2 y H2 HF2 k2 s2 r2 p2 => ?_⟩
  have p2 := post_from later_E s2 p2
  cases e1 : look γ2 a with
  | none => rw [e1] at p2; exact p2.elim
  | some d1 =>
    rw [e1] at p2
    cases e2 : look γ2 b with
    | none => rw [e2] at p2; exact p2.elim
    | some d2 =>
      rw [e2] at p2
      have p3 : post (rE G) G W σ γ2 H2 HF2 Q (ofB (f d1 d2) γ2) := p2
      cases e3 : f d1 d2 with
      | none => rw [e3] at p3; exact p3.elim
      | some br =>
        rw [e3] at p3
        exact F k2.sub (look_pk k2 (ArOk.mono s2.mono r1) e1) (look_pk k2 r2 e2) e3 fun v H' bb => br_fin k2 p3 bb
theorem tpe_op {op : Operator} {r : R2} {f : D → D → Option BR} {a b : Expr} {pos : Pos} {ma mb : Gam → Out Ar} (ho : OpR X (binaryOp op) r) (F : OpOk G r f) (ha : PE X a (tO G W ma)) (hb : PE X b (tO G W mb)) : PE X (.BinOp a op b pos) (tE G W (eOp f ma mb)) :=
  ⟨fun pins s σ H Q I h => (pe_op ho ha hb).run pins s σ H Q I (te_op F h)⟩
theorem tpe_cmp {op : CmpOp} {r : R2} {f : D → D → Option BR} {a b : Expr} {pos : Pos} {ma mb : Gam → Out Ar} (ho : OpR X (compareOp op) r) (F : OpOk G r f) (ha : PE X a (tO G W ma)) (hb : PE X b (tO G W mb)) (hm : behindInMarks op b = false) : PE X (.Compare a [op] [b] pos) (tE G W (eOp f ma mb)) :=
  ⟨fun pins s σ H Q I h => (pe_cmpR ho ha hb hm).run pins s σ H Q I (te_op F h)⟩
/-- a bool told -/
def toT (m : Gam → Out R) : Gam → Out Bool := fun γ => (m γ).bind fun r γ1 => match r with
  | .fz (.bl b) => .ok b γ1
  | _ => .bad
theorem tt_of {m : Gam → Out R} {Q : Bool → Hp → Prop} (h : tT G W (toT m) σ H Q) : tE G W m σ H fun x H' => ∃ k, x = .bl k ∧ Q k H' := by
  obtain ⟨HF, γ, k, p⟩ := h
  refine ⟨HF, γ, k, post_bind (r1 := rE G) p fun r γ1 x H1 HF1 k1 s1 r1 p1 => ?_⟩
  cases r with
  | own d => exact p1.elim
  | fz d =>
    cases d with
    | bl b =>
      have e : x = .bl b := r1
      exact ⟨b, e, p1 b H1 HF1 k1 s1 rfl⟩
    | _ => exact p1.elim
theorem tpt_cmp {op : CmpOp} {r : R2} {f : D → D → Option BR} {a b : Expr} {pos : Pos} {ma mb : Gam → Out Ar} (ho : OpR X (compareOp op) r) (F : OpOk G r f) (ha : PE X a (tO G W ma)) (hb : PE X b (tO G W mb)) (hm : behindInMarks op b = false) : PT X (.Compare a [op] [b] pos) (tT G W (toT (eOp f ma mb))) :=
  ⟨fun pins s σ H Q I h => (pt_cmpR ho ha hb hm).run pins s σ H Q I (te_op F (tt_of h))⟩
theorem tpt_val {e : Expr} {m : Gam → Out R} (h : PE X e (tE G W m)) (he : ∀ whole, isTrue e X.env whole = (do let v ← whole; standAt e.pos; holding [v] (truthy v))) : PT X e (tT G W (toT m)) :=
  ⟨fun pins s σ H Q I hw => (pt_val h he).run pins s σ H Q I (tt_of hw)⟩

def CallOk (G : Tab) (r : List V → Hp → VK → Prop) (f : List D → Option BR) : Prop := ∀ {H HF : Hp} {xs : List V} {ds : List D} {br : BR} {Q : VK}, Sub HF H → Pks G HF H ds xs → f ds = some br → (∀ v H', BRes G HF H br v H' → Q v H') → r xs H Q
def eCall (f : List D → Option BR) (ms : Gam → Out (List Ar)) : Gam → Out R := fun γ => (ms γ).bind fun as γ1 => match looks γ1 as with
  | some ds => ofB (f ds) γ1
  | none => .bad
theorem te_call {r : List V → Hp → VK → Prop} {f : List D → Option BR} (F : CallOk G r f) {ms : Gam → Out (List Ar)} {Q : VK} (h : tE G W (eCall f ms) σ H Q) : tCB r (tA G W ms) σ H Q := by
  obtain ⟨HF, γ, k, p⟩ := h
  refine ⟨HF, γ, k, post_bind (r1 := rA G) p fun as γ1 xs H1 HF1 k1 s1 r1 p1 => ?_⟩
  have p2 := post_from later_E s1 p1
  cases e1 : looks γ1 as with
  | none => rw [e1] at p2; exact p2.elim
  | some ds =>
    rw [e1] at p2
    have p3 : post (rE G) G W σ γ1 H1 HF1 Q (ofB (f ds) γ1) := p2
    cases e3 : f ds with
    | none => rw [e3] at p3; exact p3.elim
    | some br =>
      rw [e3] at p3
      exact F k1.sub (looks_pk k1 r1 e1) e3 fun v H' bb => br_fin k1 p3 bb
theorem tpe_callB {id : String} {x : Str} {p pos : Pos} {e : Expr} {es : List Expr} {r : List V → Hp → VK → Prop} {f : List D → Option BR} {ms : Gam → Out (List Ar)} (hc : CallR X (.builtin id) r) (F : CallOk G r f) (hg : Gl X x) (hm : X.mg x = none) (hv : bootBuiltins x = some (.builtin id)) (ha : PA X (e :: es) (tA G W ms)) (hn : x ≠ "__name__") (hdb : (x == ("__debug__" : Str)) = false)
    (he : starEach (e :: es) X.env = (false, eval e X.env) :: starEach es X.env) (hpl : (backTo pos (starEach es X.env)).any (·.1) = false) : PE X (.Call (.Name x p) (e :: es) [] pos) (tE G W (eCall f ms)) :=
  ⟨fun pins s σ H Q I h => (pe_callB hc hg hm hv ha hn hdb he hpl).run pins s σ H Q I (te_call F h)⟩
theorem tpe_callTy {T : String} {x : Str} {p pos : Pos} {e : Expr} {es : List Expr} {r : List V → Hp → VK → Prop} {f : List D → Option BR} {ms : Gam → Out (List Ar)} (hc : CallR X (.type T) r) (F : CallOk G r f) (hg : Gl X x) (hm : X.mg x = none) (hv : bootBuiltins x = some (.type T)) (ha : PA X (e :: es) (tA G W ms)) (hn : x ≠ "__name__") (hdb : (x == ("__debug__" : Str)) = false)
    (he : starEach (e :: es) X.env = (false, eval e X.env) :: starEach es X.env) (hpl : (backTo pos (starEach es X.env)).any (·.1) = false) : PE X (.Call (.Name x p) (e :: es) [] pos) (tE G W (eCall f ms)) :=
  ⟨fun pins s σ H Q I h => (pe_callTy hc hg hm hv ha hn hdb he hpl).run pins s σ H Q I (te_call F h)⟩
/-- a constant -/
def eC (d : D) : Gam → Out R := fun γ => .ok (.fz d) γ
def flatD : D → Option V
  | .non => some .non | .bl b => some (.bl b) | .int i => some (.int i) | .str x => some (.str x) | .ty n => some (.ty n) | _ => none
theorem flat_rep {d : D} {v : V} (h : flatD d = some v) : Rep G HF d v := by
  cases d <;> cases h <;> (unfold Rep; rfl)
theorem tpe_c {e : Expr} {d : D} {v : V} (h : PE X e (tC v)) (f : flatD d = some v) : PE X e (tE G W (eC d)) :=
  ⟨fun pins s σ H Q I hw => h.run pins s σ H Q I (by
    obtain ⟨HF, γ, k, p⟩ := hw
    exact p v H HF k .refl (flat_rep f))⟩
end
end T

-- text T3
set_option Elab.async false
set_option linter.all false
set_option maxRecDepth 100000
set_option maxHeartbeats 4000000
namespace T
open PySem L2
section
variable {X : Cx} {G : Tab} {W : Wt} {σ : L2.St} {H HF HF' : Hp} {γ : Gam} {E : Ends}

def sNx : Gam → OutS := fun γ => .nx γ
theorem ts_nil (h : tS G W sNx E σ H) : tNext E σ H := by
  obtain ⟨HF, γ, k, p⟩ := h
  exact p σ H HF k .refl
def sSeq (a b : Gam → OutS) : Gam → OutS := fun γ => match a γ with
  | .nx γ1 => b γ1
  | o => o
theorem ts_seq {a b : Gam → OutS} (h : tS G W (sSeq a b) E σ H) : tSeq (tS G W a) (tS G W b) E σ H := by
  obtain ⟨HF, γ, k, p⟩ := h
  refine ⟨HF, γ, k, ?_⟩
  unfold sSeq at p
  cases e : a γ with
  | nx γ1 =>
    rw [e] at p
    intro σ' H' HF' k1 s1
    exact ⟨HF', γ1, k1, postS_from s1 p⟩
  | rt r γ1 => rw [e] at p; exact p
  | bk γ1 => rw [e] at p; exact p
  | ct γ1 => rw [e] at p; exact p
  | er x γ1 => rw [e] at p; exact p
  | bad => rw [e] at p; exact p
theorem tps_nil : PSs X [] (tS G W sNx) := ⟨fun pins s σ H D I h => pss_nil.run pins s σ H D I (ts_nil h)⟩
theorem tps_cons {st : Stmt} {rest : List Stmt} {a b : Gam → OutS} (h1 : PS X st (tS G W a)) (h2 : PSs X rest (tS G W b)) : PSs X (st :: rest) (tS G W (sSeq a b)) := ⟨fun pins s σ H D I h => (pss_cons h1 h2).run pins s σ H D I (ts_seq h)⟩

def sRet (m : Gam → Out R) : Gam → OutS := fun γ => (m γ).toS fun r γ1 => .rt r γ1
theorem ts_ret {m : Gam → Out R} (h : tS G W (sRet m) E σ H) : tRet (tE G W m) E σ H := by
  obtain ⟨HF, γ, k, p⟩ := h
  exact ⟨HF, γ, k, postS_bind (r1 := rE G) p fun r γ1 v H1 HF1 k1 s1 r1 p1 => p1 σ v H1 HF1 k1 s1 r1⟩
theorem tps_ret {e : Expr} {pos : Pos} {m : Gam → Out R} (he : PE X e (tE G W m)) : PS X (.Return (some e) pos) (tS G W (sRet m)) := ⟨fun pins s σ H D I h => (ps_ret he).run pins s σ H D I (ts_ret h)⟩
def sRetN : Gam → OutS := fun γ => .rt (.fz .non) γ
theorem tps_retN {pos : Pos} : PS X (.Return none pos) (tS G W sRetN) := ⟨fun pins s σ H D I h => ps_retN.run pins s σ H D I (by
  obtain ⟨HF, γ, k, p⟩ := h
  exact p σ .non H HF k .refl (flat_rep (G := G) (HF := HF) (d := .non) (v := .non) rfl))⟩
def sExpr (m : Gam → Out R) : Gam → OutS := fun γ => (m γ).toS fun _ γ1 => .nx γ1
theorem tps_expr {e : Expr} {pos : Pos} {m : Gam → Out R} (he : PE X e (tE G W m)) (hs : swapsWith e none pos.line X.env = pure false) : PS X (.Expr e pos) (tS G W (sExpr m)) := ⟨fun pins s σ H D I h => (ps_expr he hs).run pins s σ H D I (by
  obtain ⟨HF, γ, k, p⟩ := h
  exact ⟨HF, γ, k, postS_bind (r1 := rE G) p fun r γ1 v H1 HF1 k1 s1 r1 p1 => p1 σ H1 HF1 k1 s1⟩)⟩
theorem tps_pass {pos : Pos} : PS X (.Pass pos) (tS G W sNx) := ⟨fun pins s σ H D I h => ps_pass.run pins s σ H D I (ts_nil h)⟩
def sBk : Gam → OutS := fun γ => .bk γ
def sCt : Gam → OutS := fun γ => .ct γ
theorem tps_break {pos : Pos} : PS X (.Break pos) (tS G W sBk) := ⟨fun pins s σ H D I h => ps_break.run pins s σ H D I (by
  obtain ⟨HF, γ, k, p⟩ := h
  exact p σ H HF k .refl)⟩
theorem tps_continue {pos : Pos} : PS X (.Continue pos) (tS G W sCt) := ⟨fun pins s σ H D I h => ps_continue.run pins s σ H D I (by
  obtain ⟨HF, γ, k, p⟩ := h
  exact p σ H HF k .refl)⟩
def sBad : Gam → OutS := fun _ => .bad
theorem tps_never {st : Stmt} : PS X st (tS G W sBad) := ⟨fun pins s σ H D I h => by
  obtain ⟨HF, γ, k, p⟩ := h
  exact p.elim⟩
def sIf (c : Gam → Out Bool) (a b : Gam → OutS) : Gam → OutS := fun γ => (c γ).toS fun v γ1 => if v = true then a γ1 else b γ1
theorem tps_if {c : Expr} {as bs : List Stmt} {pos : Pos} {m : Gam → Out Bool} {a b : Gam → OutS} (hc : PT X c (tT G W m)) (ha : PSs X as (tS G W a)) (hb : PSs X bs (tS G W b)) : PS X (.If c as bs pos) (tS G W (sIf m a b)) := ⟨fun pins s σ H D I h => (ps_if hc ha hb).run pins s σ H D I (by
  obtain ⟨HF, γ, k, p⟩ := h
  refine ⟨HF, γ, k, postS_bind (r1 := rT) p fun v γ1 v' H1 HF1 k1 s1 e p1 => ?_⟩
  cases e
  cases v with
  | true => exact ⟨HF1, γ1, k1, postS_from s1 p1⟩
  | false => exact ⟨HF1, γ1, k1, postS_from s1 p1⟩)⟩

/-! storing into a name -/
def R.sl : R → Sl
  | .fz d => .fz d
  | .own d => .own d
def stG (i : Nat) (s : Sl) (γ : Gam) : Option Gam := match γ[i]? with
  | some t => (match t.isIo with
    | true => none
    | false => some (γ.set i s))
  | none => none
theorem stG_some {i : Nat} {s : Sl} {γ γ' : Gam} (h : stG i s γ = some γ') : γ' = γ.set i s ∧ i < γ.length ∧ ∃ t, γ[i]? = some t ∧ t.isIo = false := by
  unfold stG at h
  cases e : γ[i]? with
  | none => rw [e] at h; cases h
  | some t =>
    rw [e] at h
    cases q : t.isIo with
    | true => simp only [q] at h; cases h
    | false =>
      simp only [q] at h
      cases h
      exact ⟨rfl, (List.getElem?_eq_some_iff.mp e).1, t, rfl, q⟩
theorem ownAt_set {σ : L2.St} {γ : Gam} {i j : Nat} {v : V} {s : Sl} {a : Addr} (h : OwnAt (σ.set i (some v)) (γ.set i s) j a) : (j = i ∧ s.owns = true ∧ v = .ref a) ∨ (j ≠ i ∧ OwnAt σ γ j a) := by
  obtain ⟨⟨t, e, w⟩, q⟩ := h
  rcases getE_set e with ⟨rfl, rfl, _⟩ | ⟨n, e⟩
  · rcases getE_set q with ⟨_, q, _⟩ | ⟨n, _⟩
    · injection q with q
      exact .inl ⟨rfl, w, q.symm⟩
    · exact absurd rfl n
  · rcases getE_set q with ⟨rfl, _, _⟩ | ⟨_, q⟩
    · exact absurd rfl n
    · exact .inr ⟨n, ⟨⟨t, e, w⟩, q⟩⟩
/-- a result is stored into slot i -/
theorem store_res {σ : L2.St} {γ γ1 γ2 : Gam} {H HF H1 HF1 : Hp} {i : Nat} {r : R} {v : V} (k : Ok G σ H1 HF1 γ1) (s : Stp σ γ H HF σ γ1 H1 HF1) (rr : ROk2 G σ γ H σ γ1 H1 HF1 r v) (e : stG i r.sl γ1 = some γ2) :
    Ok G (σ.set i (some v)) H1 HF1 γ2 ∧ Stp σ γ H HF (σ.set i (some v)) γ2 H1 HF1 := by
  obtain ⟨rfl, hi, t, et, nt⟩ := stG_some e
  have hσ : i < σ.length := by rw [k.len]; exact hi
  have ow : ∀ {j a}, OwnAt (σ.set i (some v)) (γ1.set i r.sl) j a → (j = i ∧ ∃ d, r = .own d ∧ v = .ref a) ∨ (j ≠ i ∧ OwnAt σ γ1 j a) := fun {j a} h => by
    rcases ownAt_set h with ⟨h1, h2, h3⟩ | h
    · cases r with
      | fz d => cases h2
      | own d => exact .inl ⟨h1, d, rfl, h3⟩
    · exact .inr h
  refine ⟨⟨k.subT, by rw [List.length_set, List.length_set]; exact k.len, fun j s' ej => ?_, fun j l a h1 h2 => ?_⟩, ⟨s.mono, s.frame, fun j b h => ?_, fun j s' ej w => ?_⟩⟩
  · rcases getE_set ej with ⟨rfl, rfl, _⟩ | ⟨n, ej⟩
    · rw [List.getElem?_set_self hσ]
      cases r with
      | fz d => exact ⟨v, rfl, rr⟩
      | own d =>
        obtain ⟨a, ea, o, _⟩ := rr
        exact ⟨a, by rw [ea]; rfl, o⟩
    · rw [List.getElem?_set_ne (Ne.symm n)]
      exact k.sl j s' ej
  · have q1 := ow h1
    have q2 := ow h2
    clear h1 h2
    rcases q1 with ⟨e1, d, ed, ev⟩ | ⟨n1, q1⟩
    · rcases q2 with ⟨e2, _⟩ | ⟨n2, q2⟩
      · exact e1.trans e2.symm
      · subst ed
        obtain ⟨b, eb, o, n, _⟩ := rr
        rw [ev] at eb
        cases eb
        exact absurd q2 (n l)
    · rcases q2 with ⟨e2, d, ed, ev⟩ | ⟨n2, q2⟩
      · subst ed
        obtain ⟨b, eb, o, n, _⟩ := rr
        rw [ev] at eb
        cases eb
        exact absurd q1 (n j)
      · exact k.dis j l a q1 q2
  · rcases ow h with ⟨rfl, d, rfl, rfl⟩ | ⟨n, h⟩
    · obtain ⟨c, ec, _, _, w⟩ := rr
      cases ec
      exact w.symm
    · exact s.own j b h
  · obtain ⟨⟨s1, e1, w1⟩, q⟩ := s.io j s' ej w
    have n : j ≠ i := fun z => by subst z; rw [et] at e1; cases e1; rw [nt] at w1; cases w1
    exact ⟨⟨s1, by rw [List.getElem?_set_ne (Ne.symm n)]; exact e1, w1⟩, by rw [List.getElem?_set_ne (Ne.symm n)]⟩
def nxO (o : Option Gam) : OutS := match o with
  | some γ => .nx γ
  | none => .bad
def sSet (i : Nat) (m : Gam → Out R) : Gam → OutS := fun γ => (m γ).toS fun r γ1 => nxO (stG i r.sl γ1)
theorem ts_set {i : Nat} {m : Gam → Out R} (h : tS G W (sSet i m) E σ H) : tAsg (tE G W m) (gName i) E σ H := by
  obtain ⟨HF, γ, k, p⟩ := h
  refine ⟨HF, γ, k, postS_bind (r1 := rE G) p fun r γ1 v H1 HF1 k1 s1 r1 p1 => ?_⟩
  cases e : stG i r.sl γ1 with
  | none => rw [e] at p1; exact p1.elim
  | some γ2 =>
    rw [e] at p1
    obtain ⟨k2, s2⟩ := store_res k1 s1 r1 e
    exact p1 _ H1 HF1 k2 s2
theorem tps_set {i : Nat} {x : Str} {e : Expr} {pos pos' : Pos} {m : Gam → Out R} (hN : X.N.Nodup) (hi : X.N[i]? = some x) (hx : Loc X.env.scope x) (he : PE X e (tE G W m)) (hs : swapsWith e (some (.Name x pos')) pos.line X.env = pure false) (hf : X.fn x = true ∨ X.env.scope.names.lookup x = some .local) :
    PS X (.Assign [.Name x pos'] e pos) (tS G W (sSet i m)) := ⟨fun pins s σ H D I h => (ps_set hN hi hx he hs hf).run pins s σ H D I (ts_set h)⟩

/-! targets: S: the slots that are written -/
def Agree (S : List Nat) (σ σ' : L2.St) : Prop := σ'.length = σ.length ∧ ∀ j, j ∉ S → σ'[j]? = σ[j]?
theorem Agree.trans {S S' : List Nat} {σ σ1 σ2 : L2.St} (a : Agree S σ σ1) (b : Agree S' σ1 σ2) : Agree (S ++ S') σ σ2 :=
  ⟨b.1.trans a.1, fun j h => (b.2 j fun z => h (List.mem_append_right _ z)).trans (a.2 j fun z => h (List.mem_append_left _ z))⟩
def tgt (G : Tab) (S : List Nat) (f : D → Gam → Option Gam) : TG := fun v σ H Q => ∃ HF γ d, Ok G σ H HF γ ∧ Rep G HF d v ∧ match f d γ with
  | some γ' => ∀ σ', Ok G σ' H HF γ' → Stp σ γ H HF σ' γ' H HF → Agree S σ σ' → Q σ' H
  | none => False
def tgts (G : Tab) (S : List Nat) (f : List D → Gam → Option Gam) : TGs := fun vs σ H Q => ∃ HF γ ds, Ok G σ H HF γ ∧ RepL G HF ds vs ∧ match f ds γ with
  | some γ' => ∀ σ', Ok G σ' H HF γ' → Stp σ γ H HF σ' γ' H HF → Agree S σ σ' → Q σ' H
  | none => False
def gNm (i : Nat) : D → Gam → Option Gam := fun d γ => stG i (.fz d) γ
def gTp (n : Nat) (f : List D → Gam → Option Gam) : D → Gam → Option Gam := fun d γ => match d with
  | .tup ds => (match ds.length == n with
    | true => f ds γ
    | false => none)
  | _ => none
def gsNil : List D → Gam → Option Gam := fun ds γ => match ds with
  | [] => some γ
  | _ => none
def gsCons (f : D → Gam → Option Gam) (g : List D → Gam → Option Gam) : List D → Gam → Option Gam := fun ds γ => match ds with
  | d :: r => (match f d γ with
    | some γ1 => g r γ1
    | none => none)
  | [] => none
theorem tg_name {i : Nat} {v : V} {Q : L2.St → Hp → Prop} (h : tgt G [i] (gNm i) v σ H Q) : gName i v σ H Q := by
  obtain ⟨HF, γ, d, k, r, p⟩ := h
  cases e : gNm i d γ with
  | none => rw [e] at p; exact p.elim
  | some γ' =>
    rw [e] at p
    obtain ⟨k2, s2⟩ := store_res (r := .fz d) k .refl r e
    exact p _ k2 s2 ⟨by rw [List.length_set], fun j h => by rw [List.getElem?_set_ne]; rintro rfl; exact h (by simp)⟩
theorem tpg_name {i : Nat} {x : Str} {pos : Pos} (hN : X.N.Nodup) (hi : X.N[i]? = some x) (hx : Loc X.env.scope x) (hf : X.fn x = true ∨ X.env.scope.names.lookup x = some .local) : PG X (.Name x pos) (tgt G [i] (gNm i)) :=
  ⟨fun pins s σ H v u Q I r h => (pg_name hN hi hx hf).run pins s σ H v u Q I r (tg_name h)⟩
theorem tpgs_nil : PGs X [] (tgts G [] gsNil) := ⟨fun pins s σ H vs us Q I r h => pgs_nil.run pins s σ H vs us Q I r (by
  obtain ⟨HF, γ, ds, k, rr, p⟩ := h
  cases ds with
  | cons d ds => exact p.elim
  | nil =>
    unfold RepL at rr
    exact ⟨rr, p σ k .refl ⟨rfl, fun _ _ => rfl⟩⟩)⟩
theorem tpgs_cons {S S' : List Nat} {e : Expr} {es : List Expr} {f : D → Gam → Option Gam} {g : List D → Gam → Option Gam} (h1 : PG X e (tgt G S f)) (h2 : PGs X es (tgts G S' g)) (hs : (assignEach (e :: es) X.env).map (·.2) = assign e X.env :: (assignEach es X.env).map (·.2)) : PGs X (e :: es) (tgts G (S ++ S') (gsCons f g)) :=
  ⟨fun pins s σ H vs us Q I r h => (pgs_cons h1 h2 hs).run pins s σ H vs us Q I r (by
    obtain ⟨HF, γ, ds, k, rr, p⟩ := h
    cases ds with
    | nil => exact p.elim
    | cons d ds =>
      unfold RepL at rr
      obtain ⟨v, vr, e, r1, r2⟩ := rr
      refine ⟨v, vr, e, HF, γ, d, k, r1, ?_⟩
      unfold gsCons at p
      simp only at p
      cases q : f d γ with
      | none => rw [q] at p; exact p.elim
      | some γ1 =>
        rw [q] at p
        intro σ1 k1 s1 a1
        refine ⟨HF, γ1, ds, k1, r2, ?_⟩
        cases q2 : g ds γ1 with
        | none => simp only [q2] at p
        | some γ2 =>
          simp only [q2] at p
          exact fun σ2 k2 s2 a2 => p σ2 k2 (s1.trans s2) (a1.trans a2))⟩
end
end T

-- text T4
set_option Elab.async false
set_option linter.all false
set_option maxRecDepth 100000
set_option maxHeartbeats 4000000
namespace T
open PySem L2
section
variable {X : Cx} {G : Tab} {W : Wt} {σ : L2.St} {H HF HF' : Hp} {γ : Gam} {E : Ends}
theorem beqN {a b : Nat} (h : (a == b) = true) : a = b := by simpa using h
theorem tpg_tup {S : List Nat} {es : List Expr} {kk n : Nat} {pos : Pos} {f : List D → Gam → Option Gam} (hK : G.K = X.K) (hc : X.calm = true) (h : PGs X es (tgts G S f)) (hn : (assignEach es X.env).length = n) (hst : (assignEach es X.env).findIdx? (·.1) = none) :
    PG X (.Tuple es kk pos) (tgt G S (gTp n f)) :=
  ⟨fun pins s σ H v u Q I r hw => (pg_tup hc h hn hst).run pins s σ H v u Q I r (by
    obtain ⟨HF, γ, d, k, rr, p⟩ := hw
    cases d with
    | tup ds =>
      unfold gTp at p
      simp only at p
      cases q : ds.length == n with
      | false => simp only [q] at p
      | true =>
        simp only [q] at p
        unfold Rep at rr
        obtain ⟨a, xs, e, sq, rl⟩ := rr
        refine ⟨a, xs, e, SqT.of (k.sub _ _ sq), by rw [rl.length]; exact beqN q, HF, γ, ds, k, rl, p⟩
    | _ => exact p.elim)⟩

/-! what is walked -/
/-- what a turn gives: a thing that stands; a new tuple; anything else for which the frozen part grows by new things and by tuples -/
def Yl (G : Tab) (HF H : Hp) (d : D) (x : V) (H' : Hp) : Prop :=
  (H' = H ∧ Rep G HF d x) ∨ (∃ T xs ds, x = .ref T ∧ H T = none ∧ H' = upd H T (.tup xs) ∧ d = .tup ds ∧ RepL G HF ds xs) ∨
    ∃ HF2, Sub HF HF2 ∧ Sub HF2 H' ∧ (∀ b, H b ≠ none → H' b = H b ∧ (HF2 b = HF b ∨ NT (H b))) ∧ Rep G HF2 d x
def Wk (G : Tab) (items : List D) (J : It) (HF0 : Hp) : Prop := ∀ HF H, Sub HF0 HF → Sub HF H →
  (∀ i, i < items.length → J.go i H ∧ ∀ x H', J.yld i H x H' → ∃ d, items[i]? = some d ∧ Yl G HF H d x H') ∧ J.stop items.length H
def rI (G : Tab) : RelK (List D) It := fun _ _ _ _ _ HF' items J => Wk G items J HF'
abbrev tI (G : Tab) (W : Wt) (m : Gam → Out (List D)) : TI := tM (rI G) G W m
theorem wk_of {items : List D} {J : It} {n : Nat} {Gd : Hp → Prop} {Y : Nat → Hp → V → Hp → Prop} {HF0 : Hp} (w : Walk J n Gd Y) (hn : n = items.length) (hg : ∀ HF H, Sub HF0 HF → Sub HF H → Gd H)
    (hy : ∀ HF H i x H', Sub HF0 HF → Sub HF H → i < n → Y i H x H' → ∃ d, items[i]? = some d ∧ Yl G HF H d x H') : Wk G items J HF0 := fun HF H a b => by
  subst hn
  exact ⟨fun i hi => ⟨w.goes i H hi (hg HF H a b), fun x H' y => hy HF H i x H' a b hi (w.yields i H x H' hi (hg HF H a b) y)⟩, w.stops H (hg HF H a b)⟩

/-! for -/
def loopS (f : D → Gam → Option Gam) (b : Gam → OutS) : List D → Gam → OutS
  | [], γ => .nx γ
  | d :: ds, γ => match f d γ with
    | some γ1 => (match b γ1 with
      | .nx γ2 => loopS f b ds γ2
      | .ct γ2 => loopS f b ds γ2
      | .bk γ2 => .nx γ2
      | .rt r γ2 => .rt r γ2
      | .er x γ2 => .er x γ2
      | .bad => .bad)
    | none => .bad
def sFor (mi : Gam → Out (List D)) (f : D → Gam → Option Gam) (b : Gam → OutS) : Gam → OutS := fun γ => (mi γ).toS fun items γ1 => loopS f b items γ1
/-- what is yielded is there -/
theorem yld_ok {d : D} {x : V} {H H' : Hp} (k : Ok G σ H HF γ) (h : Yl G HF H d x H') :
    ∃ HF2, Ok G σ H' HF2 γ ∧ Stp σ γ H HF σ γ H' HF2 ∧ Rep G HF2 d x := by
  rcases h with ⟨rfl, r⟩ | ⟨T, xs, ds, rfl, n, rfl, rfl, r⟩ | ⟨HF2, m, s, f, r⟩
  · exact ⟨HF, k, .refl, r⟩
  · exact ⟨_, k.laidF n, .laidF k n, rep_newT (k.hf_none n) r⟩
  · refine ⟨HF2, k.keep (k.subT.move s m fun q _ ps eq => ⟨(f q.1 (by rw [eq]; simp)).1, fun e => (or_nt (f q.1 (by rw [eq]; simp)).2 (by rintro ⟨ys, z⟩; rw [eq] at z; cases z)).trans e⟩) m fun i a q => ?_, ⟨m, fun b nb _ => ⟨.inl (f b nb).1, (f b nb).2⟩, fun j b q => .inl ⟨j, q⟩, fun i s e w => ⟨⟨s, e, w⟩, rfl⟩⟩, r⟩
    obtain ⟨u, e, n⟩ := k.own q
    obtain ⟨f1, f2⟩ := f a (by rw [e]; simp)
    exact ⟨f1, (or_nt f2 (k.nt q)).trans n⟩
theorem ts_for {S : List Nat} {mi : Gam → Out (List D)} {f : D → Gam → Option Gam} {b : Gam → OutS} (h : tS G W (sFor mi f b) E σ H) : tFor (tI G W mi) (tgt G S f) (tS G W b) E σ H := by
  obtain ⟨HF, γ, k, p⟩ := h
  refine ⟨HF, γ, k, postS_bind (r1 := rI G) p fun items γ1 J H1 HF1 k1 s1 wk p1 => ?_⟩
  refine ⟨fun i m σ' H' => m = items.length - i ∧ i ≤ items.length ∧ ∃ HF' γ', Ok G σ' H' HF' γ' ∧ Sub HF1 HF' ∧ postS G W σ' γ' H' HF' E (loopS f b (items.drop i) γ'), ⟨_, rfl, Nat.zero_le _, HF1, γ1, k1, Sub.refl _, postS_from s1 p1⟩, ?_⟩
  rintro i m σ' H' ⟨rfl, hi, HF', γ', k', m', p'⟩
  obtain ⟨w1, w2⟩ := wk HF' H' m' k'.sub
  by_cases hlt : i < items.length
  · refine .inr ⟨(w1 i hlt).1, fun σ3 H3 => i + 1 ≤ items.length ∧ ∃ HF3 γ3, Ok G σ3 H3 HF3 γ3 ∧ Sub HF1 HF3 ∧ postS G W σ3 γ3 H3 HF3 E (loopS f b (items.drop (i + 1)) γ3), fun σ3 H3 q => ⟨items.length - (i + 1), by omega, rfl, q⟩, fun x H'' y => ?_⟩
    obtain ⟨d, ed, yy⟩ := (w1 i hlt).2 x H'' y
    obtain ⟨HF2, k2, s2, r2⟩ := yld_ok k' yy
    have edr : items.drop i = d :: items.drop (i + 1) := by
      rw [List.drop_eq_getElem_cons hlt]
      rw [List.getElem?_eq_getElem hlt] at ed
      cases ed
      rfl
    rw [edr] at p'
    unfold loopS at p'
    refine ⟨HF2, γ', d, k2, r2, ?_⟩
    cases q : f d γ' with
    | none => rw [q] at p'; exact p'.elim
    | some γ2 =>
      rw [q] at p'
      intro σ4 k4 s4 _
      refine ⟨HF2, γ2, k4, ?_⟩
      have mm : Sub HF1 HF2 := m'.trans s2.mono
      have p4 := postS_from (s2.trans s4) p'
      simp only at p4
      cases qb : b γ2 with
      | nx γ3 =>
        rw [qb] at p4
        exact fun σ5 H5 HF5 k5 s5 => ⟨hlt, HF5, γ3, k5, mm.trans s5.mono, postS_from s5 p4⟩
      | ct γ3 =>
        rw [qb] at p4
        exact fun σ5 H5 HF5 k5 s5 => ⟨hlt, HF5, γ3, k5, mm.trans s5.mono, postS_from s5 p4⟩
      | bk γ3 => rw [qb] at p4; exact p4
      | rt r γ3 => rw [qb] at p4; exact p4
      | er x γ3 => rw [qb] at p4; exact p4
      | bad => rw [qb] at p4; exact p4.elim
  · have e : i = items.length := by omega
    subst e
    refine .inl ⟨w2, ?_⟩
    rw [List.drop_length] at p'
    exact p' σ' H' HF' k' .refl
theorem tps_for {S : List Nat} {tg iter : Expr} {body : List Stmt} {pos : Pos} {mi : Gam → Out (List D)} {f : D → Gam → Option Gam} {b : Gam → OutS} (hp : PassesOwn (model X.prog X.w) X.A X.env X.xe) (hc : X.calm = true) (hi : PI X tg iter (tI G W mi)) (hg : PG X tg (tgt G S f)) (hb : PSs X body (tS G W b))
    (hs : ∀ x, foldedSetIterable iter X.env x = pure x) : PS X (.For tg iter body [] pos) (tS G W (sFor mi f b)) := ⟨fun pins s σ H D I h => (ps_for hp hc hi hg hb hs).run pins s σ H D I (ts_for h)⟩

/-! while -/
def sWhile (c : Gam → Out Bool) (b : Gam → OutS) : Nat → Gam → OutS
  | 0, _ => .bad
  | n + 1, γ => (c γ).toS fun v γ1 => if v = true then (match b γ1 with
      | .nx γ2 => sWhile c b n γ2
      | .ct γ2 => sWhile c b n γ2
      | .bk γ2 => .nx γ2
      | .rt r γ2 => .rt r γ2
      | .er x γ2 => .er x γ2
      | .bad => .bad) else .nx γ1
theorem ts_while {c : Gam → Out Bool} {b : Gam → OutS} {n : Nat} (h : tS G W (sWhile c b n) E σ H) : tWhile (tT G W c) (tS G W b) E σ H := by
  obtain ⟨HF, γ, k, p⟩ := h
  refine ⟨fun m σ' H' => ∃ HF' γ', Ok G σ' H' HF' γ' ∧ postS G W σ' γ' H' HF' E (sWhile c b m γ'), ⟨n, HF, γ, k, p⟩, ?_⟩
  rintro m σ' H' ⟨HF', γ', k', p'⟩
  cases m with
  | zero => exact p'.elim
  | succ m =>
    unfold sWhile at p'
    refine ⟨HF', γ', k', postS_bind (r1 := rT) p' fun v γ1 v' H1 HF1 k1 s1 e p1 => ?_⟩
    cases e
    cases v with
    | false => exact p1 σ' H1 HF1 k1 s1
    | true =>
      refine ⟨fun σ3 H3 => ∃ HF3 γ3, Ok G σ3 H3 HF3 γ3 ∧ postS G W σ3 γ3 H3 HF3 E (sWhile c b m γ3), fun σ3 H3 q => ⟨m, Nat.lt_succ_self _, q⟩, HF1, γ1, k1, ?_⟩
      have p4 := postS_from s1 p1
      simp only [if_true] at p4
      cases qb : b γ1 with
      | nx γ3 => rw [qb] at p4; exact fun σ5 H5 HF5 k5 s5 => ⟨HF5, γ3, k5, postS_from s5 p4⟩
      | ct γ3 => rw [qb] at p4; exact fun σ5 H5 HF5 k5 s5 => ⟨HF5, γ3, k5, postS_from s5 p4⟩
      | bk γ3 => rw [qb] at p4; exact p4
      | rt r γ3 => rw [qb] at p4; exact p4
      | er x γ3 => rw [qb] at p4; exact p4
      | bad => rw [qb] at p4; exact p4.elim
theorem tps_while {c : Expr} {body : List Stmt} {pos : Pos} {m : Gam → Out Bool} {b : Gam → OutS} (n : Nat) (hp : PassesOwn (model X.prog X.w) X.A X.env X.xe) (hc : PT X c (tT G W m)) (hb : PSs X body (tS G W b)) : PS X (.While c body [] pos) (tS G W fun γ => sWhile m b n γ) :=
  ⟨fun pins s σ H D I h => (ps_while hp hc hb).run pins s σ H D I (ts_while h)⟩
end
end T

-- text T5
set_option Elab.async false
set_option linter.all false
set_option maxRecDepth 100000
set_option maxHeartbeats 4000000
namespace T
open PySem L2
section
variable {X : Cx} {G : Tab} {W : Wt} {σ : L2.St} {H HF HF' : Hp} {γ : Gam} {E : Ends}
/-! slots forgotten -/
def unO : List Nat → Gam → Option Gam
  | [], γ => some γ
  | v :: vs, γ => match unO vs γ with
    | some γ1 => stG v .un γ1
    | none => none
structure UnO (vs : List Nat) (γ γ1 : Gam) : Prop where
  len : γ1.length = γ.length
  in_ : ∀ (j : Nat) s, j ∈ vs → γ1[j]? = some s → s = .un
  out : ∀ (j : Nat), j ∉ vs → γ1[j]? = γ[j]?
  io : ∀ (j : Nat) s, γ[j]? = some s → s.isIo = true → j ∉ vs
theorem unO_ok : ∀ {vs : List Nat} {γ γ1 : Gam}, unO vs γ = some γ1 → UnO vs γ γ1
  | [], γ, γ1, h => by cases h; exact ⟨rfl, fun j s z => absurd z (by simp), fun _ _ => rfl, fun _ _ _ _ z => absurd z (by simp)⟩
  | v :: vs, γ, γ1, h => by
    unfold unO at h
    cases e : unO vs γ with
    | none => rw [e] at h; cases h
    | some γ0 =>
      rw [e] at h
      have u := unO_ok e
      obtain ⟨rfl, hi, t, et, nt⟩ := stG_some (h : stG v .un γ0 = some γ1)
      refine ⟨by rw [List.length_set]; exact u.len, fun j s hj ej => ?_, fun j hj => ?_, fun j s ej w hj => ?_⟩
      · rcases getE_set ej with ⟨_, rfl, _⟩ | ⟨n, ej⟩
        · rfl
        · exact u.in_ j s ((List.mem_cons.mp hj).resolve_left n) ej
      · have n : j ≠ v := fun z => hj (by rw [z]; exact List.mem_cons_self)
        rw [List.getElem?_set_ne (Ne.symm n)]
        exact u.out j fun z => hj (List.mem_cons_of_mem _ z)
      · rcases List.mem_cons.mp hj with rfl | hj
        · have nv := u.io j s ej w
          rw [u.out j nv, ej] at et
          cases et
          rw [w] at nt; cases nt
        · exact u.io j s ej w hj
theorem UnO.own {vs : List Nat} {γ γ1 : Gam} {σ σ' : L2.St} (u : UnO vs γ γ1) (a : ∀ j, j ∉ vs → σ'[j]? = σ[j]?) {j : Nat} {b : Addr} (h : OwnAt σ' γ1 j b) : j ∉ vs ∧ OwnAt σ γ j b := by
  obtain ⟨⟨s, e, w⟩, q⟩ := h
  have n : j ∉ vs := fun z => by
    have := u.in_ j s z e
    subst this
    cases w
  exact ⟨n, ⟨⟨s, by rw [← u.out j n]; exact e, w⟩, by rw [← a j n]; exact q⟩⟩
/-- slots forgotten, and the values at them changed in any way -/
theorem UnO.ok {vs : List Nat} {γ γ1 : Gam} {σ σ' : L2.St} (u : UnO vs γ γ1) (a : Agree vs σ σ') (k : Ok G σ H HF γ) : Ok G σ' H HF γ1 :=
  ⟨k.subT, by rw [a.1, u.len]; exact k.len, fun j s e => by
    by_cases n : j ∈ vs
    · rw [u.in_ j s n e]; trivial
    · rw [a.2 j n]
      exact k.sl j s (by rw [← u.out j n]; exact e), fun i j b h1 h2 => k.dis i j b (u.own a.2 h1).2 (u.own a.2 h2).2⟩
theorem UnO.stp {vs : List Nat} {γ γ1 : Gam} {σ σ' : L2.St} (u : UnO vs γ γ1) (a : Agree vs σ σ') : Stp σ γ H HF σ' γ1 H HF :=
  ⟨Sub.refl _, fun _ _ _ => ⟨.inl rfl, .inl rfl⟩, fun j b h => .inl ⟨j, (u.own a.2 h).2⟩, fun i s e w => by
    have n := u.io i s e w
    exact ⟨⟨s, by rw [u.out i n]; exact e, w⟩, a.2 i n⟩⟩
theorem wipe_in {σ : L2.St} {i : Nat} : ∀ {vs : List Nat}, i ∈ vs → i < σ.length → (wipe σ vs)[i]? = some none
  | v :: vs, h, hl => by
    unfold wipe
    by_cases e : v = i
    · subst e
      rw [List.getElem?_set_self (by rw [wipe_length]; exact hl)]
    · rw [List.getElem?_set_ne e]
      exact wipe_in ((List.mem_cons.mp h).resolve_left (Ne.symm e)) hl
theorem wipe_agree (σ : L2.St) (vs : List Nat) : Agree vs σ (wipe σ vs) := ⟨wipe_length σ vs, fun j n => wipe_out n⟩
theorem wipe_eq {vs : List Nat} {σ σ' : L2.St} (a : Agree vs σ σ') : wipe σ' vs = wipe σ vs := by
  refine List.ext_getElem? fun j => ?_
  by_cases n : j ∈ vs
  · by_cases hl : j < σ.length
    · rw [wipe_in n hl, wipe_in n (by rw [a.1]; exact hl)]
    · rw [List.getElem?_eq_none (by rw [wipe_length, a.1]; omega), List.getElem?_eq_none (by rw [wipe_length]; omega)]
  · rw [wipe_out n, wipe_out n, a.2 j n]
theorem Agree.symm {S : List Nat} {σ σ' : L2.St} (a : Agree S σ σ') : Agree S σ' σ := ⟨a.1.symm, fun j h => (a.2 j h).symm⟩
theorem Agree.mono {S S' : List Nat} {σ σ' : L2.St} (a : Agree S σ σ') (h : ∀ i ∈ S, i ∈ S') : Agree S' σ σ' := ⟨a.1, fun j n => a.2 j fun z => n (h j z)⟩
theorem Agree.tr {S : List Nat} {σ σ1 σ2 : L2.St} (a : Agree S σ σ1) (b : Agree S σ1 σ2) : Agree S σ σ2 := ⟨b.1.trans a.1, fun j h => (b.2 j h).trans (a.2 j h)⟩

def Wn : Wt := fun _ _ _ _ => False
/-- what raises is not told -/
def Out.bindN {α β : Type} (o : Out α) (f : α → Gam → Out β) : Out β := match o with
  | .ok a γ => f a γ
  | .er _ _ => .bad
  | .bad => .bad
/-- the elements of a comprehension from here on; c: how many there are already -/
def lcGo (vs : List Nat) (f : D → Gam → Option Gam) (t : Gam → Out Bool) (e : Gam → Out Ar) : List D → Nat → Gam → Out (List D)
  | [], _, γ => .ok [] γ
  | d :: ds, c, γ => match f d γ with
    | none => .bad
    | some γ1 => (t γ1).bindN fun b γ2 => match b with
      | true => (e γ2).bindN fun y γ3 => (match y with
        | .d y => (match Nat.blt c 16777216 with
          | true => (match unO vs γ3 with
            | some γ4 => (lcGo vs f t e ds (c + 1) γ4).bind fun ys γ5 => .ok (y :: ys) γ5
            | none => .bad)
          | false => .bad)
        | .sl _ => .bad)
      | false => (match unO vs γ2 with
        | some γ3 => lcGo vs f t e ds c γ3
        | none => .bad)
def eLc (mi : Gam → Out (List D)) (vs : List Nat) (f : D → Gam → Option Gam) (t : Gam → Out Bool) (e : Gam → Out Ar) : Gam → Out R := fun γ => (mi γ).bind fun items γ1 => match unO vs γ1 with
  | some γ2 => (lcGo vs f t e items 0 γ2).bind fun ys γ3 => .ok (.own (.lst ys)) γ3
  | none => .bad
theorem Out.bind_assoc {α β δ : Type} (o : Out α) (f : α → Gam → Out β) (g : β → Gam → Out δ) : (o.bind f).bind g = o.bind fun a γ => (f a γ).bind g := by
  cases o <;> rfl
theorem size_line : sizeLine = 16777216 := by rfl
/-- own things but the list that is made stay -/
theorem Ok.put {σ : L2.St} {H HF : Hp} {γ : Gam} {p : Addr} {o : HO} (k : Ok G σ H HF γ) (n : HF p = none) (w : ∀ j, ¬ OwnAt σ γ j p) (nt : ∀ ps, H p ≠ some (.tbl ps)) : Ok G σ (upd H p o) HF γ :=
  k.keep (k.subT.move (fun b u e => by
    rw [upd_ne (fun z => by rw [z, n] at e; cases e)]
    exact k.sub _ _ e) (Sub.refl _) fun q _ ps eq => ⟨upd_ne fun z => nt ps (z ▸ eq), id⟩) (Sub.refl _) fun i a q => ⟨upd_ne fun z => w i (by rw [← z]; exact q), (k.own q).elim fun _ z => z.2⟩
/-- the list at P is being made since the start (σ, γ1, H1, HF1); the frame now is σc -/
structure Mk (G : Tab) (σ : L2.St) (γ1 : Gam) (H1 HF1 : Hp) (P : Addr) (σc : L2.St) (γ : Gam) (H HF : Hp) (ds : List D) : Prop where
  ok : Ok G σc H HF γ
  stp : Stp σ γ1 H1 HF1 σc γ H HF
  acc : ∃ xs, H P = some (.lst xs) ∧ RepL G HF ds xs
  fz : HF P = none
  no : ∀ j, ¬ OwnAt σc γ j P
/-- the frame goes on -/
theorem Mk.go {σ σc σ2 : L2.St} {γ1 γ γ4 : Gam} {H1 HF1 H HF H4 HF4 : Hp} {P : Addr} {ds : List D} (m : Mk G σ γ1 H1 HF1 P σc γ H HF ds) (k4 : Ok G σ2 H4 HF4 γ4) (s4 : Stp σc γ H HF σ2 γ4 H4 HF4) : Mk G σ γ1 H1 HF1 P σ2 γ4 H4 HF4 ds := by
  obtain ⟨xs, e1, r1⟩ := m.acc
  obtain ⟨f1, f2⟩ := s4.frame P (by rw [e1]; simp) m.no
  refine ⟨k4, m.stp.trans s4, ⟨xs, (f1.eq (by intro ps z; rw [e1] at z; cases z)).trans e1, RepL.mono s4.mono _ _ r1⟩, (or_nt f2 (by rintro ⟨ys, z⟩; rw [e1] at z; cases z)).trans m.fz, fun j h => ?_⟩
  rcases s4.own j P h with ⟨i, q⟩ | q
  · exact m.no i q
  · rw [e1] at q; cases q
/-- a turn's work, back at the comprehension's frame -/
theorem Mk.back {σ σc σ2 : L2.St} {γ1 γ γ4 γ5 : Gam} {H1 HF1 H HF H4 HF4 : Hp} {P : Addr} {ds : List D} {vs : List Nat} (m : Mk G σ γ1 H1 HF1 P σc γ H HF ds) (a : Agree vs σc σ2) (k4 : Ok G σ2 H4 HF4 γ4) (s4 : Stp σc γ H HF σ2 γ4 H4 HF4) (u : unO vs γ4 = some γ5) :
    Mk G σ γ1 H1 HF1 P σc γ5 H4 HF4 ds := by
  have uu := unO_ok u
  exact m.go (uu.ok (G := G) a.symm k4) (s4.trans (uu.stp a.symm))
/-- one more element -/
theorem Mk.push {σ σc : L2.St} {γ1 γ : Gam} {H1 HF1 H HF : Hp} {P : Addr} {ds : List D} {xs : List V} {y : V} {d : D} (m : Mk G σ γ1 H1 HF1 P σc γ H HF ds) (n1 : H1 P = none) (e : H P = some (.lst xs)) (r : Rep G HF d y) :
    Mk G σ γ1 H1 HF1 P σc γ (upd H P (.lst (xs ++ [y]))) HF (ds ++ [d]) := by
  obtain ⟨xs', e1, r1⟩ := m.acc
  rw [e] at e1; cases e1
  refine ⟨m.ok.put m.fz m.no (by intro ps z; rw [e] at z; cases z), ⟨m.stp.mono, fun b nb q => ?_, m.stp.own, m.stp.io⟩, ⟨_, upd_same, RepL.append r1 (RepL.one r)⟩, m.fz, m.no⟩
  obtain ⟨f1, f2⟩ := m.stp.frame b nb q
  exact ⟨by rw [upd_ne (fun z => nb (by rw [z]; exact n1))]; exact f1, f2⟩
theorem drop_of {α : Type} {l : List α} {i : Nat} {d : α} (hlt : i < l.length) (ed : l[i]? = some d) : l.drop i = d :: l.drop (i + 1) := by
  rw [List.drop_eq_getElem_cons hlt]
  rw [List.getElem?_eq_getElem hlt] at ed
  cases ed
  rfl
def Un (vs : List Nat) (γ : Gam) : Prop := ∀ (j : Nat) s, j ∈ vs → γ[j]? = some s → s = .un
theorem Un.id {vs : List Nat} {γ : Gam} (un : Un vs γ) : UnO vs γ γ := ⟨rfl, un, fun _ _ => rfl, fun j s ej w hj => by
  have := un j s hj ej
  subst this
  cases w⟩
/-- THE LOOP of a comprehension, or of its inner clause -/
theorem lc_loop {vs S : List Nat} {f : D → Gam → Option Gam} {t : Gam → Out Bool} {e : Gam → Out Ar} {Q : VK} {K : List D → Gam → Out R} {Nx : Hp → Prop} {items : List D} {J : It} {P : Addr} {σ σc : L2.St} {γ1 γc : Gam} {H0 HF0 Hc HFc : Hp} {ds0 : List D}
    (hS : ∀ i ∈ S, i ∈ vs) (n1 : H0 P = none) (wk : Wk G items J HFc) (mk : Mk G σ γ1 H0 HF0 P σc γc Hc HFc ds0) (un : Un vs γc) (p : post (rE G) G W σ γ1 H0 HF0 Q ((lcGo vs f t e items ds0.length γc).bind K))
    (fin : ∀ ys γ' H' HF', Mk G σ γ1 H0 HF0 P σc γ' H' HF' (ds0 ++ ys) → Sub HFc HF' → post (rE G) G W σ γ1 H0 HF0 Q (K ys γ') → Nx H') :
    ∃ Wl : Nat → Nat → Hp → Prop, (∃ m, Wl 0 m Hc) ∧ ∀ i m H, Wl i m H → (J.stop i H ∧ Nx H) ∨ (J.go i H ∧ ∃ N1 : Hp → Prop, (∀ H', N1 H' → ∃ m', m' < m ∧ Wl (i + 1) m' H') ∧ ∀ x H', J.yld i H x H' →
      tgt G S f x (wipe σc vs) H' fun σ2 H2 => wipe σ2 vs = wipe σc vs ∧ tT G Wn t σ2 H2 fun b H3 => if b = true then tO G Wn e σ2 H3 fun y H4 => ∃ acc, H4 P = some (.lst acc) ∧ acc.length < sizeLine ∧ N1 (upd H4 P (.lst (acc ++ [y]))) else N1 H3) := by
  refine ⟨fun i m H' => m = items.length - i ∧ i ≤ items.length ∧ ∃ HF' γ' ys, Mk G σ γ1 H0 HF0 P σc γ' H' HF' (ds0 ++ ys) ∧ Sub HFc HF' ∧ Un vs γ' ∧ post (rE G) G W σ γ1 H0 HF0 Q ((lcGo vs f t e (items.drop i) (ds0 ++ ys).length γ').bind fun zs γ3 => K (ys ++ zs) γ3), ⟨_, rfl, Nat.zero_le _, HFc, γc, [], by rw [List.append_nil]; exact mk, Sub.refl _, un, by rw [List.append_nil]; exact p⟩, ?_⟩
  rintro i m H' ⟨rfl, hi, HF', γ', ys, mk', sub', un', p'⟩
  obtain ⟨w1, w2⟩ := wk HF' H' sub' mk'.ok.sub
  by_cases hlt : i < items.length
  · refine .inr ⟨(w1 i hlt).1, fun H3 => i + 1 ≤ items.length ∧ ∃ HF3 γ3 ys3, Mk G σ γ1 H0 HF0 P σc γ3 H3 HF3 (ds0 ++ ys3) ∧ Sub HFc HF3 ∧ Un vs γ3 ∧ post (rE G) G W σ γ1 H0 HF0 Q ((lcGo vs f t e (items.drop (i + 1)) (ds0 ++ ys3).length γ3).bind fun zs γ5 => K (ys3 ++ zs) γ5), fun H3 q => ⟨items.length - (i + 1), by omega, rfl, q⟩, fun x H'' y => ?_⟩
    obtain ⟨d, ed, yy⟩ := (w1 i hlt).2 x H'' y
    obtain ⟨HF2, k2, s2, r2⟩ := yld_ok mk'.ok yy
    rw [drop_of hlt ed] at p'
    unfold lcGo at p'
    have uid := un'.id
    have kw : Ok G (wipe σc vs) H'' HF2 γ' := uid.ok (wipe_agree σc vs) k2
    have sw : Stp σc γ' H' HF' (wipe σc vs) γ' H'' HF2 := s2.trans (uid.stp (wipe_agree σc vs))
    refine ⟨HF2, γ', d, kw, r2, ?_⟩
    cases q : f d γ' with
    | none => rw [q] at p'; exact p'.elim
    | some γ2 =>
      rw [q] at p'
      simp only at p'
      intro σ2 k3 s3 ag
      have ag2 : Agree vs σc σ2 := (wipe_agree σc vs).tr (ag.mono hS)
      refine ⟨by rw [wipe_eq ag2], HF2, γ2, k3, ?_⟩
      have sb : Stp σc γ' H' HF' σ2 γ2 H'' HF2 := sw.trans s3
      cases et : t γ2 with
      | bad => rw [et] at p'; exact p'.elim
      | er x γ3 => rw [et] at p'; exact p'.elim
      | ok b γ3 =>
        rw [et] at p'
        intro b' H3 HF3 k4 s4 eb
        cases eb
        have sc := sb.trans s4
        cases b with
        | false =>
          rw [if_neg (by simp)]
          cases q3 : unO vs γ3 with
          | none => simp only [Out.bindN, q3] at p'; exact p'.elim
          | some γ5 =>
            simp only [Out.bindN, q3] at p'
            exact ⟨hlt, HF3, γ5, ys, mk'.back ag2 k4 sc q3, sub'.trans sc.mono, (unO_ok q3).in_, p'⟩
        | true =>
          rw [if_pos rfl]
          refine ⟨HF3, γ3, k4, ?_⟩
          cases ee : e γ3 with
          | bad => simp only [Out.bindN, ee] at p'; exact p'.elim
          | er x γ4 => simp only [Out.bindN, ee] at p'; exact p'.elim
          | ok y γ4 =>
            simp only [Out.bindN, ee] at p'
            intro v H4 HF4 k5 s5 ry
            cases y with
            | sl j => exact p'.elim
            | d y =>
              simp only at p'
              cases qc : Nat.blt (ds0 ++ ys).length 16777216 with
              | false => simp only [qc] at p'; exact p'.elim
              | true =>
                simp only [qc] at p'
                cases q3 : unO vs γ4 with
                | none => simp only [q3] at p'; exact p'.elim
                | some γ5 =>
                  simp only [q3] at p'
                  have sd := sc.trans s5
                  have mb := mk'.back ag2 k5 sd q3
                  obtain ⟨xs, e1, r1⟩ := mb.acc
                  refine ⟨xs, e1, ?_, hlt, HF4, γ5, ys ++ [y], by rw [← List.append_assoc]; exact mb.push n1 e1 ry, sub'.trans sd.mono, (unO_ok q3).in_, ?_⟩
                  · rw [r1.length, size_line]
                    simpa [Nat.blt_eq] using qc
                  · rw [Out.bind_assoc] at p'
                    simp only [Out.bind, List.length_append, List.length_cons, List.length_nil, List.append_assoc, List.cons_append, List.nil_append, Nat.add_assoc, Nat.zero_add] at p' ⊢
                    exact p'
  · have e : i = items.length := by omega
    subst e
    rw [List.drop_length] at p'
    have p2 : post (rE G) G W σ γ1 H0 HF0 Q (K (ys ++ []) γ') := p'
    rw [List.append_nil] at p2
    exact .inl ⟨w2, fin ys γ' H' HF' mk' sub' p2⟩
theorem te_lc {mi : Gam → Out (List D)} {vs S : List Nat} {f : D → Gam → Option Gam} {t : Gam → Out Bool} {e : Gam → Out Ar} {Q : VK} (hS : ∀ i ∈ S, i ∈ vs) (h : tE G W (eLc mi vs f t e) σ H Q) :
    tLc (tI G W mi) (tgt G S f) (tT G Wn t) (tO G Wn e) vs σ H Q := by
  obtain ⟨HF, γ, k, p⟩ := h
  refine ⟨HF, γ, k, post_bind (r1 := rI G) p fun items γ0 J H0 HF0 k0 s0 wk p0 => ?_⟩
  intro P hP
  cases q0 : unO vs γ0 with
  | none => rw [q0] at p0; exact p0.elim
  | some γ1 =>
  rw [q0] at p0
  have u0 := unO_ok q0
  have a0 : Agree vs σ σ := ⟨rfl, fun _ _ => rfl⟩
  have k1 : Ok G σ H0 HF0 γ1 := u0.ok a0 k0
  have p1 := post_from later_E (s0.trans (u0.stp a0)) p0
  have mk0 : Mk G σ γ1 H0 HF0 P σ γ1 (upd H0 P (.lst [])) HF0 [] := ⟨k1.laid hP, .laid hP, ⟨[], upd_same, .nil⟩, k0.hf_none hP, fun j z => by
    obtain ⟨o, e, _⟩ := k1.own z
    rw [hP] at e; cases e⟩
  refine lc_loop (Nx := fun H => Q (.ref P) H) hS hP wk mk0 u0.in_ p1 fun ys γ' H' HF' mk _ p2 => ?_
  rw [List.nil_append] at mk
  obtain ⟨xs, e1, r1⟩ := mk.acc
  exact p2 (.ref P) H' HF' mk.ok mk.stp ⟨P, rfl, ⟨xs, e1, mk.fz, r1⟩, mk.no, .inl hP⟩

/-! two clauses -/
def lc2Go (vs : List Nat) (f : D → Gam → Option Gam) (t : Gam → Out Bool) (mi1 : Gam → Out (List D)) (vs1 : List Nat) (f1 : D → Gam → Option Gam) (t1 : Gam → Out Bool) (e : Gam → Out Ar) : List D → Nat → Gam → Out (List D)
  | [], _, γ => .ok [] γ
  | d :: ds, c, γ => match f d γ with
    | none => .bad
    | some γ1 => (t γ1).bindN fun b γ2 => match b with
      | true => (mi1 γ2).bindN fun items1 γ3 => (match unO vs1 γ3 with
        | some γ4 => (lcGo vs1 f1 t1 e items1 c γ4).bind fun ys γ5 => (match unO vs γ5 with
          | some γ6 => (lc2Go vs f t mi1 vs1 f1 t1 e ds (c + ys.length) γ6).bind fun zs γ7 => .ok (ys ++ zs) γ7
          | none => .bad)
        | none => .bad)
      | false => (match unO vs γ2 with
        | some γ3 => lc2Go vs f t mi1 vs1 f1 t1 e ds c γ3
        | none => .bad)
def eLc2 (mi : Gam → Out (List D)) (vs : List Nat) (f : D → Gam → Option Gam) (t : Gam → Out Bool) (mi1 : Gam → Out (List D)) (vs1 : List Nat) (f1 : D → Gam → Option Gam) (t1 : Gam → Out Bool) (e : Gam → Out Ar) : Gam → Out R := fun γ => (mi γ).bind fun items γ1 => match unO vs γ1 with
  | some γ2 => (lc2Go vs f t mi1 vs1 f1 t1 e items 0 γ2).bind fun ys γ3 => .ok (.own (.lst ys)) γ3
  | none => .bad
theorem te_lc2 {mi mi1 : Gam → Out (List D)} {vs vs1 S S1 : List Nat} {f f1 : D → Gam → Option Gam} {t t1 : Gam → Out Bool} {e : Gam → Out Ar} {Q : VK} (hS : ∀ i ∈ S, i ∈ vs) (hS1 : ∀ i ∈ S1, i ∈ vs1) (h1 : ∀ i ∈ vs1, i ∈ vs) (h : tE G W (eLc2 mi vs f t mi1 vs1 f1 t1 e) σ H Q) :
    tLc2 (tI G W mi) (tgt G S f) (tT G Wn t) (tI G Wn mi1) (tgt G S1 f1) (tT G Wn t1) (tO G Wn e) vs vs1 σ H Q := by
  obtain ⟨HF, γ, k, p⟩ := h
  refine ⟨HF, γ, k, post_bind (r1 := rI G) p fun items γ0 J H0 HF0 k0 s0 wk p0 => ?_⟩
  intro P hP
  cases q0 : unO vs γ0 with
  | none => rw [q0] at p0; exact p0.elim
  | some γ1 =>
  rw [q0] at p0
  have u0 := unO_ok q0
  have a0 : Agree vs σ σ := ⟨rfl, fun _ _ => rfl⟩
  have k1 : Ok G σ H0 HF0 γ1 := u0.ok a0 k0
  have p1 := post_from later_E (s0.trans (u0.stp a0)) p0
  have mk0 : Mk G σ γ1 H0 HF0 P σ γ1 (upd H0 P (.lst [])) HF0 [] := ⟨k1.laid hP, .laid hP, ⟨[], upd_same, .nil⟩, k0.hf_none hP, fun j z => by
    obtain ⟨o, e, _⟩ := k1.own z
    rw [hP] at e; cases e⟩
  refine ⟨fun i m H' => m = items.length - i ∧ i ≤ items.length ∧ ∃ HF' γ' ds, Mk G σ γ1 H0 HF0 P σ γ' H' HF' ds ∧ Un vs γ' ∧ post (rE G) G W σ γ1 H0 HF0 Q ((lc2Go vs f t mi1 vs1 f1 t1 e (items.drop i) ds.length γ').bind fun ys γ3 => .ok (.own (.lst (ds ++ ys))) γ3), ⟨_, rfl, Nat.zero_le _, HF0, γ1, [], mk0, u0.in_, p1⟩, ?_⟩
  rintro i m H' ⟨rfl, hi, HF', γ', ds, mk, un, p'⟩
  obtain ⟨w1, w2⟩ := wk HF' H' mk.stp.mono mk.ok.sub
  by_cases hlt : i < items.length
  · refine .inr ⟨(w1 i hlt).1, fun H3 => i + 1 ≤ items.length ∧ ∃ HF3 γ3 ds3, Mk G σ γ1 H0 HF0 P σ γ3 H3 HF3 ds3 ∧ Un vs γ3 ∧ post (rE G) G W σ γ1 H0 HF0 Q ((lc2Go vs f t mi1 vs1 f1 t1 e (items.drop (i + 1)) ds3.length γ3).bind fun ys γ5 => .ok (.own (.lst (ds3 ++ ys))) γ5), fun H3 q => ⟨items.length - (i + 1), by omega, rfl, q⟩, fun x H'' y => ?_⟩
    obtain ⟨d, ed, yy⟩ := (w1 i hlt).2 x H'' y
    obtain ⟨HF2, k2, s2, r2⟩ := yld_ok mk.ok yy
    rw [drop_of hlt ed] at p'
    unfold lc2Go at p'
    have uid := un.id
    have kw : Ok G (wipe σ vs) H'' HF2 γ' := uid.ok (wipe_agree σ vs) k2
    have sw : Stp σ γ' H' HF' (wipe σ vs) γ' H'' HF2 := s2.trans (uid.stp (wipe_agree σ vs))
    refine ⟨HF2, γ', d, kw, r2, ?_⟩
    cases q : f d γ' with
    | none => rw [q] at p'; exact p'.elim
    | some γ2 =>
      rw [q] at p'
      simp only at p'
      intro σ2 k3 s3 ag
      have ag2 : Agree vs σ σ2 := (wipe_agree σ vs).tr (ag.mono hS)
      refine ⟨by rw [wipe_eq ag2], HF2, γ2, k3, ?_⟩
      have sb : Stp σ γ' H' HF' σ2 γ2 H'' HF2 := sw.trans s3
      cases et : t γ2 with
      | bad => rw [et] at p'; exact p'.elim
      | er x γ3 => rw [et] at p'; exact p'.elim
      | ok b γ3 =>
        rw [et] at p'
        intro b' H3 HF3 k4 s4 eb
        cases eb
        have sc := sb.trans s4
        cases b with
        | false =>
          rw [if_neg (by simp)]
          cases q3 : unO vs γ3 with
          | none => simp only [Out.bindN, q3] at p'; exact p'.elim
          | some γ5 =>
            simp only [Out.bindN, q3] at p'
            exact ⟨hlt, HF3, γ5, ds, mk.back ag2 k4 sc q3, (unO_ok q3).in_, p'⟩
        | true =>
          rw [if_pos rfl]
          refine ⟨HF3, γ3, k4, ?_⟩
          cases ei : mi1 γ3 with
          | bad => simp only [Out.bindN, ei] at p'; exact p'.elim
          | er x γ4 => simp only [Out.bindN, ei] at p'; exact p'.elim
          | ok items1 γ4 =>
            simp only [Out.bindN, ei] at p'
            intro J1 H4 HF4 k5 s5 wk1
            cases q1 : unO vs1 γ4 with
            | none => simp only [q1] at p'; exact p'.elim
            | some γ5 =>
              simp only [q1] at p'
              have u1 := unO_ok q1
              have a2 : Agree vs1 σ2 σ2 := ⟨rfl, fun _ _ => rfl⟩
              have k6 : Ok G σ2 H4 HF4 γ5 := u1.ok a2 k5
              have s6 : Stp σ γ' H' HF' σ2 γ5 H4 HF4 := (sc.trans s5).trans (u1.stp a2)
              have mki : Mk G σ γ1 H0 HF0 P σ2 γ5 H4 HF4 ds := mk.go k6 s6
              rw [Out.bind_assoc] at p'
              refine lc_loop (W := W) (Q := Q) hS1 hP wk1 mki u1.in_ p' fun ys γ6 H6 HF6 mk6 _ p6 => ?_
              cases q6 : unO vs γ6 with
              | none => simp only [q6] at p6; exact p6.elim
              | some γ7 =>
                simp only [q6] at p6
                have uu := unO_ok q6
                have mk7 : Mk G σ γ1 H0 HF0 P σ γ7 H6 HF6 (ds ++ ys) := mk6.go (uu.ok (G := G) ag2.symm mk6.ok) (uu.stp ag2.symm)
                refine ⟨hlt, HF6, γ7, ds ++ ys, mk7, uu.in_, ?_⟩
                rw [Out.bind_assoc] at p6
                simp only [Out.bind, List.length_append, List.append_assoc] at p6 ⊢
                exact p6
  · have e : i = items.length := by omega
    subst e
    refine .inl ⟨w2, ?_⟩
    rw [List.drop_length] at p'
    have p2 : post (rE G) G W σ γ1 H0 HF0 Q (.ok (.own (.lst (ds ++ []))) γ') := p'
    rw [List.append_nil] at p2
    obtain ⟨xs, e1, r1⟩ := mk.acc
    exact p2 (.ref P) H' HF' mk.ok mk.stp ⟨P, rfl, ⟨xs, e1, mk.fz, r1⟩, mk.no, .inl hP⟩

/-! the rules -/
def mYes : Gam → Out Bool := fun γ => .ok true γ
theorem tpts_nil : PTs X [] (tT G W mYes) := ⟨fun pins s σ H Q I h => pts_nil.run pins s σ H Q I (by
  obtain ⟨HF, γ, k, p⟩ := h
  exact p true H HF k .refl rfl)⟩
theorem tpts_one {c : Expr} {m : Gam → Out Bool} (h : PT X c (tT G W m)) : PTs X [c] (tT G W m) := pts_one h
theorem tpe_lc {elt tg iter : Expr} {ifs : List Expr} {scope : Scope} {own : List (Str × Nat)} {pos : Pos} {mi : Gam → Out (List D)} {S : List Nat} {f : D → Gam → Option Gam} {t : Gam → Out Bool} {e : Gam → Out Ar} (hc : X.calm = true) (hN : X.N.Nodup) (hi : PI X tg iter (tI G W mi)) (ok : BlkOk X.N X.env.scope scope own)
    (hg : ∀ (s : Shared) (H : Hp) (C : Addr) (cl : List (Str × Addr)) (fp : List Addr), PG (X.blk s H scope (compEnvC scope cl C X.env) fp) tg (tgt G S f)) (ht : ∀ (s : Shared) (H : Hp) (C : Addr) (cl : List (Str × Addr)) (fp : List Addr), PTs (X.blk s H scope (compEnvC scope cl C X.env) fp) ifs (tT G Wn t))
    (he : ∀ (s : Shared) (H : Hp) (C : Addr) (cl : List (Str × Addr)) (fp : List Addr), PE (X.blk s H scope (compEnvC scope cl C X.env) fp) elt (tO G Wn e)) (hs : ∀ x, foldedSetIterable iter X.env x = pure x) (hS : ∀ i ∈ S, i ∈ own.map (·.2)) :
    PE X (.ListComp elt [⟨tg, iter, ifs, 0⟩] scope pos) (tE G W (eLc mi (own.map (·.2)) f t e)) := ⟨fun pins s σ H Q I h => (pe_lc hc hN hi ok hg ht he hs).run pins s σ H Q I (te_lc hS h)⟩
theorem tps_setLc {i : Nat} {y : Str} {py : Pos} {elt tg iter : Expr} {ifs : List Expr} {scope : Scope} {own : List (Str × Nat)} {pos spos : Pos} {mi : Gam → Out (List D)} {S : List Nat} {f : D → Gam → Option Gam} {t : Gam → Out Bool} {e : Gam → Out Ar} (hc : X.calm = true) (hN : X.N.Nodup) (hy : X.N[i]? = some y) (hyl : X.env.scope.names.lookup y = some .local)
    (hsw : swapsWith (.ListComp elt [⟨tg, iter, ifs, 0⟩] scope pos) (some (.Name y py)) spos.line X.env = pure true) (hi : PI X tg iter (tI G W mi)) (ok : BlkOk X.N X.env.scope scope own)
    (hg : ∀ (s : Shared) (H : Hp) (C : Addr) (cl : List (Str × Addr)) (fp : List Addr), PG (X.blk s H scope (compEnvC scope cl C X.env) fp) tg (tgt G S f)) (ht : ∀ (s : Shared) (H : Hp) (C : Addr) (cl : List (Str × Addr)) (fp : List Addr), PTs (X.blk s H scope (compEnvC scope cl C X.env) fp) ifs (tT G Wn t))
    (he : ∀ (s : Shared) (H : Hp) (C : Addr) (cl : List (Str × Addr)) (fp : List Addr), PE (X.blk s H scope (compEnvC scope cl C X.env) fp) elt (tO G Wn e)) (hs : ∀ x, foldedSetIterable iter X.env x = pure x) (hS : ∀ i ∈ S, i ∈ own.map (·.2)) :
    PS X (.Assign [.Name y py] (.ListComp elt [⟨tg, iter, ifs, 0⟩] scope pos) spos) (tS G W (sSet i (eLc mi (own.map (·.2)) f t e))) := ⟨fun pins s σ H D I h => (ps_setLc hc hN hy hyl hsw hi ok hg ht he hs).run pins s σ H D I (te_lc hS (Q := fun x H1 => gName i x σ H1 D.nx) (ts_set h))⟩
theorem tpe_lc2 {elt tg iter tg1 iter1 : Expr} {ifs ifs1 : List Expr} {scope : Scope} {own : List (Str × Nat)} {vs1 : List Nat} {pos : Pos} {mi mi1 : Gam → Out (List D)} {S S1 : List Nat} {f f1 : D → Gam → Option Gam} {t t1 : Gam → Out Bool} {e : Gam → Out Ar} (hc : X.calm = true) (hN : X.N.Nodup) (hi : PI X tg iter (tI G W mi)) (ok : BlkOk X.N X.env.scope scope own) (hv : ∀ i ∈ vs1, i ∈ own.map (·.2))
    (hg : ∀ (s : Shared) (H : Hp) (C : Addr) (cl : List (Str × Addr)) (fp : List Addr), PG (X.blk s H scope (compEnvC scope cl C X.env) fp) tg (tgt G S f)) (ht : ∀ (s : Shared) (H : Hp) (C : Addr) (cl : List (Str × Addr)) (fp : List Addr), PTs (X.blk s H scope (compEnvC scope cl C X.env) fp) ifs (tT G Wn t))
    (hi1 : ∀ (s : Shared) (H : Hp) (C : Addr) (cl : List (Str × Addr)) (fp : List Addr), PI (X.blk s H scope (compEnvC scope cl C X.env) fp) tg1 iter1 (tI G Wn mi1))
    (hg1 : ∀ (s : Shared) (H : Hp) (C : Addr) (cl : List (Str × Addr)) (fp : List Addr), PG (X.blk s H scope (compEnvC scope cl C X.env) fp) tg1 (tgt G S1 f1)) (ht1 : ∀ (s : Shared) (H : Hp) (C : Addr) (cl : List (Str × Addr)) (fp : List Addr), PTs (X.blk s H scope (compEnvC scope cl C X.env) fp) ifs1 (tT G Wn t1))
    (he : ∀ (s : Shared) (H : Hp) (C : Addr) (cl : List (Str × Addr)) (fp : List Addr), PE (X.blk s H scope (compEnvC scope cl C X.env) fp) elt (tO G Wn e)) (hs : ∀ x, foldedSetIterable iter X.env x = pure x) (hs1 : ∀ env x, foldedSetIterable iter1 env x = pure x) (hS : ∀ i ∈ S, i ∈ own.map (·.2)) (hS1 : ∀ i ∈ S1, i ∈ vs1) :
    PE X (.ListComp elt [⟨tg, iter, ifs, 0⟩, ⟨tg1, iter1, ifs1, 0⟩] scope pos) (tE G W (eLc2 mi (own.map (·.2)) f t mi1 vs1 f1 t1 e)) := ⟨fun pins s σ H Q I h => (pe_lc2 hc hN hi ok hv hg ht hi1 hg1 ht1 he hs hs1).run pins s σ H Q I (te_lc2 hS hS1 hv h)⟩
theorem tps_setLc2 {i : Nat} {y : Str} {py : Pos} {elt tg iter tg1 iter1 : Expr} {ifs ifs1 : List Expr} {scope : Scope} {own : List (Str × Nat)} {vs1 : List Nat} {pos spos : Pos} {mi mi1 : Gam → Out (List D)} {S S1 : List Nat} {f f1 : D → Gam → Option Gam} {t t1 : Gam → Out Bool} {e : Gam → Out Ar} (hc : X.calm = true) (hN : X.N.Nodup) (hy : X.N[i]? = some y) (hyl : X.env.scope.names.lookup y = some .local)
    (hsw : swapsWith (.ListComp elt [⟨tg, iter, ifs, 0⟩, ⟨tg1, iter1, ifs1, 0⟩] scope pos) (some (.Name y py)) spos.line X.env = pure true) (hi : PI X tg iter (tI G W mi)) (ok : BlkOk X.N X.env.scope scope own) (hv : ∀ i ∈ vs1, i ∈ own.map (·.2))
    (hg : ∀ (s : Shared) (H : Hp) (C : Addr) (cl : List (Str × Addr)) (fp : List Addr), PG (X.blk s H scope (compEnvC scope cl C X.env) fp) tg (tgt G S f)) (ht : ∀ (s : Shared) (H : Hp) (C : Addr) (cl : List (Str × Addr)) (fp : List Addr), PTs (X.blk s H scope (compEnvC scope cl C X.env) fp) ifs (tT G Wn t))
    (hi1 : ∀ (s : Shared) (H : Hp) (C : Addr) (cl : List (Str × Addr)) (fp : List Addr), PI (X.blk s H scope (compEnvC scope cl C X.env) fp) tg1 iter1 (tI G Wn mi1))
    (hg1 : ∀ (s : Shared) (H : Hp) (C : Addr) (cl : List (Str × Addr)) (fp : List Addr), PG (X.blk s H scope (compEnvC scope cl C X.env) fp) tg1 (tgt G S1 f1)) (ht1 : ∀ (s : Shared) (H : Hp) (C : Addr) (cl : List (Str × Addr)) (fp : List Addr), PTs (X.blk s H scope (compEnvC scope cl C X.env) fp) ifs1 (tT G Wn t1))
    (he : ∀ (s : Shared) (H : Hp) (C : Addr) (cl : List (Str × Addr)) (fp : List Addr), PE (X.blk s H scope (compEnvC scope cl C X.env) fp) elt (tO G Wn e)) (hs : ∀ x, foldedSetIterable iter X.env x = pure x) (hs1 : ∀ env x, foldedSetIterable iter1 env x = pure x) (hS : ∀ i ∈ S, i ∈ own.map (·.2)) (hS1 : ∀ i ∈ S1, i ∈ vs1) :
    PS X (.Assign [.Name y py] (.ListComp elt [⟨tg, iter, ifs, 0⟩, ⟨tg1, iter1, ifs1, 0⟩] scope pos) spos) (tS G W (sSet i (eLc2 mi (own.map (·.2)) f t mi1 vs1 f1 t1 e))) := ⟨fun pins s σ H D I h => (ps_setLc2 hc hN hy hyl hsw hi ok hv hg ht hi1 hg1 ht1 he hs hs1).run pins s σ H D I (te_lc2 hS hS1 hv (Q := fun x H1 => gName i x σ H1 D.nx) (ts_set h))⟩
end
end T

-- text T6
set_option Elab.async false
set_option linter.all false
set_option maxRecDepth 100000
set_option maxHeartbeats 4000000
namespace T
open PySem L2
section
variable {X : Cx} {G : Tab} {W : Wt} {σ : L2.St} {H HF HF' : Hp} {γ : Gam} {E : Ends} {tg : Expr}
/-! what may be walked -/
def kD : Key → D
  | .inl i => .int i
  | .inr x => .str x
/-- a dict's key as data -/
def kOf (t : Bool) (k : List Key) : D := match t with
  | true => .tup (k.map kD)
  | false => kD (kHd k)
def mIter (mo : Gam → Out Ar) : Gam → Out (List D) := fun γ => (mo γ).bind fun a γ1 => match a with
  | .d (.lst ds) => .ok ds γ1
  | .d (.tup ds) => .ok ds γ1
  | .d (.dct t ks _) => .ok (ks.map (kOf t)) γ1
  | _ => .bad
theorem kD_rep {k : Key} : Rep G HF (kD k) (kV k) := by
  cases k <;> (unfold kD kV Rep; rfl)
theorem kDs_rep : ∀ {ks : List Key}, RepL G HF (ks.map kD) (ks.map kV)
  | [] => .nil
  | k :: ks => .cons kD_rep kDs_rep
/-- a tuple that stands is frozen -/
theorem tup_fz {q : Addr} {xs : List V} {ds : List D} (s : Sub HF H) (h : H q = some (.tup xs)) (r : RepL G HF ds xs) : ∃ HF2, Sub HF HF2 ∧ Sub HF2 H ∧ (∀ b, HF2 b = HF b ∨ NT (H b)) ∧ Rep G HF2 (.tup ds) (.ref q) := by
  cases e : HF q with
  | some u =>
    have e2 := s _ _ e
    rw [h] at e2
    cases e2
    refine ⟨HF, Sub.refl _, s, fun b => .inl rfl, ?_⟩
    unfold Rep
    exact ⟨q, xs, rfl, e, r⟩
  | none =>
    refine ⟨upd HF q (.tup xs), sub_upd e, fun b u g => ?_, fun b => ?_, rep_newT e r⟩
    · by_cases hb : b = q
      · subst hb; rw [upd_same] at g; cases g; exact h
      · rw [upd_ne hb] at g; exact s _ _ g
    · by_cases hb : b = q
      · subst hb; exact .inr ⟨xs, h⟩
      · exact .inl (upd_ne hb)
theorem zip_at {α β : Type} {as : List α} {bs : List β} {i : Nat} {x : α} {y : β} (h : (as.zip bs)[i]? = some (x, y)) : as[i]? = some x ∧ bs[i]? = some y := by
  rw [List.getElem?_zip_eq_some] at h
  exact h
theorem wk_keysD {t : Bool} {ks : List (List Key)} {ds : List D} {a : Addr} {od : Obj} {xs : List V} (h : HF a = some (.frz od (hoD t ks xs))) (l : ks.length = ds.length) (r : RepL G HF ds xs) :
    (t = false → Wk G (ks.map (kOf t)) (Itk a od ((ks.map kHd).zip xs)) HF) ∧ (t = true → Wk G (ks.map (kOf t)) (Itkt a od (ks.zip xs)) HF) := by
  have lx : xs.length = ks.length := by rw [r.length, l]
  refine ⟨fun e => ?_, fun e => ?_⟩
  · subst e
    refine wk_of walk_keys (by simp [lx]) (fun HF2 H2 m m2 => m2 _ _ (m _ _ h)) fun HF2 H2 i x H' m m2 hi y => ?_
    obtain ⟨e1, k, v, e2, e3⟩ := y
    obtain ⟨z, _⟩ := zip_at e2
    rw [List.getElem?_map] at z
    obtain ⟨kk, z1, z2⟩ := Option.map_eq_some_iff.mp z
    refine ⟨kOf false kk, by rw [List.getElem?_map, z1]; rfl, .inl ⟨e1, ?_⟩⟩
    rw [e3, ← z2]
    exact kD_rep
  · subst e
    refine wk_of walk_keysT (by simp [lx]) (fun HF2 H2 m m2 => m2 _ _ (m _ _ h)) fun HF2 H2 i x H' m m2 hi y => ?_
    obtain ⟨e1, k, v, q, e2, e3, e4⟩ := y
    obtain ⟨z, _⟩ := zip_at e2
    refine ⟨kOf true k, by rw [List.getElem?_map, z]; rfl, .inr (.inr ?_)⟩
    obtain ⟨HF3, g1, g2, g3, g4⟩ := tup_fz (G := G) m2 e4 kDs_rep
    subst e1
    exact ⟨HF3, g1, g2, fun b _ => ⟨rfl, g3 b⟩, by rw [e3]; exact g4⟩
theorem wk_lst {ds : List D} {a : Addr} {xs : List V} (hK : G.K = X.K) (h : HF a = some (.lst xs)) (r : RepL G HF ds xs) : Wk G ds (Itl X.K a) HF :=
  wk_of (walk_list (K := X.K) (a := a) (xs := xs)) r.length (fun HF2 H a b => SqL.of (b _ _ (a _ _ h))) fun HF2 H i x H' a b hi y => by
    obtain ⟨e, y⟩ := y
    obtain ⟨d, ed, rd⟩ := r.get' y
    exact ⟨d, ed, .inl ⟨e, Rep.mono a _ _ rd⟩⟩
theorem wk_tup {ds : List D} {a : Addr} {xs : List V} (hK : G.K = X.K) (h : SqT X.K HF a xs) (r : RepL G HF ds xs) : Wk G ds (Itt X.K a) HF :=
  wk_of (walk_tup (K := X.K) (a := a) (xs := xs)) r.length (fun HF2 H a b => SqT.mono (a.trans b) h) fun HF2 H i x H' a b hi y => by
    obtain ⟨e, y⟩ := y
    obtain ⟨d, ed, rd⟩ := r.get' y
    exact ⟨d, ed, .inl ⟨e, Rep.mono a _ _ rd⟩⟩
def iSeq (K : PySem.W.Frag) (tl : TE) : TI := fun σ H R => tl σ H fun x H1 => ∃ a, x = .ref a ∧ ((∃ xs, SqL K H1 a xs ∧ R (Itl K a) H1) ∨ (∃ xs, SqT K H1 a xs ∧ R (Itt K a) H1) ∨ ∃ o, (∃ kvs, H1 a = some (.frz o (.dK kvs)) ∧ R (Itk a o kvs) H1) ∨ ∃ kvs, H1 a = some (.frz o (.dT kvs)) ∧ R (Itkt a o kvs) H1)
theorem pi_seq {l : Expr} {tl : TE} (hl : PE X l tl) : PI X tg l (iSeq X.K tl) := by
  refine ⟨fun pins s σ H R I h => ?_⟩
  refine thn (hl.run pins s σ H _ I h) fun v s1 ⟨x, H1, I1, r1, q1⟩ => ?_
  obtain ⟨a, e, q⟩ := q1
  subst e
  cases r1
  rcases q with ⟨xs, hq, q⟩ | ⟨xs, hq, q⟩ | ⟨o, ⟨kvs, hd, q⟩ | ⟨kvs, hd, q⟩⟩
  · obtain ⟨its, rv, p, hz⟩ := I1.list hq
    refine wpAny_pyIter_list p.isList ?_
    refine ⟨s1.heap.objs.size, [s1.heap.objs.size], _, _, H1, rfl, I1.kept (t' := s1.toks) fun b o e => Heap.get?_push_of_some _ e, turn_list a _, ⟨_, Heap.get?_push_size _ rfl, rfl, rfl⟩, fun b hb => ?_, q⟩
    have e : b = s1.heap.objs.size := by simpa using hb
    subst e
    exact I1.fpOk (Nat.le_refl _) (I1.hok.fresh (Nat.le_refl _))
  · obtain ⟨its, rv, p, hz⟩ := I1.tuple hq
    refine wpAny_pyIter_tuple (show s1.heap.IsTuple a its.toArray from p) ?_
    refine ⟨s1.heap.objs.size, [s1.heap.objs.size], _, _, H1, rfl, I1.kept (t' := s1.toks) fun b o e => Heap.get?_push_of_some _ e, turn_tuple a _, ⟨_, Heap.get?_push_size _ rfl, rfl, rfl⟩, fun b hb => ?_, q⟩
    have e : b = s1.heap.objs.size := by simpa using hb
    subst e
    exact I1.fpOk (Nat.le_refl _) (I1.hok.fresh (Nat.le_refl _))
  · obtain ⟨hs, hgd, hx, es, ep, vs, hdt, hsz, kv, hm⟩ := I1.frzK hd
    exact iter_keys hs hgd hx hdt (pi_one (tk := s1.toks) I1 _ (turn_keys _ hdt) ⟨_, Heap.get?_push_size _ rfl, rfl, by rw [hsz] <;> rfl⟩ q)
  · obtain ⟨hs, hgd, hx, es, ep, hdt, hsz, ent⟩ := I1.frzT hd
    exact iter_keys hs hgd hx hdt (pi_one (tk := s1.toks) I1 _ (turn_keysT _ hdt) ⟨_, Heap.get?_push_size _ rfl, rfl, by rw [hsz] <;> rfl⟩ q)
theorem tpi_seq {l : Expr} {mo : Gam → Out Ar} (hK : G.K = X.K) (hl : PE X l (tO G W mo)) : PI X tg l (tI G W (mIter mo)) := ⟨fun pins s σ H R I h => (pi_seq hl).run pins s σ H R I (by
  obtain ⟨HF, γ, k, p⟩ := h
  refine ⟨HF, γ, k, post_bind (r1 := rO G) p fun a γ1 v H1 HF1 k1 s1 r1 p1 => ?_⟩
  cases a with
  | sl i => exact p1.elim
  | d d =>
    cases d with
    | lst ds =>
      have r2 : Rep G HF1 (.lst ds) v := r1
      unfold Rep at r2
      obtain ⟨a, xs, e, h1, rl⟩ := r2
      exact ⟨a, e, .inl ⟨xs, SqL.of (k1.sub _ _ h1), p1 _ H1 HF1 k1 s1 (wk_lst hK h1 rl)⟩⟩
    | tup ds =>
      have r2 : Rep G HF1 (.tup ds) v := r1
      unfold Rep at r2
      obtain ⟨a, xs, e, h1, rl⟩ := r2
      have h1 := SqT.of (K := X.K) h1
      exact ⟨a, e, .inr (.inl ⟨xs, SqT.mono k1.sub h1, p1 _ H1 HF1 k1 s1 (wk_tup hK h1 rl)⟩)⟩
    | dct t ks ds =>
      have r2 : Rep G HF1 (.dct t ks ds) v := r1
      unfold Rep at r2
      obtain ⟨a, od, xs, e, h1, l, w, rl⟩ := r2
      obtain ⟨w1, w2⟩ := wk_keysD h1 l rl
      refine ⟨a, e, .inr (.inr ⟨od, ?_⟩)⟩
      cases t with
      | false => exact .inl ⟨_, k1.sub _ _ h1, p1 _ H1 HF1 k1 s1 (w1 rfl)⟩
      | true => exact .inr ⟨_, k1.sub _ _ h1, p1 _ H1 HF1 k1 s1 (w2 rfl)⟩
    | _ => exact p1.elim)⟩
/-- lo, lo + 1, .. -/
def rgD (lo : Int) : Nat → List D
  | 0 => []
  | n + 1 => .int lo :: rgD (lo + 1) n
theorem rgD_length : ∀ (n : Nat) (lo : Int), (rgD lo n).length = n
  | 0, _ => rfl
  | n + 1, lo => by show (rgD (lo + 1) n).length + 1 = n + 1; rw [rgD_length n]
theorem rgD_get : ∀ (n : Nat) (lo : Int) (i : Nat), i < n → (rgD lo n)[i]? = some (.int (lo + i))
  | 0, _, _, h => absurd h (Nat.not_lt_zero _)
  | n + 1, lo, 0, _ => by show some (D.int lo) = some (D.int (lo + ((0 : Nat) : Int))); simp
  | n + 1, lo, i + 1, h => by
    show (rgD (lo + 1) n)[i]? = _
    rw [rgD_get n (lo + 1) i (Nat.lt_of_succ_lt_succ h)]
    congr 2
    push_cast
    omega
theorem wk_rg {lo : Int} {n : Nat} : Wk G (rgD lo n) (Itr lo n) HF :=
  wk_of walk_range (rgD_length n lo).symm (fun _ _ _ _ => trivial) fun HF2 H i x H' a b hi y => by
    obtain ⟨e, y⟩ := y
    refine ⟨_, rgD_get n lo i hi, .inl ⟨e, ?_⟩⟩
    rw [y]
    unfold Rep
    rfl
def inRg (i : Int) : Bool := decide (-4611686018427387904 ≤ i) && decide (i < 4611686018427387904)
theorem inRg_ok {i : Int} (h : inRg i = true) : -(2 ^ 62) ≤ i ∧ i < 2 ^ 62 := by
  unfold inRg at h
  simp only [Bool.and_eq_true, decide_eq_true_eq] at h
  exact ⟨by omega, by omega⟩
theorem looks_one {γ : Gam} {as : List Ar} {d : D} {vs : List V} (k : Ok G σ H HF γ) (r : ArsOk G σ HF as vs) (e : looks γ as = some [d]) : ∃ v, vs = [v] ∧ Pk G HF H d v := by
  have := looks_pk k r e
  cases this with
  | cons a b => cases b; exact ⟨_, rfl, a⟩
theorem looks_two {γ : Gam} {as : List Ar} {d d2 : D} {vs : List V} (k : Ok G σ H HF γ) (r : ArsOk G σ HF as vs) (e : looks γ as = some [d, d2]) : ∃ v v2, vs = [v, v2] ∧ Pk G HF H d v ∧ Pk G HF H d2 v2 := by
  have := looks_pk k r e
  cases this with
  | cons a b =>
    cases b with
    | cons a2 b => cases b; exact ⟨_, _, rfl, a, a2⟩
def mRng1 (ms : Gam → Out (List Ar)) : Gam → Out (List D) := fun γ => (ms γ).bind fun as γ1 => match looks γ1 as with
  | some [.int j] => (match inRg j with
    | true => .ok (rgD 0 j.toNat) γ1
    | false => .bad)
  | _ => .bad
def mRng2 (ms : Gam → Out (List Ar)) : Gam → Out (List D) := fun γ => (ms γ).bind fun as γ1 => match looks γ1 as with
  | some [.int i, .int j] => (match inRg i && inRg j with
    | true => .ok (rgD i (j - i).toNat) γ1
    | false => .bad)
  | _ => .bad
theorem tpi_range1 {a : Expr} {ms : Gam → Out (List Ar)} {p pos : Pos} (hg : Gl X "range") (hm : X.mg "range" = none) (ha : PA X [a] (tA G W ms)) (hs : starEach [a] X.env = [(false, eval a X.env)]) : PI X tg (.Call (.Name "range" p) [a] [] pos) (tI G W (mRng1 ms)) :=
  ⟨fun pins s σ H R I h => (pi_range1 hg hm ha hs).run pins s σ H R I (by
    obtain ⟨HF, γ, k, p⟩ := h
    refine ⟨HF, γ, k, post_bind (r1 := rA G) p fun as γ1 vs H1 HF1 k1 s1 r1 p1 => ?_⟩
    split at p1
    · rename_i j e
      obtain ⟨v, rfl, q⟩ := looks_one k1 r1 e
      cases b : inRg j with
      | false => rw [b] at p1; exact p1.elim
      | true =>
        rw [b] at p1
        obtain ⟨l, u⟩ := inRg_ok b
        exact ⟨j, by rw [q.int], l, u, p1 _ H1 HF1 k1 s1 wk_rg⟩
    · exact p1.elim)⟩
theorem tpi_range2 {a b : Expr} {ms : Gam → Out (List Ar)} {p pos : Pos} (hg : Gl X "range") (hm : X.mg "range" = none) (ha : PA X [a, b] (tA G W ms)) (hs : starEach [a, b] X.env = [(false, eval a X.env), (false, eval b X.env)]) (hs2 : starEach [b] X.env = [(false, eval b X.env)]) : PI X tg (.Call (.Name "range" p) [a, b] [] pos) (tI G W (mRng2 ms)) :=
  ⟨fun pins s σ H R I h => (pi_range2 hg hm ha hs hs2).run pins s σ H R I (by
    obtain ⟨HF, γ, k, p⟩ := h
    refine ⟨HF, γ, k, post_bind (r1 := rA G) p fun as γ1 vs H1 HF1 k1 s1 r1 p1 => ?_⟩
    split at p1
    · rename_i i j e
      obtain ⟨v, v2, rfl, q, q2⟩ := looks_two k1 r1 e
      cases b : inRg i && inRg j with
      | false => rw [b] at p1; exact p1.elim
      | true =>
        rw [b] at p1
        obtain ⟨b1, b2⟩ := Bool.and_eq_true_iff.mp b
        obtain ⟨l, u⟩ := inRg_ok b1
        obtain ⟨l2, u2⟩ := inRg_ok b2
        exact ⟨i, j, by rw [q.int, q2.int], ⟨l, u, l2, u2⟩, p1 _ H1 HF1 k1 s1 wk_rg⟩
    · exact p1.elim)⟩
def zipD : List D → List D → List D
  | a :: as, b :: bs => .tup [a, b] :: zipD as bs
  | _, _ => []
theorem zipD_length : ∀ (as bs : List D), (zipD as bs).length = min as.length bs.length
  | [], _ => by simp [zipD]
  | _ :: _, [] => by simp [zipD]
  | a :: as, b :: bs => by simp [zipD, zipD_length as bs]
theorem zipD_get : ∀ (as bs : List D) (i : Nat) (x y : D), as[i]? = some x → bs[i]? = some y → (zipD as bs)[i]? = some (.tup [x, y])
  | [], _, i, _, _, h, _ => by rw [List.getElem?_nil] at h; cases h
  | _ :: _, [], i, _, _, _, h => by rw [List.getElem?_nil] at h; cases h
  | a :: as, b :: bs, 0, x, y, h, h2 => by
    simp at h h2
    subst h h2
    rfl
  | a :: as, b :: bs, i + 1, x, y, h, h2 => zipD_get as bs i x y (by simpa using h) (by simpa using h2)
def mZip (ms : Gam → Out (List Ar)) : Gam → Out (List D) := fun γ => (ms γ).bind fun as γ1 => match as with
  | [.d (.tup as), .d (.tup bs)] => .ok (zipD as bs) γ1
  | [.d (.lst as), .d (.lst bs)] => .ok (zipD as bs) γ1
  | _ => .bad
theorem ypair_ok {as bs : List D} {xs ys : List V} {HF2 H : Hp} {i : Nat} {x : V} {H' : Hp} (r1 : RepL G HF2 as xs) (r2 : RepL G HF2 bs ys) (y : YPair (fun i => xs[i]?) (fun i => ys[i]?) i H x H') :
    ∃ d, (zipD as bs)[i]? = some d ∧ Yl G HF2 H d x H' := by
  obtain ⟨T, u, v, e1, e2, e3, e4, e5⟩ := y
  obtain ⟨d1, g1, q1⟩ := r1.get' e4
  obtain ⟨d2, g2, q2⟩ := r2.get' e5
  exact ⟨_, zipD_get as bs i d1 d2 g1 g2, .inr (.inl ⟨T, [u, v], [d1, d2], e1, e2, e3, rfl, .cons q1 (.one q2)⟩)⟩
theorem walk_zipT {K : PySem.W.Frag} {a b : Addr} {xs ys : List V} {n : Nat} (hn : n = min xs.length ys.length) : Walk (RZ.ItzT K a b) n (fun H => SqT K H a xs ∧ SqT K H b ys) (YPair (fun i => xs[i]?) (fun i => ys[i]?)) := by
  subst hn
  refine ⟨fun i _ hi q => ?_, fun _ q => ⟨xs, ys, q.1, q.2, by omega⟩, fun i H v H' _ q y => ?_⟩
  · have h1 : i < xs.length := by omega
    have h2 : i < ys.length := by omega
    exact ⟨xs, ys, xs[i], ys[i], q.1, q.2, by simp [h1], by simp [h2]⟩
  · obtain ⟨T, x, z, h1, h2, h3, h4⟩ := y
    exact ⟨T, x, z, h1, h2, h3, h4.1 xs q.1, h4.2 ys q.2⟩
theorem wk_zipT {as bs : List D} {a b : Addr} {xs ys : List V} (h1 : SqT X.K HF a xs) (h2 : SqT X.K HF b ys) (r1 : RepL G HF as xs) (r2 : RepL G HF bs ys) : Wk G (zipD as bs) (RZ.ItzT X.K a b) HF :=
  wk_of (walk_zipT (K := X.K) (a := a) (b := b) (xs := xs) (ys := ys) rfl) (by rw [zipD_length, r1.length, r2.length]) (fun HF2 H m m2 => ⟨SqT.mono (m.trans m2) h1, SqT.mono (m.trans m2) h2⟩) fun HF2 H i x H' m m2 hi y => ypair_ok (RepL.mono m _ _ r1) (RepL.mono m _ _ r2) y
theorem wk_zipL {as bs : List D} {a b : Addr} {xs ys : List V} (h1 : HF a = some (.lst xs)) (h2 : HF b = some (.lst ys)) (r1 : RepL G HF as xs) (r2 : RepL G HF bs ys) : Wk G (zipD as bs) (Itz X.K a b) HF :=
  wk_of (walk_zip (K := X.K) (a := a) (b := b) (xs := xs) (ys := ys) rfl) (by rw [zipD_length, r1.length, r2.length]) (fun HF2 H m m2 => ⟨SqL.of (m2 _ _ (m _ _ h1)), SqL.of (m2 _ _ (m _ _ h2))⟩) fun HF2 H i x H' m m2 hi y => ypair_ok (RepL.mono m _ _ r1) (RepL.mono m _ _ r2) y
theorem ars_two {as : List Ar} {d d2 : D} {vs : List V} (r : ArsOk G σ HF [.d d, .d d2] vs) : ∃ v v2, vs = [v, v2] ∧ Rep G HF d v ∧ Rep G HF d2 v2 := by
  cases r with
  | cons a b =>
    cases b with
    | cons a2 b => cases b; exact ⟨_, _, rfl, a, a2⟩
theorem tpi_zip {e e2 : Expr} {ms : Gam → Out (List Ar)} {p pos tpos : Pos} {elts : List Expr} {kk : Nat} (hK : G.K = X.K) (hg : Gl X "zip") (hm : X.mg "zip" = none) (ha : PA X [e, e2] (tA G W ms))
    (hs : starEach [e, e2] X.env = (false, eval e X.env) :: starEach [e2] X.env) (hpl : (backTo pos (starEach [e2] X.env)).any (·.1) = false) : PI X (.Tuple elts kk tpos) (.Call (.Name "zip" p) [e, e2] [] pos) (tI G W (mZip ms)) :=
  ⟨fun pins s σ H R I h => (RZ.pi_zipA hg hm ha hs hpl).run pins s σ H R I (by
    obtain ⟨HF, γ, k, p⟩ := h
    refine ⟨HF, γ, k, post_bind (r1 := rA G) p fun as γ1 vs H1 HF1 k1 s1 r1 p1 => ?_⟩
    split at p1
    · rename_i as bs
      obtain ⟨v, v2, rfl, q, q2⟩ := ars_two (as := []) r1
      unfold Rep at q q2
      obtain ⟨a, xs, rfl, h1, l1⟩ := q
      obtain ⟨b, ys, rfl, h2, l2⟩ := q2
      have h1 := SqT.of (K := X.K) h1; have h2 := SqT.of (K := X.K) h2
      exact ⟨a, b, xs, ys, rfl, .inr ⟨SqT.mono k1.sub h1, SqT.mono k1.sub h2, p1 _ H1 HF1 k1 s1 (wk_zipT h1 h2 l1 l2)⟩⟩
    · rename_i as bs
      obtain ⟨v, v2, rfl, q, q2⟩ := ars_two (as := []) r1
      unfold Rep at q q2
      obtain ⟨a, xs, rfl, h1, l1⟩ := q
      obtain ⟨b, ys, rfl, h2, l2⟩ := q2
      exact ⟨a, b, xs, ys, rfl, .inl ⟨SqL.of (k1.sub _ _ h1), SqL.of (k1.sub _ _ h2), p1 _ H1 HF1 k1 s1 (wk_zipL h1 h2 l1 l2)⟩⟩
    · exact p1.elim)⟩
end
end T

-- text T7
set_option Elab.async false
set_option linter.all false
set_option maxRecDepth 100000
set_option maxHeartbeats 4000000
namespace T
open PySem L2
section
variable {X : Cx} {G : Tab} {W : Wt} {σ : L2.St} {H HF HF' : Hp} {γ : Gam} {E : Ends}
/-! displays -/
def dsOf : List Ar → Option (List D)
  | [] => some []
  | .d d :: as => (match dsOf as with
    | some ds => some (d :: ds)
    | none => none)
  | .sl _ :: _ => none
theorem dsOf_rep : ∀ {as : List Ar} {vs : List V} {ds : List D}, ArsOk G σ HF as vs → dsOf as = some ds → RepL G HF ds vs
  | _, _, _, .nil, e => by cases e; exact .nil
  | .d d :: as, _, ds, .cons r t, e => by
    unfold dsOf at e
    cases q : dsOf as with
    | none => rw [q] at e; cases e
    | some ds' =>
      rw [q] at e
      cases e
      exact .cons r (dsOf_rep t q)
  | .sl _ :: _, _, _, .cons _ _, e => by cases e
def fitN (n : Nat) : Bool := Nat.ble n 16777216
theorem fitN_ok {n : Nat} (h : fitN n = true) : n ≤ sizeLine := by rw [size_line]; exact Nat.le_of_ble_eq_true h
def eTup (ms : Gam → Out (List Ar)) : Gam → Out R := fun γ => (ms γ).bind fun as γ1 => match dsOf as with
  | some ds => (match fitN ds.length with
    | true => .ok (.fz (.tup ds)) γ1
    | false => .bad)
  | none => .bad
def eLst (ms : Gam → Out (List Ar)) : Gam → Out R := fun γ => (ms γ).bind fun as γ1 => match dsOf as with
  | some ds => (match fitN ds.length with
    | true => .ok (.own (.lst ds)) γ1
    | false => .bad)
  | none => .bad
theorem te_tup {ms : Gam → Out (List Ar)} {Q : VK} (h : tE G W (eTup ms) σ H Q) : tTup (tA G W ms) σ H Q := by
  obtain ⟨HF, γ, k, p⟩ := h
  refine ⟨HF, γ, k, post_bind (r1 := rA G) p fun as γ1 xs H1 HF1 k1 s1 r1 p1 => ?_⟩
  cases e : dsOf as with
  | none => rw [e] at p1; exact p1.elim
  | some ds =>
    rw [e] at p1
    simp only at p1
    cases f : fitN ds.length with
    | false => rw [f] at p1; exact p1.elim
    | true =>
      rw [f] at p1
      have rl := dsOf_rep r1 e
      refine ⟨by rw [rl.length]; exact fitN_ok f, fun q n => ?_⟩
      exact br_fin (br := .newT ds) k1 (post_from later_E s1 p1) ⟨q, xs, rfl, n, rfl, rl⟩
theorem te_lst {ms : Gam → Out (List Ar)} {Q : VK} (h : tE G W (eLst ms) σ H Q) : tLst (tA G W ms) σ H Q := by
  obtain ⟨HF, γ, k, p⟩ := h
  refine ⟨HF, γ, k, post_bind (r1 := rA G) p fun as γ1 xs H1 HF1 k1 s1 r1 p1 => ?_⟩
  cases e : dsOf as with
  | none => rw [e] at p1; exact p1.elim
  | some ds =>
    rw [e] at p1
    simp only at p1
    cases f : fitN ds.length with
    | false => rw [f] at p1; exact p1.elim
    | true =>
      rw [f] at p1
      have rl := dsOf_rep r1 e
      refine ⟨by rw [rl.length]; exact fitN_ok f, fun q n => ?_⟩
      exact br_fin (br := .newL ds) k1 (post_from later_E s1 p1) ⟨q, xs, rfl, n, rfl, rl⟩
theorem tpe_tup {es : List Expr} {x1 : Nat} {pos : Pos} {ms : Gam → Out (List Ar)} (h : PA X es (tA G W ms)) : PE X (.Tuple es x1 pos) (tE G W (eTup ms)) := ⟨fun pins s σ H Q I hw => (pe_tup h).run pins s σ H Q I (te_tup hw)⟩
theorem tpe_lst {es : List Expr} {pos : Pos} {ms : Gam → Out (List Ar)} (h : PA X es (tA G W ms)) : PE X (.List es pos) (tE G W (eLst ms)) := ⟨fun pins s σ H Q I hw => (pe_lst h).run pins s σ H Q I (te_lst hw)⟩
/-- *e, .. -/
def aStar (m : Gam → Out Ar) (ms : Gam → Out (List Ar)) : Gam → Out (List Ar) := fun γ => (m γ).bind fun a γ1 => match a with
  | .d (.tup ds) => (ms γ1).bind fun as γ2 => .ok (ds.map Ar.d ++ as) γ2
  | .d (.lst ds) => (ms γ1).bind fun as γ2 => .ok (ds.map Ar.d ++ as) γ2
  | _ => .bad
theorem arsOk_map : ∀ {ds : List D} {xs : List V} {as : List Ar} {vs : List V}, RepL G HF ds xs → ArsOk G σ HF as vs → ArsOk G σ HF (ds.map Ar.d ++ as) (xs ++ vs)
  | [], xs, as, vs, h, t => by unfold RepL at h; subst h; exact t
  | d :: ds, xs, as, vs, h, t => by
    unfold RepL at h
    obtain ⟨v, ws, rfl, r, q⟩ := h
    exact .cons r (arsOk_map q t)
theorem ta_star (hK : G.K = X.K) {m : Gam → Out Ar} {ms : Gam → Out (List Ar)} {Q : List V → Hp → Prop} (h : tA G W (aStar m ms) σ H Q) : StX.tStar X.K (tO G W m) (tA G W ms) σ H Q := by
  obtain ⟨HF, γ, k, p⟩ := h
  refine ⟨HF, γ, k, post_bind (r1 := rO G) p fun a γ1 x H1 HF1 k1 s1 r1 p1 => ?_⟩
  split at p1
  · rename_i ds
    have r2 : Rep G HF1 (.tup ds) x := r1
    unfold Rep at r2
    obtain ⟨b, xs, rfl, h1, l1⟩ := r2
    have h1 := SqT.of (K := X.K) h1
    refine ⟨b, xs, rfl, .inl (SqT.mono k1.sub h1), HF1, γ1, k1, post_bind (r1 := rA G) (post_from later_A s1 p1) fun as γ2 vs H2 HF2 k2 s2 r2 p2 => ?_⟩
    exact p2 (xs ++ vs) H2 HF2 k2 s2 (arsOk_map (RepL.mono s2.mono _ _ l1) r2)
  · rename_i ds
    have r2 : Rep G HF1 (.lst ds) x := r1
    unfold Rep at r2
    obtain ⟨b, xs, rfl, h1, l1⟩ := r2
    refine ⟨b, xs, rfl, .inr (SqL.of (k1.sub _ _ h1)), HF1, γ1, k1, post_bind (r1 := rA G) (post_from later_A s1 p1) fun as γ2 vs H2 HF2 k2 s2 r2 p2 => ?_⟩
    exact p2 (xs ++ vs) H2 HF2 k2 s2 (arsOk_map (RepL.mono s2.mono _ _ l1) r2)
  · exact p1.elim
theorem tpa_star {e : Expr} {es : List Expr} {p : Pos} {m : Gam → Out Ar} {ms : Gam → Out (List Ar)} (hK : G.K = X.K) (he : PE X e (tO G W m)) (hr : PA X es (tA G W ms)) (hs : starEach (.Starred e p :: es) X.env = (true, eval e X.env) :: starEach es X.env) :
    PA X (.Starred e p :: es) (tA G W (aStar m ms)) := ⟨fun pos pins s σ H Q I h => (StX.pa_star he hr hs).run pos pins s σ H Q I (ta_star hK h)⟩

/-! subscripts -/
def seqAt (ds : List D) (i : Int) : Option BR := match atI ds i with
  | some d => some (.val d)
  | none => none
def fIx : D → D → Option BR
  | .lst ds, .int i => seqAt ds i
  | .tup ds, .int i => seqAt ds i
  | .frz ds, .int i => seqAt ds i
  | _, _ => none
theorem repL_atI {ds : List D} {xs : List V} {i : Int} {d : D} (r : RepL G HF ds xs) (h : atI ds i = some d) : ∃ v, atI xs i = some v ∧ Rep G HF d v := by
  unfold atI at h ⊢
  rw [r.length]
  cases e : ixN ds.length i with
  | none => rw [e] at h; cases h
  | some j =>
    rw [e] at h
    exact r.get h
theorem ok_ix (hK : G.K = X.K) : OpOk G (rIx X.K) fIx := by
  intro H HF x y d1 d2 br Q sub p1 p2 e h
  have go : ∀ (ds : List D) (i : Int), seqAt ds i = some br → ∀ xs, RepL G HF ds xs → ∃ v, atI xs i = some v ∧ Q v H := fun ds i e xs r => by
    unfold seqAt at e
    cases q : atI ds i with
    | none => rw [q] at e; cases e
    | some d =>
      rw [q] at e
      cases e
      obtain ⟨v, a, b⟩ := repL_atI r q
      exact ⟨v, a, h v H ⟨rfl, b⟩⟩
  unfold fIx at e
  split at e
  · rename_i ds i
    obtain ⟨a, xs, rfl, h1, r⟩ := p1.lst sub
    obtain ⟨v, a1, q⟩ := go ds i e xs r
    exact .inl ⟨a, xs, i, v, rfl, p2.int, SqL.of h1, a1, q⟩
  · rename_i ds i
    obtain ⟨a, xs, rfl, h1, r⟩ := p1.tup sub
    obtain ⟨v, a1, q⟩ := go ds i e xs r
    rw [hK] at h1
    exact .inr (.inl ⟨a, xs, i, v, rfl, p2.int, h1, a1, q⟩)
  · rename_i ds i
    obtain ⟨a, xs, rfl, h1, r⟩ := p1.frz sub
    obtain ⟨v, a1, q⟩ := go ds i e xs r
    rw [hK] at h1
    exact .inl ⟨a, xs, i, v, rfl, p2.int, h1, a1, q⟩
  · cases e
theorem tpe_ix {a b : Expr} {pos : Pos} {ma mb : Gam → Out Ar} (hK : G.K = X.K) (ha : PE X a (tO G W ma)) (hb : PE X b (tO G W mb)) (hs : PlainIx b) : PE X (.Subscript a b pos) (tE G W (eOp fIx ma mb)) :=
  ⟨fun pins s σ H Q I h => (pe_ix ix_seq ha hb hs).run pins s σ H Q I (te_op (ok_ix hK) h)⟩

/-! slices -/
def mPart : RelK (Option Int) (Option Int) := fun _ _ _ _ _ _ a b => a = b
theorem later_P : Later mPart := ⟨fun _ h => h⟩
abbrev tP (G : Tab) (W : Wt) (m : Gam → Out (Option Int)) : TO := tM mPart G W m
def pNone : Gam → Out (Option Int) := fun γ => .ok none γ
def pSome (m : Gam → Out Ar) : Gam → Out (Option Int) := fun γ => (m γ).bind fun a γ1 => match look γ1 a with
  | some (.int i) => .ok (some i) γ1
  | _ => .bad
theorem tpo_none : PO X none (tP G W pNone) := ⟨fun pins s σ H Q I h => po_none.run pins s σ H Q I (by
  obtain ⟨HF, γ, k, p⟩ := h
  exact p none H HF k .refl rfl)⟩
theorem tpo_some {e : Expr} {m : Gam → Out Ar} (he : PE X e (tO G W m)) : PO X (some e) (tP G W (pSome m)) := ⟨fun pins s σ H Q I h => (po_some he).run pins s σ H Q I (by
  obtain ⟨HF, γ, k, p⟩ := h
  refine ⟨HF, γ, k, post_bind (r1 := rO G) p fun a γ1 x H1 HF1 k1 s1 r1 p1 => ?_⟩
  split at p1
  · rename_i i e
    exact ⟨i, (look_pk k1 r1 e).int, p1 (some i) H1 HF1 k1 s1 rfl⟩
  · exact p1.elim)⟩
def cutD (ds : List D) (lo hi : Option Int) : List D := (ds.drop (HT.sIx ds.length 0 lo)).take (HT.sIx ds.length ds.length hi - HT.sIx ds.length 0 lo)
theorem RepL.drop : ∀ {ds : List D} {xs : List V} (n : Nat), RepL G HF ds xs → RepL G HF (ds.drop n) (xs.drop n)
  | _, _, 0, h => h
  | [], xs, n + 1, h => by unfold RepL at h; subst h; exact .nil
  | d :: ds, xs, n + 1, h => by
    unfold RepL at h
    obtain ⟨v, vs, rfl, _, q⟩ := h
    exact RepL.drop n q
theorem RepL.take : ∀ {ds : List D} {xs : List V} (n : Nat), RepL G HF ds xs → RepL G HF (ds.take n) (xs.take n)
  | ds, xs, 0, h => by rw [List.take_zero, List.take_zero]; exact .nil
  | [], xs, n + 1, h => by unfold RepL at h; subst h; exact .nil
  | d :: ds, xs, n + 1, h => by
    unfold RepL at h
    obtain ⟨v, vs, rfl, r, q⟩ := h
    exact .cons r (RepL.take n q)
theorem cut_rep {ds : List D} {xs : List V} {lo hi : Option Int} (r : RepL G HF ds xs) : RepL G HF (cutD ds lo hi) (cutV xs lo hi) := by
  unfold cutD cutV
  rw [r.length]
  exact RepL.take _ (RepL.drop _ r)
def fSl : D → Option Int → Option Int → Option BR
  | .tup ds, lo, hi => (match HT.sIx ds.length 0 lo == 0 && HT.sIx ds.length ds.length hi == ds.length with
    | true => some (.val (.tup ds))
    | false => some (.newT (cutD ds lo hi)))
  | .lst ds, lo, hi => some (.newL (cutD ds lo hi))
  | _, _, _ => none
def eSl (m : Gam → Out Ar) (pl ph : Gam → Out (Option Int)) : Gam → Out R := fun γ => (m γ).bind fun a γ1 => (pl γ1).bind fun lo γ2 => (ph γ2).bind fun hi γ3 => match look γ3 a with
  | some d => ofB (fSl d lo hi) γ3
  | none => .bad
def rSlAny (K : PySem.W.Frag) : V → Option Int → Option Int → Hp → VK → Prop := fun x lo hi H Q => rSlA K x lo hi H Q ∨ rSlL K x lo hi H Q
theorem te_sl (hK : G.K = X.K) {m : Gam → Out Ar} {pl ph : Gam → Out (Option Int)} {Q : VK} (h : tE G W (eSl m pl ph) σ H Q) : tSl (rSlAny X.K) (tO G W m) (tP G W pl) (tP G W ph) σ H Q := by
  obtain ⟨HF, γ, k, p⟩ := h
  refine ⟨HF, γ, k, post_bind (r1 := rO G) p fun a γ1 x H1 HF1 k1 s1 r1 p1 => ?_⟩
  refine ⟨HF1, γ1, k1, post_bind (r1 := mPart) (post_from later_E s1 p1) fun lo γ2 lo' H2 HF2 k2 s2 e2 p2 => ?_⟩
  cases e2
  refine ⟨HF2, γ2, k2, post_bind (r1 := mPart) (post_from later_E s2 p2) fun hi γ3 hi' H3 HF3 k3 s3 e3 p3 => ?_⟩
  cases e3
  have p4 := post_from later_E s3 p3
  cases e : look γ3 a with
  | none => rw [e] at p4; exact p4.elim
  | some d =>
    rw [e] at p4
    have pk := look_pk k3 (ArOk.mono (s2.mono.trans s3.mono) r1) e
    have p5 : post (rE G) G W σ γ3 H3 HF3 Q (ofB (fSl d lo hi) γ3) := p4
    cases d with
    | tup ds =>
      obtain ⟨b, xs, rfl, h1, r⟩ := pk.tup k3.sub
      rw [hK] at h1
      have hl := r.length
      refine .inl ⟨b, xs, rfl, h1, fun w => ?_, fun w q n => ?_⟩
      · have e1 : (HT.sIx ds.length 0 lo == 0 && HT.sIx ds.length ds.length hi == ds.length) = true := by
          rw [hl] at w
          simp [w.1, w.2]
        simp only [fSl, e1] at p5
        exact br_fin (br := .val (.tup ds)) k3 p5 ⟨rfl, pk.tupF⟩
      · have e1 : (HT.sIx ds.length 0 lo == 0 && HT.sIx ds.length ds.length hi == ds.length) = false := by
          rw [hl] at w
          cases z : (HT.sIx ds.length 0 lo == 0 && HT.sIx ds.length ds.length hi == ds.length) with
          | false => rfl
          | true =>
            simp only [Bool.and_eq_true, beq_iff_eq] at z
            exact absurd z w
        simp only [fSl, e1] at p5
        exact br_fin (br := .newT (cutD ds lo hi)) k3 p5 ⟨q, _, rfl, n, rfl, cut_rep r⟩
    | lst ds =>
      obtain ⟨b, xs, rfl, h1, r⟩ := pk.lst k3.sub
      exact .inr ⟨b, xs, rfl, SqL.of h1, fun q n => br_fin (br := .newL (cutD ds lo hi)) k3 p5 ⟨q, _, rfl, n, rfl, cut_rep r⟩⟩
    | _ => exact p5.elim
theorem tpe_slice {e : Expr} {lo hi : Option Expr} {p2 pos : Pos} {m : Gam → Out Ar} {pl ph : Gam → Out (Option Int)} (hK : G.K = X.K) (he : PE X e (tO G W m)) (hl : PO X lo (tP G W pl)) (hu : PO X hi (tP G W ph)) : PE X (.Subscript e (.Slice lo hi none p2) pos) (tE G W (eSl m pl ph)) :=
  ⟨fun pins s σ H Q I h => (pe_slice (SlR.or sl_tupA sl_list) he hl hu).run pins s σ H Q I (te_sl hK h)⟩
end
end T

-- text T8
set_option Elab.async false
set_option linter.all false
set_option maxRecDepth 100000
set_option maxHeartbeats 4000000
namespace T
open PySem L2
/-! == of data -/
mutual
def pyOf : D → PyData
  | .non => .none
  | .bl b => .bool b
  | .int i => .int i
  | .str x => .str x
  | .tup ds => .tuple (pyOfL ds)
  | .lst ds => .list (pyOfL ds)
  | _ => .dict []
def pyOfL : List D → List PyData
  | [] => []
  | d :: ds => pyOf d :: pyOfL ds
end
mutual
def shD : Nat → D → Bool
  | _, .non => true
  | _, .bl _ => true
  | _, .int _ => true
  | _, .str x => x.cps.all (· < 0x110000)
  | n, .tup ds => (match n with
    | 0 => false
    | n + 1 => shL n ds)
  | n, .lst ds => (match n with
    | 0 => false
    | n + 1 => shL n ds)
  | _, _ => false
def shL : Nat → List D → Bool
  | _, [] => true
  | n, d :: ds => shD n d && shL n ds
end
mutual
def eqd : D → D → Bool
  | .non, .non => true
  | .bl a, .bl b => a == b
  | .bl a, .int j => (if a then 1 else 0) == j
  | .int i, .bl b => i == (if b then 1 else 0)
  | .int i, .int j => i == j
  | .str x, .str y => x == y
  | .lst xs, .lst ys => eqdL xs ys
  | .tup xs, .tup ys => eqdL xs ys
  | _, _ => false
def eqdL : List D → List D → Bool
  | [], [] => true
  | x :: xs, y :: ys => eqd x y && eqdL xs ys
  | _, _ => false
end
mutual
theorem sh_ok : ∀ (n : Nat) (d : D), shD n d = true → (pyOf d).canLay0 = true ∧ (pyOf d).depth ≤ n
  | n, .non, _ => by simp [pyOf, PyData.canLay0, PyData.depth]
  | n, .bl _, _ => by simp [pyOf, PyData.canLay0, PyData.depth]
  | n, .int _, _ => by simp [pyOf, PyData.canLay0, PyData.depth]
  | n, .str x, h => by
    unfold shD at h
    refine ⟨?_, by simp [pyOf, PyData.depth]⟩
    unfold pyOf PyData.canLay0
    exact h
  | 0, .tup ds, h => by simp [shD] at h
  | n + 1, .tup ds, h => by
    unfold shD at h
    obtain ⟨a, b⟩ := shL_ok n ds h
    unfold pyOf PyData.canLay0 PyData.depth
    exact ⟨a, Nat.succ_le_succ b⟩
  | 0, .lst ds, h => by simp [shD] at h
  | n + 1, .lst ds, h => by
    unfold shD at h
    obtain ⟨a, b⟩ := shL_ok n ds h
    unfold pyOf PyData.canLay0 PyData.depth
    exact ⟨a, Nat.succ_le_succ b⟩
  | n, .dct _ _ _, h => by simp [shD] at h
  | n, .obj _ _, h => by simp [shD] at h
  | n, .ty _, h => by simp [shD] at h
  | n, .fn _, h => by simp [shD] at h
  | n, .frz _, h => by simp [shD] at h
theorem shL_ok : ∀ (n : Nat) (ds : List D), shL n ds = true → PyData.canLayAll0 (pyOfL ds) = true ∧ PyData.depthAll (pyOfL ds) ≤ n
  | n, [], _ => by simp [pyOfL, PyData.canLayAll0, PyData.depthAll]
  | n, d :: ds, h => by
    unfold shL at h
    obtain ⟨h1, h2⟩ := Bool.and_eq_true_iff.mp h
    obtain ⟨a, b⟩ := sh_ok n d h1
    obtain ⟨a2, b2⟩ := shL_ok n ds h2
    unfold pyOfL PyData.canLayAll0 PyData.depthAll
    exact ⟨by rw [a, a2]; rfl, Nat.max_le.mpr ⟨b, b2⟩⟩
end
mutual
theorem eqd_ok : ∀ (n m : Nat) (a b : D), shD n a = true → shD m b = true → PyData.eqv (pyOf a) (pyOf b) = eqd a b
  | n, m, a, b, h1, h2 => by
    cases a <;> first | (exfalso; simp [shD] at h1; done) | skip
    all_goals cases b <;> first | (exfalso; simp [shD] at h2; done) | skip
    all_goals first
      | (simp only [pyOf, PyData.eqv, eqd]; done)
      | skip
    · rename_i xs ys
      cases n with
      | zero => simp [shD] at h1
      | succ n =>
        cases m with
        | zero => simp [shD] at h2
        | succ m =>
          simp only [pyOf, PyData.eqv, eqd]
          exact eqdL_ok n m xs ys (by simpa [shD] using h1) (by simpa [shD] using h2)
    · rename_i xs ys
      cases n with
      | zero => simp [shD] at h1
      | succ n =>
        cases m with
        | zero => simp [shD] at h2
        | succ m =>
          simp only [pyOf, PyData.eqv, eqd]
          exact eqdL_ok n m xs ys (by simpa [shD] using h1) (by simpa [shD] using h2)
theorem eqdL_ok : ∀ (n m : Nat) (a b : List D), shL n a = true → shL m b = true → PyData.eqvAll (pyOfL a) (pyOfL b) = eqdL a b
  | n, m, [], [], _, _ => by simp [pyOfL, PyData.eqvAll, eqdL]
  | n, m, [], y :: ys, _, _ => by simp [pyOfL, PyData.eqvAll, eqdL]
  | n, m, x :: xs, [], _, _ => by simp [pyOfL, PyData.eqvAll, eqdL]
  | n, m, x :: xs, y :: ys, h1, h2 => by
    unfold shL at h1 h2
    obtain ⟨a1, a2⟩ := Bool.and_eq_true_iff.mp h1
    obtain ⟨b1, b2⟩ := Bool.and_eq_true_iff.mp h2
    simp only [pyOfL, PyData.eqvAll, eqdL]
    rw [eqd_ok n m x y a1 b1, eqdL_ok n m xs ys a2 b2]
end
section
variable {X : Cx} {G : Tab} {H HF : Hp}
mutual
theorem rep_dp (hK : G.K = X.K) (s : Sub HF H) : ∀ (n : Nat) (d : D) (v : V), shD n d = true → Rep G HF d v → Dp X.K H v (pyOf d)
  | n, .non, v, _, r => by unfold Rep at r; subst r; exact .non
  | n, .bl b, v, _, r => by unfold Rep at r; subst r; exact .bl b
  | n, .int i, v, _, r => by unfold Rep at r; subst r; exact .int i
  | n, .str x, v, _, r => by unfold Rep at r; subst r; exact .str x
  | 0, .tup ds, v, h, _ => by simp [shD] at h
  | n + 1, .tup ds, v, h, r => by
    unfold Rep at r
    obtain ⟨a, xs, rfl, q, l⟩ := r
    unfold pyOf
    have q := SqT.of (K := X.K) q
    exact .tup (SqT.mono s q) (repL_dp hK s n ds xs (by simpa [shD] using h) l)
  | 0, .lst ds, v, h, _ => by simp [shD] at h
  | n + 1, .lst ds, v, h, r => by
    unfold Rep at r
    obtain ⟨a, xs, rfl, q, l⟩ := r
    unfold pyOf
    exact .lst (SqL.of (s _ _ q)) (repL_dp hK s n ds xs (by simpa [shD] using h) l)
  | n, .dct _ _ _, _, h, _ => by simp [shD] at h
  | n, .obj _ _, _, h, _ => by simp [shD] at h
  | n, .ty _, _, h, _ => by simp [shD] at h
  | n, .fn _, _, h, _ => by simp [shD] at h
  | n, .frz _, _, h, _ => by simp [shD] at h
theorem repL_dp (hK : G.K = X.K) (s : Sub HF H) : ∀ (n : Nat) (ds : List D) (xs : List V), shL n ds = true → RepL G HF ds xs → DpAll X.K H xs (pyOfL ds)
  | n, [], xs, _, r => by unfold RepL at r; subst r; exact .nil
  | n, d :: ds, xs, h, r => by
    unfold RepL at r
    obtain ⟨v, vs, rfl, r1, r2⟩ := r
    unfold shL at h
    obtain ⟨h1, h2⟩ := Bool.and_eq_true_iff.mp h
    unfold pyOfL
    exact .cons (rep_dp hK s n d v h1 r1) (repL_dp hK s n ds vs h2 r2)
end
theorem pk_dp (hK : G.K = X.K) (s : Sub HF H) {n : Nat} {d : D} {v : V} (h : shD (n + 1) d = true) (p : Pk G HF H d v) : Dp X.K H v (pyOf d) := by
  rcases p with r | ⟨a, rfl, o⟩
  · exact rep_dp hK s _ d v h r
  · cases d with
    | lst ds =>
      obtain ⟨xs, e, _, l⟩ := o
      unfold pyOf
      exact .lst (SqL.of e) (repL_dp hK s n ds xs (by simpa [shD] using h) l)
    | dct t ks ds => simp [shD] at h
    | obj c ds => simp [shD] at h
    | _ => exact o.elim
theorem shaped_of {n : Nat} {d : D} (h : shD n d = true) (hn : n ≤ 64) : SeqAt.shaped (pyOf d) = true := by
  obtain ⟨a, b⟩ := sh_ok n d h
  unfold SeqAt.shaped
  rw [a]
  simpa using Nat.le_trans b hn
def fEq (neg : Bool) (a b : D) : Option BR := match shD 12 a && shD 12 b with
  | true => some (.val (.bl (if neg = true then !eqd a b else eqd a b)))
  | false => none
theorem bres_bl {b : Bool} {v : V} : BRes G HF H (.val (.bl b)) (.bl b) H := ⟨rfl, by unfold Rep; rfl⟩
theorem bres_int {i : Int} : BRes G HF H (.val (.int i)) (.int i) H := ⟨rfl, by unfold Rep; rfl⟩
theorem bres_bl' {b : Bool} : BRes G HF H (.val (.bl b)) (.bl b) H := ⟨rfl, by unfold Rep; rfl⟩
theorem ok_eq (hK : G.K = X.K) : OpOk G (rEqD X.K) (fEq false) := by
  intro H HF x y d1 d2 br Q sub p1 p2 e h
  unfold fEq at e
  split at e
  · rename_i z
    obtain ⟨z1, z2⟩ := Bool.and_eq_true_iff.mp z
    cases e
    refine ⟨pyOf d1, pyOf d2, pk_dp hK sub z1 p1, pk_dp hK sub z2 p2, shaped_of z1 (by decide), shaped_of z2 (by decide), ?_⟩
    rw [eqd_ok 12 12 d1 d2 z1 z2]
    exact h _ H bres_bl'
  · cases e
theorem ok_ne (hK : G.K = X.K) : OpOk G (rNeD X.K) (fEq true) := by
  intro H HF x y d1 d2 br Q sub p1 p2 e h
  unfold fEq at e
  split at e
  · rename_i z
    obtain ⟨z1, z2⟩ := Bool.and_eq_true_iff.mp z
    cases e
    refine ⟨pyOf d1, pyOf d2, pk_dp hK sub z1 p1, pk_dp hK sub z2 p2, shaped_of z1 (by decide), shaped_of z2 (by decide), ?_⟩
    rw [eqd_ok 12 12 d1 d2 z1 z2]
    exact h _ H bres_bl'
  · cases e
/-! ints -/
def fI (g : Int → Int → D) : D → D → Option BR
  | .int i, .int j => some (.val (g i j))
  | _, _ => none
theorem ok_int0 {g : Int → Int → V} {g' : Int → Int → D} (hg : ∀ i j, flatD (g' i j) = some (g i j)) : OpOk G (L2.rI0 g) (fI g') := by
  intro H HF x y d1 d2 br Q sub p1 p2 e h
  unfold fI at e
  split at e
  · rename_i i j
    cases e
    exact ⟨i, j, p1.int, p2.int, h _ H ⟨rfl, flat_rep (hg i j)⟩⟩
  · cases e
def fIc (c : Int → Int → Bool) (g : Int → Int → D) : D → D → Option BR
  | .int i, .int j => (match c i j with
    | true => some (.val (g i j))
    | false => none)
  | _, _ => none
theorem ok_intC {C : Int → Int → Prop} {c : Int → Int → Bool} {g : Int → Int → V} {g' : Int → Int → D} (hc : ∀ i j, c i j = true → C i j) (hg : ∀ i j, flatD (g' i j) = some (g i j)) : OpOk G (L2.rI C g) (fIc c g') := by
  intro H HF x y d1 d2 br Q sub p1 p2 e h
  unfold fIc at e
  split at e
  · rename_i i j
    cases q : c i j with
    | false => rw [q] at e; cases e
    | true =>
      rw [q] at e
      cases e
      exact ⟨i, j, p1.int, p2.int, hc i j q, h _ H ⟨rfl, flat_rep (hg i j)⟩⟩
  · cases e
end
end T

-- text T9
set_option Elab.async false
set_option linter.all false
set_option maxRecDepth 100000
set_option maxHeartbeats 4000000
namespace T
open PySem L2
section
variable {X : Cx} {G : Tab} {H HF : Hp}
theorem repL_inj_len {ds : List D} {xs : List V} (r : RepL G HF ds xs) : ds = [] ↔ xs = [] := by
  have := r.length
  constructor
  · rintro rfl; exact List.length_eq_zero_iff.mp (by simpa using this)
  · rintro rfl; exact List.length_eq_zero_iff.mp (by simpa using this.symm)
/-! + -/
def nilD : List D → Bool
  | [] => true
  | _ => false
def fAdd : D → D → Option BR
  | .int i, .int j => some (.val (.int (i + j)))
  | .tup as, .tup bs => (match fitN (as.length + bs.length) with
    | true => (match nilD as with
      | true => some (.val (.tup bs))
      | false => (match nilD bs with
        | true => some (.val (.tup as))
        | false => some (.newT (as ++ bs))))
    | false => none)
  | .lst as, .lst bs => (match fitN (as.length + bs.length) with
    | true => some (.newL (as ++ bs))
    | false => none)
  | _, _ => none
theorem nilD_true {ds : List D} (h : nilD ds = true) : ds = [] := by cases ds with
  | nil => rfl
  | cons _ _ => cases h
theorem nilD_false {ds : List D} (h : nilD ds = false) : ds ≠ [] := by rintro rfl; cases h
def rAddA (K : PySem.W.Frag) : R2 := fun x y H Q => L2.rI0 (fun i j => .int (i + j)) x y H Q ∨ (rCatA K x y H Q ∨ rCat x y H Q)
theorem op_addA : OpR X (binaryOp .Add) (rAddA X.K) := op_add.or (op_catA.or op_cat)
theorem ok_add (hK : G.K = X.K) : OpOk G (rAddA X.K) fAdd := by
  intro H HF x y d1 d2 br Q sub p1 p2 e h
  unfold fAdd at e
  split at e
  · rename_i i j
    cases e
    exact .inl ⟨i, j, p1.int, p2.int, h _ H bres_int⟩
  · rename_i as bs
    obtain ⟨a, xs, rfl, h1, r1⟩ := p1.tup sub
    obtain ⟨b, ys, rfl, h2, r2⟩ := p2.tup sub
    rw [hK] at h1 h2
    cases f : fitN (as.length + bs.length) with
    | false => rw [f] at e; cases e
    | true =>
      rw [f] at e
      simp only at e
      have hz : xs.length + ys.length ≤ sizeLine := by rw [r1.length, r2.length]; exact fitN_ok f
      cases na : nilD as with
      | true =>
        simp only [na] at e
        cases e
        have e1 : xs = [] := (repL_inj_len r1).mp (nilD_true na)
        exact .inr (.inl ⟨a, b, xs, ys, rfl, rfl, h1, h2, hz, fun _ => h _ H ⟨rfl, p2.tupF⟩, fun n => absurd e1 n, fun n => absurd e1 n⟩)
      | false =>
        simp only [na] at e
        have e1 : xs ≠ [] := fun z => nilD_false na ((repL_inj_len r1).mpr z)
        cases nb : nilD bs with
        | true =>
          simp only [nb] at e
          cases e
          have e2 : ys = [] := (repL_inj_len r2).mp (nilD_true nb)
          exact .inr (.inl ⟨a, b, xs, ys, rfl, rfl, h1, h2, hz, fun n => absurd n e1, fun _ _ => h _ H ⟨rfl, p1.tupF⟩, fun _ n => absurd e2 n⟩)
        | false =>
          simp only [nb] at e
          cases e
          have e2 : ys ≠ [] := fun z => nilD_false nb ((repL_inj_len r2).mpr z)
          exact .inr (.inl ⟨a, b, xs, ys, rfl, rfl, h1, h2, hz, fun n => absurd n e1, fun _ n => absurd n e2, fun _ _ p n => h _ _ ⟨p, _, rfl, n, rfl, RepL.append r1 r2⟩⟩)
  · rename_i as bs
    obtain ⟨a, xs, rfl, h1, r1⟩ := p1.lst sub
    obtain ⟨b, ys, rfl, h2, r2⟩ := p2.lst sub
    cases f : fitN (as.length + bs.length) with
    | false => rw [f] at e; cases e
    | true =>
      rw [f] at e
      cases e
      exact .inr (.inr ⟨a, b, xs, ys, rfl, rfl, h1, h2, by rw [r1.length, r2.length]; exact fitN_ok f, fun p n => h _ _ ⟨p, _, rfl, n, rfl, RepL.append r1 r2⟩⟩)
  · cases e
/-! the other operators of ints -/
def fSub := fI fun i j => .int (i - j)
theorem ok_sub : OpOk G (L2.rI0 fun i j => .int (i - j)) fSub := ok_int0 fun _ _ => rfl
def cMul (i j : Int) : Bool := Nat.blt (i.natAbs.log2 + j.natAbs.log2) 1000000
def fMul := fIc cMul fun i j => .int (i * j)
theorem blt_of {a b : Nat} (h : Nat.blt a b = true) : a < b := by simpa [Nat.blt_eq] using h
theorem ok_mul : OpOk G (L2.rI CMulW fun i j => .int (i * j)) fMul := ok_intC (fun i j h => blt_of h) fun _ _ => rfl
def cDiv (_ j : Int) : Bool := decide (0 < j) && Nat.blt j.natAbs.log2 9000
def fDiv := fIc cDiv fun i j => .int (i / j)
theorem ok_div : OpOk G (L2.rI CDivW fun i j => .int (i / j)) fDiv := ok_intC (fun i j h => by
  obtain ⟨a, b⟩ := Bool.and_eq_true_iff.mp h
  exact ⟨of_decide_eq_true a, blt_of b⟩) fun _ _ => rfl
def cMod (_ j : Int) : Bool := decide (0 < j)
def fMod := fIc cMod fun i j => .int (i % j)
theorem ok_mod : OpOk G (L2.rI (fun _ j => 0 < j) fun i j => .int (i % j)) fMod := ok_intC (fun i j h => of_decide_eq_true h) fun _ _ => rfl
def CPowW (i j : Int) : Prop := 0 ≤ j ∧ (Builtin.Int.intBits i : Int) * j ≤ 2 ^ 27
theorem op_powW : OpR X (binaryOp .Pow) (L2.rI CPowW fun i j => .int (i ^ j.toNat)) := opI fun _ _ _ _ _ _ _ hc q => PyProof.Rows.pow_int hc.1 hc.2 q
def cPow (i j : Int) : Bool := decide (0 ≤ j) && decide ((Builtin.Int.intBits i : Int) * j ≤ 134217728)
def fPow := fIc cPow fun i j => .int (i ^ j.toNat)
theorem ok_pow : OpOk G (L2.rI CPowW fun i j => .int (i ^ j.toNat)) fPow := ok_intC (fun i j h => by
  obtain ⟨a, b⟩ := Bool.and_eq_true_iff.mp h
  exact ⟨of_decide_eq_true a, by have := of_decide_eq_true b; omega⟩) fun _ _ => rfl
def fLt := fI fun i j => .bl (decide (i < j))
def fLe := fI fun i j => .bl (decide (i ≤ j))
def fGt := fI fun i j => .bl (decide (j < i))
def fGe := fI fun i j => .bl (decide (j ≤ i))
theorem ok_lt : OpOk G (L2.rI0 fun i j => .bl (decide (i < j))) fLt := ok_int0 fun _ _ => rfl
theorem ok_le : OpOk G (L2.rI0 fun i j => .bl (decide (i ≤ j))) fLe := ok_int0 fun _ _ => rfl
theorem ok_gt : OpOk G (L2.rI0 fun i j => .bl (decide (j < i))) fGt := ok_int0 fun _ _ => rfl
theorem ok_ge : OpOk G (L2.rI0 fun i j => .bl (decide (j ≤ i))) fGe := ok_int0 fun _ _ => rfl
/-! in, of ints -/
def intsOf : List D → Option (List Int)
  | [] => some []
  | .int i :: ds => (match intsOf ds with
    | some is => some (i :: is)
    | none => none)
  | _ :: _ => none
theorem intsOf_rep : ∀ {ds : List D} {is : List Int} {xs : List V}, intsOf ds = some is → RepL G HF ds xs → xs = is.map V.int
  | [], is, xs, e, r => by cases e; unfold RepL at r; exact r
  | d :: ds, is, xs, e, r => by
    unfold RepL at r
    obtain ⟨v, vs, rfl, r1, r2⟩ := r
    cases d with
    | int i =>
      unfold intsOf at e
      cases q : intsOf ds with
      | none => rw [q] at e; cases e
      | some js =>
        rw [q] at e
        cases e
        unfold Rep at r1
        rw [r1, intsOf_rep q r2]
        rfl
    | _ => cases e
def memI (i : Int) : List Int → Bool
  | [] => false
  | j :: js => (match decide (j = i) with
    | true => true
    | false => memI i js)
def fIn (neg : Bool) : D → D → Option BR
  | .int i, .tup ds => (match intsOf ds with
    | some is => some (.val (.bl (if neg = true then !memI i is else memI i is)))
    | none => none)
  | .int i, .lst ds => (match intsOf ds with
    | some is => some (.val (.bl (if neg = true then !memI i is else memI i is)))
    | none => none)
  | _, _ => none
theorem memI_inV (i : Int) : ∀ is : List Int, inV (.int i) (is.map V.int) = memI i is
  | [] => rfl
  | j :: js => by
    have ih := memI_inV i js
    unfold inV at ih ⊢
    rw [List.map_cons, List.any_cons, ih]
    show ((j == i) || memI i js) = memI i (j :: js)
    rw [memI]
    by_cases h : j = i
    · subst h; simp
    · have e : (j == i) = false := by simpa using h
      rw [e, decide_eq_false h]
      rfl
theorem flat_all : ∀ is : List Int, (is.map V.int).all flatV = true
  | [] => rfl
  | _ :: js => by rw [List.map_cons, List.all_cons, flat_all js]; rfl
theorem ok_in (hK : G.K = X.K) (neg : Bool) : OpOk G (rIn X.K neg) (fIn neg) := by
  intro H HF x y d1 d2 br Q sub p1 p2 e h
  unfold fIn at e
  split at e
  · rename_i i ds
    obtain ⟨a, xs, rfl, h1, r1⟩ := p2.tup sub
    cases q : intsOf ds with
    | none => rw [q] at e; cases e
    | some is =>
      rw [q] at e
      cases e
      have ex := intsOf_rep q r1
      subst ex
      rw [hK] at h1
      refine ⟨a, _, rfl, .inr h1, by rw [p1.int]; rfl, flat_all is, ?_⟩
      rw [p1.int, memI_inV]
      exact h _ H bres_bl'
  · rename_i i ds
    obtain ⟨a, xs, rfl, h1, r1⟩ := p2.lst sub
    cases q : intsOf ds with
    | none => rw [q] at e; cases e
    | some is =>
      rw [q] at e
      cases e
      have ex := intsOf_rep q r1
      subst ex
      refine ⟨a, _, rfl, .inl (SqL.of h1), by rw [p1.int]; rfl, flat_all is, ?_⟩
      rw [p1.int, memI_inV]
      exact h _ H bres_bl'
  · cases e
/-! built-ins -/
theorem pks_one {d : D} {xs : List V} (h : Pks G HF H [d] xs) : ∃ v, xs = [v] ∧ Pk G HF H d v := by
  cases h with
  | cons a b => cases b; exact ⟨_, rfl, a⟩
theorem pks_two {d d2 : D} {xs : List V} (h : Pks G HF H [d, d2] xs) : ∃ v v2, xs = [v, v2] ∧ Pk G HF H d v ∧ Pk G HF H d2 v2 := by
  cases h with
  | cons a b =>
    cases b with
    | cons a2 b => cases b; exact ⟨_, _, rfl, a, a2⟩
def bLen : List D → Option BR
  | [.lst ds] => some (.val (.int ds.length))
  | [.tup ds] => some (.val (.int ds.length))
  | [.frz ds] => some (.val (.int ds.length))
  | _ => none
theorem ok_len (hK : G.K = X.K) : CallOk G (fun xs H Q => ∃ p ys, xs = [.ref p] ∧ (SqL X.K H p ys ∨ SqT X.K H p ys) ∧ Q (.int ys.length) H) bLen := by
  intro H HF xs ds br Q sub p e h
  unfold bLen at e
  split at e
  · obtain ⟨v, rfl, q⟩ := pks_one p
    obtain ⟨a, ys, rfl, h1, r⟩ := q.lst sub
    cases e
    exact ⟨a, ys, rfl, .inl (SqL.of h1), by rw [r.length]; exact h _ H bres_int⟩
  · obtain ⟨v, rfl, q⟩ := pks_one p
    obtain ⟨a, ys, rfl, h1, r⟩ := q.tup sub
    cases e
    rw [hK] at h1
    exact ⟨a, ys, rfl, .inr h1, by rw [r.length]; exact h _ H bres_int⟩
  · obtain ⟨v, rfl, q⟩ := pks_one p
    obtain ⟨a, ys, rfl, h1, r⟩ := q.frz sub
    cases e
    rw [hK] at h1
    exact ⟨a, ys, rfl, .inl h1, by rw [r.length]; exact h _ H bres_int⟩
  · cases e
def boolsOf : List D → Option (List Bool)
  | [] => some []
  | .bl i :: ds => (match boolsOf ds with
    | some is => some (i :: is)
    | none => none)
  | _ :: _ => none
theorem boolsOf_rep : ∀ {ds : List D} {is : List Bool} {xs : List V}, boolsOf ds = some is → RepL G HF ds xs → xs = is.map V.bl
  | [], is, xs, e, r => by cases e; unfold RepL at r; exact r
  | d :: ds, is, xs, e, r => by
    unfold RepL at r
    obtain ⟨v, vs, rfl, r1, r2⟩ := r
    cases d with
    | bl i =>
      unfold boolsOf at e
      cases q : boolsOf ds with
      | none => rw [q] at e; cases e
      | some js =>
        rw [q] at e
        cases e
        unfold Rep at r1
        rw [r1, boolsOf_rep q r2]
        rfl
    | _ => cases e
def bAll : List D → Option BR
  | [.lst ds] => (match boolsOf ds with
    | some bs => some (.val (.bl (bs.all id)))
    | none => none)
  | _ => none
theorem ok_all : CallOk G (rAll X.K) bAll := by
  intro H HF xs ds br Q sub p e h
  unfold bAll at e
  split at e
  · rename_i ds
    obtain ⟨v, rfl, q⟩ := pks_one p
    obtain ⟨a, ys, rfl, h1, r⟩ := q.lst sub
    cases q2 : boolsOf ds with
    | none => rw [q2] at e; cases e
    | some bs =>
      rw [q2] at e
      cases e
      have ex := boolsOf_rep q2 r
      subst ex
      exact ⟨a, bs, rfl, SqL.of h1, h _ H bres_bl'⟩
  · cases e
def bAny : List D → Option BR
  | [.lst ds] => (match boolsOf ds with
    | some bs => some (.val (.bl (bs.any id)))
    | none => none)
  | _ => none
theorem ok_any : CallOk G (rAny X.K) bAny := by
  intro H HF xs ds br Q sub p e h
  unfold bAny at e
  split at e
  · rename_i ds
    obtain ⟨v, rfl, q⟩ := pks_one p
    obtain ⟨a, ys, rfl, h1, r⟩ := q.lst sub
    cases q2 : boolsOf ds with
    | none => rw [q2] at e; cases e
    | some bs =>
      rw [q2] at e
      cases e
      have ex := boolsOf_rep q2 r
      subst ex
      exact ⟨a, bs, rfl, SqL.of h1, h _ H bres_bl'⟩
  · cases e
def bSumL : List D → Option BR
  | [.lst ds] => (match intsOf ds with
    | some is => some (.val (.int is.sum))
    | none => none)
  | _ => none
theorem ok_sumL : CallOk G (rSum X.K) bSumL := by
  intro H HF xs ds br Q sub p e h
  unfold bSumL at e
  split at e
  · rename_i ds
    obtain ⟨v, rfl, q⟩ := pks_one p
    obtain ⟨a, ys, rfl, h1, r⟩ := q.lst sub
    cases q2 : intsOf ds with
    | none => rw [q2] at e; cases e
    | some bs =>
      rw [q2] at e
      cases e
      have ex := intsOf_rep q2 r
      subst ex
      exact ⟨a, bs, rfl, SqL.of h1, h _ H bres_int⟩
  · cases e
def bInt : List D → Option BR
  | [.int i] => some (.val (.int i))
  | [.bl b] => some (.val (.int (if b then 1 else 0)))
  | _ => none
theorem ok_intc : CallOk G (fun xs H Q => (∃ i, xs = [.int i] ∧ Q (.int i) H) ∨ ∃ k, xs = [.bl k] ∧ Q (.int (if k then 1 else 0)) H) bInt := by
  intro H HF xs ds br Q sub p e h
  unfold bInt at e
  split at e
  · obtain ⟨v, rfl, q⟩ := pks_one p
    cases e
    exact .inl ⟨_, by rw [q.int], h _ H bres_int⟩
  · obtain ⟨v, rfl, q⟩ := pks_one p
    cases e
    exact .inr ⟨_, by rw [q.bl], h _ H bres_int⟩
  · cases e
def bAbs : List D → Option BR
  | [.int i] => some (.val (.int (if i < 0 then -i else i)))
  | _ => none
theorem ok_abs : CallOk G (fun xs H Q => ∃ i, xs = [.int i] ∧ Q (.int (if i < 0 then -i else i)) H) bAbs := by
  intro H HF xs ds br Q sub p e h
  unfold bAbs at e
  split at e
  · obtain ⟨v, rfl, q⟩ := pks_one p
    cases e
    exact ⟨_, by rw [q.int], h _ H bres_int⟩
  · cases e
def bMax2 : List D → Option BR
  | [.int i, .int j] => some (.val (.int (if j > i then j else i)))
  | _ => none
theorem ok_max2 : CallOk G (fun xs H Q => ∃ i j, xs = [.int i, .int j] ∧ Q (.int (if j > i then j else i)) H) bMax2 := by
  intro H HF xs ds br Q sub p e h
  unfold bMax2 at e
  split at e
  · obtain ⟨v, v2, rfl, q, q2⟩ := pks_two p
    cases e
    exact ⟨_, _, by rw [q.int, q2.int], h _ H bres_int⟩
  · cases e
def bMin2 : List D → Option BR
  | [.int i, .int j] => some (.val (.int (if j < i then j else i)))
  | _ => none
theorem ok_min2 : CallOk G (fun xs H Q => ∃ i j, xs = [.int i, .int j] ∧ Q (.int (if j < i then j else i)) H) bMin2 := by
  intro H HF xs ds br Q sub p e h
  unfold bMin2 at e
  split at e
  · obtain ⟨v, v2, rfl, q, q2⟩ := pks_two p
    cases e
    exact ⟨_, _, by rw [q.int, q2.int], h _ H bres_int⟩
  · cases e
def bTuple : List D → Option BR
  | [.lst ds] => some (.newT ds)
  | [.tup ds] => some (.val (.tup ds))
  | _ => none
theorem ok_tuple (hK : G.K = X.K) : CallOk G (fun xs H Q => ∃ p ys, xs = [.ref p] ∧ ((SqL X.K H p ys ∧ ∀ l, H l = none → Q (.ref l) (upd H l (.tup ys))) ∨ (SqT X.K H p ys ∧ Q (.ref p) H))) bTuple := by
  intro H HF xs ds br Q sub p e h
  unfold bTuple at e
  split at e
  · obtain ⟨v, rfl, q⟩ := pks_one p
    obtain ⟨a, ys, rfl, h1, r⟩ := q.lst sub
    cases e
    exact ⟨a, ys, rfl, .inl ⟨SqL.of h1, fun l n => h _ _ ⟨l, ys, rfl, n, rfl, r⟩⟩⟩
  · obtain ⟨v, rfl, q⟩ := pks_one p
    have qf := q.tupF
    obtain ⟨a, ys, rfl, h1, r⟩ := q.tup sub
    cases e
    rw [hK] at h1
    exact ⟨a, ys, rfl, .inr ⟨h1, h _ H ⟨rfl, qf⟩⟩⟩
  · cases e
def bList : List D → Option BR
  | [.lst ds] => some (.newL ds)
  | [.tup ds] => some (.newL ds)
  | _ => none
theorem ok_list (hK : G.K = X.K) : CallOk G (fun xs H Q => ∃ p ys, xs = [.ref p] ∧ (SqL X.K H p ys ∨ SqT X.K H p ys) ∧ ∀ l, H l = none → Q (.ref l) (upd H l (.lst ys))) bList := by
  intro H HF xs ds br Q sub p e h
  unfold bList at e
  split at e
  · obtain ⟨v, rfl, q⟩ := pks_one p
    obtain ⟨a, ys, rfl, h1, r⟩ := q.lst sub
    cases e
    exact ⟨a, ys, rfl, .inl (SqL.of h1), fun l n => h _ _ ⟨l, ys, rfl, n, rfl, r⟩⟩
  · obtain ⟨v, rfl, q⟩ := pks_one p
    obtain ⟨a, ys, rfl, h1, r⟩ := q.tup sub
    cases e
    rw [hK] at h1
    exact ⟨a, ys, rfl, .inr h1, fun l n => h _ _ ⟨l, ys, rfl, n, rfl, r⟩⟩
  · cases e
/-! isinstance -/
inductive Kd where
  | non | bl | int | str | tup | lst | dct
def Kd.nm : Kd → String
  | .non => "NoneType" | .bl => "bool" | .int => "int" | .str => "str" | .tup => "tuple" | .lst => "list" | .dct => "dict"
def kdOf : D → Option Kd
  | .non => some .non | .bl _ => some .bl | .int _ => some .int | .str _ => some .str | .tup _ => some .tup | .lst _ => some .lst | .dct false _ _ => some .dct | _ => none
def isK (k : Kd) (T : String) : Option Bool := if T = "tuple" then some (match k with | .tup => true | _ => false)
    else if T = "int" then some (match k with | .int => true | .bl => true | _ => false)
    else if T = "bool" then some (match k with | .bl => true | _ => false)
    else if T = "str" then some (match k with | .str => true | _ => false)
    else if T = "list" then some (match k with | .lst => true | _ => false)
    else if T = "dict" then some (match k with | .dct => true | _ => false)
    else none
theorem isK_ok {K : PySem.W.Frag} (k : Kd) (T : String) (b : Bool) (h : isK k T = some b) : PySem.W.kitOne K (.type k.nm) (.type T) = some b := by
  unfold isK at h
  split at h
  · rename_i e; subst e
    cases k <;> (cases h; exact kit_ty (by decide +kernel))
  split at h
  · rename_i e; subst e
    cases k <;> (cases h; exact kit_ty (by decide +kernel))
  split at h
  · rename_i e; subst e
    cases k <;> (cases h; exact kit_ty (by decide +kernel))
  split at h
  · rename_i e; subst e
    cases k <;> (cases h; exact kit_ty (by decide +kernel))
  split at h
  · rename_i e; subst e
    cases k <;> (cases h; exact kit_ty (by decide +kernel))
  split at h
  · rename_i e; subst e
    cases k <;> (cases h; exact kit_ty (by decide +kernel))
  · cases h
theorem tyx_of (hK : G.K = X.K) (sub : Sub HF H) {d : D} {v : V} {k : Kd} (h : kdOf d = some k) (p : Pk G HF H d v) : TyX X.K H v (.type k.nm) := by
  cases d with
  | non => cases h; rw [p.non]; exact .base .non
  | bl b => cases h; rw [p.bl]; exact .base (.bl b)
  | int i => cases h; rw [p.int]; exact .base (.int i)
  | str x => cases h; rw [p.str]; exact .base (.str x)
  | tup ds =>
    cases h
    obtain ⟨a, xs, rfl, q, _⟩ := p.tup sub
    rw [hK] at q
    rcases q with (q | ⟨o, q⟩) | ⟨o, its, n, q1, q2, _⟩
    · exact .base (.tup q)
    · exact .fTuple q
    · exact .kTuple q1 q2
  | lst ds =>
    cases h
    obtain ⟨a, xs, rfl, q, _⟩ := p.lst sub
    exact .base (.lst q)
  | dct t ks ds =>
    cases t with
    | true => cases h
    | false =>
      cases h
      rcases p with r | ⟨_, rfl, o⟩
      · unfold Rep at r
        obtain ⟨a, od, xs, rfl, q, _⟩ := r
        exact .fDict (sub _ _ q)
      · obtain ⟨xs, q, _⟩ := o
        exact .base (.dK q)
  | _ => cases h
def bIsi : List D → Option BR
  | [d, .ty T] => (match kdOf d with
    | some k => (match isK k T with
      | some b => some (.val (.bl b))
      | none => none)
    | none => none)
  | _ => none
theorem ok_isi (hK : G.K = X.K) : CallOk G (rIsi X.K) bIsi := by
  intro H HF xs ds br Q sub p e h
  unfold bIsi at e
  split at e
  · rename_i d T
    obtain ⟨v, v2, rfl, q, q2⟩ := pks_two p
    cases k1 : kdOf d with
    | none => rw [k1] at e; cases e
    | some k =>
      rw [k1] at e
      simp only at e
      cases k2 : isK k T with
      | none => rw [k2] at e; cases e
      | some b =>
        rw [k2] at e
        cases e
        rw [q2.ty]
        exact ⟨v, .ty T, _, _, b, rfl, .ty T, tyx_of hK sub k1 q, isK_ok k T b k2, h _ H bres_bl'⟩
  · cases e
end
end T

-- text T10
set_option Elab.async false
set_option linter.all false
set_option maxRecDepth 100000
set_option maxHeartbeats 4000000
namespace T
open PySem L2
section
variable {X : Cx} {G : Tab} {W : Wt} {σ : L2.St} {H HF HF' : Hp} {γ : Gam} {E : Ends}
/-! an own list is changed -/
def Sl.lst : Sl → Option (List D)
  | .own (.lst ds) => some ds
  | .io (.lst ds) => some ds
  | _ => none
def Sl.putL : Sl → List D → Sl
  | .own _, ds => .own (.lst ds)
  | .io _, ds => .io (.lst ds)
  | s, _ => s
theorem Sl.lst_owns {s : Sl} {ds : List D} (h : s.lst = some ds) : s.owns = true ∧ (s = .own (.lst ds) ∨ s = .io (.lst ds)) := by
  unfold Sl.lst at h
  split at h
  · cases h; exact ⟨rfl, .inl rfl⟩
  · cases h; exact ⟨rfl, .inr rfl⟩
  · cases h
theorem Sl.put_owns {s : Sl} {ds es : List D} (h : s.lst = some ds) : (s.putL es).owns = true ∧ (s.putL es).isIo = s.isIo := by
  rcases (Sl.lst_owns h).2 with rfl | rfl <;> exact ⟨rfl, rfl⟩
theorem own_lst (k : Ok G σ H HF γ) {i : Nat} {s : Sl} {ds : List D} (e : γ[i]? = some s) (h : s.lst = some ds) : ∃ a xs, σ[i]? = some (some (.ref a)) ∧ OwnAt σ γ i a ∧ H a = some (.lst xs) ∧ HF a = none ∧ RepL G HF ds xs := by
  have z := k.sl i s e
  obtain ⟨w, q⟩ := Sl.lst_owns h
  rcases q with rfl | rfl
  · obtain ⟨a, ea, xs, h1, h2, r⟩ := z
    exact ⟨a, xs, join_eq ea, ownAt_of e rfl ea, h1, h2, r⟩
  · obtain ⟨a, ea, xs, h1, h2, r⟩ := z
    exact ⟨a, xs, join_eq ea, ownAt_of e rfl ea, h1, h2, r⟩
theorem own_put (k : Ok G σ H HF γ) {i : Nat} {s : Sl} {ds es : List D} {a : Addr} {ys : List V} (e : γ[i]? = some s) (h : s.lst = some ds) (o : OwnAt σ γ i a) (r : RepL G HF es ys) :
    Ok G σ (upd H a (.lst ys)) HF (γ.set i (s.putL es)) ∧ Stp σ γ H HF σ (γ.set i (s.putL es)) (upd H a (.lst ys)) HF := by
  obtain ⟨u, ea, na⟩ := k.own o
  have hl : i < γ.length := (List.getElem?_eq_some_iff.mp e).1
  obtain ⟨pw, pio⟩ := Sl.put_owns (es := es) h
  have ow : ∀ {j b}, OwnAt σ (γ.set i (s.putL es)) j b → OwnAt σ γ j b := fun {j b} q => by
    obtain ⟨⟨t, et, w⟩, q⟩ := q
    rcases getE_set et with ⟨rfl, _, _⟩ | ⟨_, et⟩
    · exact ⟨⟨s, e, (Sl.lst_owns h).1⟩, q⟩
    · exact ⟨⟨t, et, w⟩, q⟩
  refine ⟨⟨k.subT.move (fun b v q => ?_) (Sub.refl _) (fun q _ ps eq => ⟨upd_ne fun z => k.ntb o ps (z ▸ eq), id⟩), by rw [List.length_set]; exact k.len, fun j t et => ?_, fun j l b h1 h2 => k.dis j l b (ow h1) (ow h2)⟩, ⟨Sub.refl _, fun b nb nw => ⟨.inl (upd_ne fun z => nw i (by rw [z]; exact o)), .inl rfl⟩, fun j b q => .inl ⟨j, ow q⟩, fun j t et w => ?_⟩⟩
  · rw [upd_ne (fun z => by rw [z, na] at q; cases q)]
    exact k.sub _ _ q
  · rcases getE_set et with ⟨rfl, rfl, _⟩ | ⟨n, et⟩
    · have q := o.2
      rcases (Sl.lst_owns h).2 with rfl | rfl
      · exact ⟨a, by rw [q]; rfl, ys, upd_same, na, r⟩
      · exact ⟨a, by rw [q]; rfl, ys, upd_same, na, r⟩
    · refine (k.sl j t et).keep (Sub.refl _) fun b w q => ?_
      have ob := ownAt_of et w q
      exact ⟨upd_ne fun z => n (k.dis _ _ _ (by rw [← z]; exact ob) o), (k.own ob).elim fun _ z => z.2⟩
  · by_cases n : j = i
    · subst n
      rw [e] at et; cases et
      exact ⟨⟨_, List.getElem?_set_self hl, by rw [pio]; exact w⟩, rfl⟩
    · exact ⟨⟨t, by rw [List.getElem?_set_ne (Ne.symm n)]; exact et, w⟩, rfl⟩
/-- x.m(..) of a list in slot i, by what m does: the arguments' data, the list; what comes back, the new list -/
def eMeth (i : Nat) (f : List D → List D → Option (D × List D)) (ms : Gam → Out (List Ar)) : Gam → Out R := fun γ => match γ[i]? with
  | some s0 => (match s0.lst with
    | some _ => (ms γ).bind fun as γ1 => (match dsOf as with
      | some args => (match γ1[i]? with
        | some s => (match s.lst with
          | some ds => (match f args ds with
            | some (d, es) => .ok (.fz d) (γ1.set i (s.putL es))
            | none => .bad)
          | none => .bad)
        | none => .bad)
      | none => .bad)
    | none => .bad)
  | none => .bad
def MethOk (G : Tab) (r : V → List V → Hp → VK → Prop) (f : List D → List D → Option (D × List D)) : Prop :=
  ∀ {H HF : Hp} {a : Addr} {xs : List V} {vs : List V} {args ds es : List D} {d : D} {Q : VK}, Sub HF H → H a = some (.lst xs) → RepL G HF ds xs → RepL G HF args vs → f args ds = some (d, es) →
    (∀ v ys, RepL G HF es ys → Rep G HF d v → Q v (upd H a (.lst ys))) → r (.ref a) vs H Q
theorem te_meth {i : Nat} {r : V → List V → Hp → VK → Prop} {f : List D → List D → Option (D × List D)} {ms : Gam → Out (List Ar)} {Q : VK} (F : MethOk G r f) (h : tE G W (eMeth i f ms) σ H Q) : tBM X.K "list" r (tO G W (oSl i)) (tA G W ms) σ H Q := by
  obtain ⟨HF, γ, k, p⟩ := h
  unfold eMeth at p
  cases e0 : γ[i]? with
  | none => rw [e0] at p; exact p.elim
  | some s0 =>
  rw [e0] at p
  simp only at p
  cases l0 : s0.lst with
  | none => rw [l0] at p; exact p.elim
  | some ds0 =>
  rw [l0] at p
  simp only at p
  obtain ⟨a, xs0, q0, o0, h0, n0, _⟩ := own_lst k e0 l0
  have eo : oSl i γ = .ok (.sl i) γ := by
    unfold oSl
    rw [e0]
    rcases (Sl.lst_owns l0).2 with rfl | rfl <;> rfl
  refine ⟨HF, γ, k, ?_⟩
  rw [eo]
  intro v H1 HF1 k1 s1 rv
  have rv' : σ[i]? = some (some v) := rv
  rw [q0] at rv'
  cases rv'
  obtain ⟨a1, xs1, q1, o1, h1, n1, _⟩ := own_lst k1 e0 l0
  rw [q0] at q1
  cases q1
  refine ⟨.inl ⟨rfl, xs1, SqL.of h1⟩, HF1, γ, k1, post_bind (r1 := rA G) (post_from later_E s1 p) fun as γ1 vs H2 HF2 k2 s2 ra p2 => ?_⟩
  have p2 := post_from later_E s2 p2
  cases e1 : dsOf as with
  | none => rw [e1] at p2; exact p2.elim
  | some args =>
  rw [e1] at p2
  simp only at p2
  cases e2 : γ1[i]? with
  | none => rw [e2] at p2; exact p2.elim
  | some s =>
  rw [e2] at p2
  simp only at p2
  cases e3 : s.lst with
  | none => rw [e3] at p2; exact p2.elim
  | some ds =>
  rw [e3] at p2
  simp only at p2
  cases e4 : f args ds with
  | none => rw [e4] at p2; exact p2.elim
  | some r4 =>
  obtain ⟨d, es⟩ := r4
  rw [e4] at p2
  obtain ⟨a2, xs2, q2, o2, h2, n2, rl⟩ := own_lst k2 e2 e3
  rw [q0] at q2
  cases q2
  refine F k2.sub h2 rl (dsOf_rep ra e1) e4 fun v ys ry rd => ?_
  obtain ⟨k3, s3⟩ := own_put k2 e2 e3 o2 ry
  exact p2 v _ HF2 k3 s3 rd
theorem tpe_meth {id : String} {name : Str} {apos cpos : Pos} {o e : Expr} {es : List Expr} {i : Nat} {r : V → List V → Hp → VK → Prop} {f : List D → List D → Option (D × List D)} {ms : Gam → Out (List Ar)} (slot : Slot "list" name id) (hty : typeOf (.builtin id) = pure (.type "method_descriptor")) (hm : MtR X id r) (F : MethOk G r f)
    (ho : PE X o (tO G W (oSl i))) (ha : PA X (e :: es) (tA G W ms)) (hbase : attributeBase o name X.env (eval o X.env) = eval o X.env)
    (hfew : ((backTo cpos (starEach (e :: es) X.env)).all (fun x => !x.1) && (backToKw cpos (keywordEach [] X.env)).all (fun x => x.1.isSome)
      && decide ((e :: es).length + ([] : List Keyword).length + (if ([] : List Keyword).isEmpty then 0 else 1) < 30)) = true)
    (hline : (apos.endLine == cpos.line) = true) (hs : starEach (e :: es) X.env = (false, eval e X.env) :: starEach es X.env) (hplain : (backTo cpos (starEach es X.env)).any (·.1) = false) :
    PE X (.Call (.Attribute o name apos) (e :: es) [] cpos) (tE G W (eMeth i f ms)) :=
  ⟨fun pins s σ H Q I h => (pe_bm PySem.F.plainAttrs_list slot hty hm ho ha hbase hfew hline hs hplain).run pins s σ H Q I (te_meth F h)⟩
def fAppend : List D → List D → Option (D × List D)
  | [d], ds => (match fitN (ds.length + 1) with
    | true => some (.non, ds ++ [d])
    | false => none)
  | _, _ => none
theorem repL_one {d : D} {vs : List V} (h : RepL G HF [d] vs) : ∃ v, vs = [v] ∧ Rep G HF d v := by
  unfold RepL at h
  obtain ⟨v, ws, rfl, r, q⟩ := h
  unfold RepL at q
  subst q
  exact ⟨v, rfl, r⟩
theorem ok_append : MethOk G rAppend fAppend := by
  intro H HF a xs vs args ds es d Q sub h r p e k
  unfold fAppend at e
  split at e
  · rename_i d'
    obtain ⟨v, rfl, q⟩ := repL_one p
    split at e
    · rename_i f
      cases e
      exact ⟨a, xs, v, rfl, rfl, h, by rw [r.length]; exact Nat.lt_of_succ_le (fitN_ok f), k .non _ (RepL.append r (.one q)) (flat_rep (d := .non) rfl)⟩
    · cases e
  · cases e
def fExtend : List D → List D → Option (D × List D)
  | [.lst es], ds => (match fitN (ds.length + es.length) with
    | true => some (.non, ds ++ es)
    | false => none)
  | _, _ => none
theorem ok_extend : MethOk G rExtend fExtend := by
  intro H HF a xs vs args ds es d Q sub h r p e k
  unfold fExtend at e
  split at e
  · rename_i es'
    obtain ⟨v, rfl, q⟩ := repL_one p
    unfold Rep at q
    obtain ⟨b, ys, rfl, h1, r1⟩ := q
    split at e
    · rename_i f
      cases e
      exact ⟨a, b, xs, ys, rfl, rfl, h, sub _ _ h1, by rw [r.length, r1.length]; exact fitN_ok f, k .non _ (RepL.append r r1) (flat_rep (d := .non) rfl)⟩
    · cases e
  · cases e
def fPopAt : List D → List D → Option (D × List D)
  | [.int i], ds => (match decide (-9223372036854775808 ≤ i) && decide (i < 9223372036854775808) with
    | true => (match seqIndex? i ds.length with
      | some j => (match ds[j]? with
        | some d => some (d, ds.eraseIdx j)
        | none => none)
      | none => none)
    | false => none)
  | _, _ => none
theorem RepL.erase : ∀ {ds : List D} {xs : List V} (j : Nat), RepL G HF ds xs → RepL G HF (ds.eraseIdx j) (xs.eraseIdx j)
  | [], xs, j, h => by unfold RepL at h; subst h; exact .nil
  | d :: ds, xs, 0, h => by
    unfold RepL at h
    obtain ⟨v, vs, rfl, _, q⟩ := h
    exact q
  | d :: ds, xs, j + 1, h => by
    unfold RepL at h
    obtain ⟨v, vs, rfl, r, q⟩ := h
    exact .cons r (RepL.erase j q)
theorem ok_popAt : MethOk G rPopAt fPopAt := by
  intro H HF a xs vs args ds es d Q sub h r p e k
  unfold fPopAt at e
  split at e
  · rename_i i
    obtain ⟨v, rfl, q⟩ := repL_one p
    unfold Rep at q
    subst q
    split at e
    · rename_i z
      obtain ⟨z1, z2⟩ := Bool.and_eq_true_iff.mp z
      split at e
      · rename_i j e1
        split at e
        · rename_i d' e2
          cases e
          obtain ⟨y, ey, ry⟩ := r.get e2
          exact ⟨a, xs, i, j, y, rfl, rfl, h, by have := of_decide_eq_true z1; omega, by have := of_decide_eq_true z2; omega, by rw [r.length]; exact e1, ey, k y _ (RepL.erase j r) ry⟩
        · cases e
      · cases e
    · cases e
  · cases e
/-! x[i] = v of a list in slot x -/
def sSetIx (x : Nat) (me : Gam → Out Ar) (mi : Gam → Out Ar) : Gam → OutS := fun γ => (me γ).toS fun a γ1 => match a with
  | .sl _ => .bad
  | .d d => (match γ1[x]? with
    | some s0 => (match s0.lst with
      | some _ => (mi γ1).toS fun b γ2 => (match look γ2 b with
        | some (.int i) => (match γ2[x]? with
          | some s => (match s.lst with
            | some ds => (match ixN ds.length i with
              | some j => .nx (γ2.set x (s.putL (ds.set j d)))
              | none => .bad)
            | none => .bad)
          | none => .bad)
        | _ => .bad)
      | none => .bad)
    | none => .bad)
theorem RepL.set' : ∀ {ds : List D} {xs : List V} {d : D} {v : V} (j : Nat), RepL G HF ds xs → Rep G HF d v → RepL G HF (ds.set j d) (xs.set j v)
  | [], xs, d, v, j, h, _ => by unfold RepL at h; subst h; exact .nil
  | d0 :: ds, xs, d, v, 0, h, r => by
    unfold RepL at h
    obtain ⟨w, vs, rfl, _, q⟩ := h
    exact .cons r q
  | d0 :: ds, xs, d, v, j + 1, h, r => by
    unfold RepL at h
    obtain ⟨w, vs, rfl, r0, q⟩ := h
    exact .cons r0 (RepL.set' j q r)
theorem ts_setIx {x : Nat} {me mi : Gam → Out Ar} (h : tS G W (sSetIx x me mi) E σ H) : tAsg (tO G W me) (gSub (tO G W (oSl x)) (tO G W mi) rSetL) E σ H := by
  obtain ⟨HF, γ, k, p⟩ := h
  refine ⟨HF, γ, k, postS_bind (r1 := rO G) p fun a γ1 v H1 HF1 k1 s1 r1 p1 => ?_⟩
  cases a with
  | sl i => exact p1.elim
  | d d =>
  simp only at p1
  have rd : Rep G HF1 d v := r1
  have p1 := postS_from s1 p1
  cases e0 : γ1[x]? with
  | none => rw [e0] at p1; exact p1.elim
  | some s0 =>
  rw [e0] at p1
  simp only at p1
  cases l0 : s0.lst with
  | none => rw [l0] at p1; exact p1.elim
  | some ds0 =>
  rw [l0] at p1
  simp only at p1
  obtain ⟨a, xs0, q0, o0, h0, n0, _⟩ := own_lst k1 e0 l0
  have eo : oSl x γ1 = .ok (.sl x) γ1 := by
    unfold oSl
    rw [e0]
    rcases (Sl.lst_owns l0).2 with rfl | rfl <;> rfl
  refine ⟨HF1, γ1, k1, ?_⟩
  rw [eo]
  intro w H2 HF2 k2 s2 rv
  have rv' : σ[x]? = some (some w) := rv
  rw [q0] at rv'
  cases rv'
  refine ⟨HF2, γ1, k2, postS_bind (r1 := rO G) (postS_from s2 p1) fun b γ2 u H3 HF3 k3 s3 r3 p3 => ?_⟩
  have p3 := postS_from s3 p3
  split at p3
  · rename_i i el
    split at p3
    · rename_i s e2
      split at p3
      · rename_i ds e3
        split at p3
        · rename_i j ej
          obtain ⟨a2, xs2, q2, o2, h2, n2, rl⟩ := own_lst k3 e2 e3
          rw [q0] at q2
          cases q2
          have re := RepL.set' j rl (Rep.mono (s2.mono.trans s3.mono) _ _ rd)
          obtain ⟨k4, s4⟩ := own_put k3 e2 e3 o2 re
          exact ⟨a, xs2, i, j, rfl, (look_pk k3 r3 el).int, h2, by rw [rl.length]; exact ej, p3 σ _ HF3 k4 s4⟩
        · exact p3.elim
      · exact p3.elim
    · exact p3.elim
  · exact p3.elim
end
end T

-- text T11
set_option Elab.async false
set_option linter.all false
set_option maxRecDepth 100000
set_option maxHeartbeats 4000000
namespace T
open PySem L2
section
variable {X : Cx} {G : Tab} {W : Wt} {σ : L2.St} {H HF HF' : Hp} {γ : Gam} {E : Ends}
/-! a def's promise: what it does with its arguments -/
def okArg : Sl → Bool
  | .fz _ => true | .io _ => true | _ => false
def spT (G : Tab) (n : Nat) (F : Gam → Out R) : Sp := fun vs H Q E => vs.length = n ∧ ∃ HF as, Ok G (vs.map some) H HF as ∧ as.all okArg = true ∧ post (rE G) G (fun cls d _ H' => E cls d H') (vs.map some) as H HF Q (F as)
/-- the in-and-out arguments as they stand at the end -/
def ioOut : Gam → Gam → Gam
  | [], _ => []
  | s :: as, t :: γ => (match s with
    | .io _ => t
    | _ => s) :: ioOut as γ
  | s :: as, [] => s :: as
/-- a body as a function of the arguments; m: the other slots -/
def fnB (m : Nat) (b : Gam → OutS) : Gam → Out R := fun as => match b (as ++ List.replicate m .un) with
  | .rt r γ => .ok r (ioOut as γ)
  | .nx γ => .ok (.fz .non) (ioOut as γ)
  | .er x γ => .er x (ioOut as γ)
  | _ => .bad
theorem ioOut_get : ∀ {as γ : Gam} {i : Nat}, as.length ≤ γ.length → (ioOut as γ)[i]? = match as[i]? with
    | some (.io _) => γ[i]?
    | o => o
  | [], γ, i, _ => by simp [ioOut]
  | s :: as, [], i, h => by simp at h
  | s :: as, t :: γ, 0, _ => by
    unfold ioOut
    cases s <;> rfl
  | s :: as, t :: γ, i + 1, h => by
    unfold ioOut
    have := ioOut_get (as := as) (γ := γ) (i := i) (by simpa using h)
    simpa using this
theorem ioOut_len : ∀ {as γ : Gam}, (ioOut as γ).length = as.length
  | [], _ => rfl
  | s :: as, [] => rfl
  | s :: as, t :: γ => by
    unfold ioOut
    show (ioOut as γ).length + 1 = as.length + 1
    rw [ioOut_len]
theorem okArg_at {as : Gam} (h : as.all okArg = true) {i : Nat} {s : Sl} (e : as[i]? = some s) : okArg s = true := List.all_eq_true.mp h s (List.mem_of_getElem? e)
theorem okArg_owns {s : Sl} (h : okArg s = true) (w : s.owns = true) : s.isIo = true := by
  cases s with
  | fz d => cases w
  | io d => rfl
  | un => cases h
  | own d => cases h
theorem map_some_get {vs : List V} {i : Nat} {v : V} : (vs.map some)[i]? = some (some v) ↔ vs[i]? = some v := by
  rw [List.getElem?_map]
  cases vs[i]? <;> simp
/-- the frame at the entry -/
theorem entry_ok {vs : List V} {as : Gam} {m : Nat} (k : Ok G (vs.map some) H HF as) : Ok G (vs.map some ++ List.replicate m none) H HF (as ++ List.replicate m .un) := by
  have hl : vs.length = as.length := by simpa using k.len
  have ow : ∀ {i a}, OwnAt (vs.map some ++ List.replicate m none) (as ++ List.replicate m .un) i a → OwnAt (vs.map some) as i a := fun {i a} h => by
    obtain ⟨⟨s, e, w⟩, q⟩ := h
    by_cases hi : i < as.length
    · rw [List.getElem?_append_left hi] at e
      rw [List.getElem?_append_left (by simpa [hl] using hi)] at q
      exact ⟨⟨s, e, w⟩, q⟩
    · rw [List.getElem?_append_right (by omega), List.getElem?_replicate] at e
      split at e
      · cases e; cases w
      · cases e
  refine ⟨k.subT, by simp [hl], fun i s e => ?_, fun i j a h1 h2 => k.dis i j a (ow h1) (ow h2)⟩
  by_cases hi : i < as.length
  · rw [List.getElem?_append_left hi] at e
    rw [List.getElem?_append_left (by simpa [hl] using hi)]
    exact k.sl i s e
  · rw [List.getElem?_append_right (by omega), List.getElem?_replicate] at e
    split at e
    · cases e; trivial
    · cases e
theorem entry_own {vs : List V} {as : Gam} {m i : Nat} {a : Addr} (hl : vs.length = as.length) : OwnAt (vs.map some ++ List.replicate m none) (as ++ List.replicate m .un) i a ↔ OwnAt (vs.map some) as i a := by
  constructor
  · rintro ⟨⟨s, e, w⟩, q⟩
    by_cases hi : i < as.length
    · rw [List.getElem?_append_left hi] at e
      rw [List.getElem?_append_left (by simpa [hl] using hi)] at q
      exact ⟨⟨s, e, w⟩, q⟩
    · rw [List.getElem?_append_right (by omega), List.getElem?_replicate] at e
      split at e
      · cases e; cases w
      · cases e
  · rintro ⟨⟨s, e, w⟩, q⟩
    have hi : i < as.length := (List.getElem?_eq_some_iff.mp e).1
    exact ⟨⟨s, by rw [List.getElem?_append_left hi]; exact e, w⟩, by rw [List.getElem?_append_left (by simpa [hl] using hi)]; exact q⟩
/-- the arguments behind the body -/
theorem exit_ok {vs : List V} {as γ' : Gam} {m : Nat} {σ' : L2.St} {H' HF' : Hp} (k : Ok G (vs.map some) H HF as) (oa : as.all okArg = true) (k' : Ok G σ' H' HF' γ') (s' : Stp (vs.map some ++ List.replicate m none) (as ++ List.replicate m .un) H HF σ' γ' H' HF') :
    Ok G (vs.map some) H' HF' (ioOut as γ') ∧ Stp (vs.map some) as H HF (vs.map some) (ioOut as γ') H' HF' ∧ ∀ j a, OwnAt (vs.map some) (ioOut as γ') j a → OwnAt σ' γ' j a := by
  have hl : vs.length = as.length := by simpa using k.len
  have io : ∀ (i : Nat) d, as[i]? = some (.io d) → (∃ s, γ'[i]? = some s ∧ s.isIo = true) ∧ σ'[i]? = (vs.map some)[i]? := fun i d e => by
    have hi : i < as.length := (List.getElem?_eq_some_iff.mp e).1
    obtain ⟨q1, q2⟩ := s'.io i (.io d) (by rw [List.getElem?_append_left hi]; exact e) rfl
    exact ⟨q1, by rw [q2, List.getElem?_append_left (by simpa [hl] using hi)]⟩
  -- the ends' lengths: an io slot lies in both
  have get : ∀ {i : Nat} {s : Sl}, (ioOut as γ')[i]? = some s → (∃ d, as[i]? = some (.io d) ∧ γ'[i]? = some s ∧ s.isIo = true) ∨ (∃ d, s = .fz d ∧ as[i]? = some (.fz d)) := fun {i s} e => by
    have hg : ∀ (as γ : Gam) (i : Nat) (s : Sl), (ioOut as γ)[i]? = some s → (∃ d, as[i]? = some (.io d) ∧ (γ[i]? = some s ∨ γ[i]? = none)) ∨ (as[i]? = some s ∧ ∀ d, s ≠ .io d) := by
      intro as
      induction as with
      | nil => intro γ i s e; simp [ioOut] at e
      | cons s0 as ih =>
        intro γ i s e
        cases γ with
        | nil =>
          unfold ioOut at e
          cases s0 <;> cases i <;> simp_all
          all_goals (cases s <;> simp_all)
        | cons t γ =>
          unfold ioOut at e
          cases i with
          | zero =>
            cases s0 <;> simp_all
            all_goals (subst e; simp)
          | succ i => simpa using ih γ i s (by simpa using e)
    rcases hg as γ' i s e with ⟨d, e1, e2⟩ | ⟨e1, n⟩
    · obtain ⟨⟨t, et, wt⟩, _⟩ := io i d e1
      rcases e2 with e2 | e2
      · rw [e2] at et; cases et; exact .inl ⟨d, e1, e2, wt⟩
      · rw [e2] at et; cases et
    · have := okArg_at oa e1
      cases s with
      | fz d => exact .inr ⟨d, rfl, e1⟩
      | io d => exact absurd rfl (n d)
      | un => cases this
      | own d => cases this
  have ow : ∀ {j a}, OwnAt (vs.map some) (ioOut as γ') j a → OwnAt σ' γ' j a ∧ OwnAt (vs.map some) as j a := fun {j a} h => by
    obtain ⟨⟨s, e, w⟩, q⟩ := h
    rcases get e with ⟨d, e1, e2, w2⟩ | ⟨d, rfl, _⟩
    · exact ⟨⟨⟨s, e2, w⟩, by rw [(io j d e1).2]; exact q⟩, ⟨⟨_, e1, rfl⟩, q⟩⟩
    · cases w
  refine ⟨⟨k'.subT, by rw [ioOut_len]; exact k.len, fun i s e => ?_, fun i j a h1 h2 => k'.dis i j a (ow h1).1 (ow h2).1⟩, ⟨s'.mono, fun b nb nw => s'.frame b nb fun i q => nw i ((entry_own hl).mp q), fun j b q => .inl ⟨j, (ow q).2⟩, fun i s e w => ?_⟩, fun j a q => (ow q).1⟩
  · rcases get e with ⟨d, e1, e2, w2⟩ | ⟨d, rfl, e1⟩
    · have := k'.sl i s e2
      rw [(io i d e1).2] at this
      exact this
    · obtain ⟨v, q, r⟩ := k.sl i _ e1
      exact ⟨v, q, Rep.mono s'.mono _ _ r⟩
  · cases s with
    | io d =>
      obtain ⟨⟨t, et, wt⟩, _⟩ := io i d e
      refine ⟨⟨t, ?_, wt⟩, rfl⟩
      have hg : ∀ (as γ : Gam) (i : Nat) (d : D) (t : Sl), as[i]? = some (.io d) → γ[i]? = some t → (ioOut as γ)[i]? = some t := by
        intro as
        induction as with
        | nil => intro γ i d t e; simp at e
        | cons s0 as ih =>
          intro γ i d t e e2
          cases γ with
          | nil => simp at e2
          | cons u γ =>
            unfold ioOut
            cases i with
            | zero => simp at e e2; subst e; subst e2; rfl
            | succ i => simpa using ih γ i d t (by simpa using e) (by simpa using e2)
      exact hg as γ' i d t e et
    | _ => cases w
/-- THE RULE: a def by its body -/
theorem fn_reads {m : Nat} {b : Gam → OutS} {n : Nat} {N : List Str} (hN : N.length = n + m) (vs : List V) (Q : VK) (E' : XK) (h : spT G n (fnB m b) vs H Q E') :
    tS G (fun cls d _ H' => E' cls d H') b { nx := fun _ H' => Q .non H', rt := Q } (L2.start N vs) H := by
  obtain ⟨hn, HF, as, k, oa, p⟩ := h
  have es : L2.start N vs = vs.map some ++ List.replicate m none := by
    unfold L2.start
    rw [hN, hn, Nat.add_sub_cancel_left]
  rw [es]
  have hl : vs.length = as.length := by simpa using k.len
  refine ⟨HF, as ++ List.replicate m .un, entry_ok k, ?_⟩
  unfold fnB at p
  cases e : b (as ++ List.replicate m .un) with
  | bad => rw [e] at p; exact p.elim
  | bk γ => rw [e] at p; exact p.elim
  | ct γ => rw [e] at p; exact p.elim
  | nx γ =>
    rw [e] at p
    intro σ' H' HF' k' s'
    obtain ⟨a1, a2, _⟩ := exit_ok k oa k' s'
    exact p .non H' HF' a1 a2 (flat_rep (G := G) (HF := HF') (d := .non) (v := .non) rfl)
  | rt r γ =>
    rw [e] at p
    intro σ' v H' HF' k' s' rr
    obtain ⟨a1, a2, a3⟩ := exit_ok k oa k' s'
    refine p v H' HF' a1 a2 ?_
    cases r with
    | fz d => exact rr
    | own d =>
      obtain ⟨a, ea, o, no, w⟩ := rr
      exact ⟨a, ea, o, fun j q => no j (a3 j a q), w.elim .inl fun ⟨i, q⟩ => .inr ⟨i, (entry_own hl).mp q⟩⟩
  | er x γ =>
    rw [e] at p
    intro c d σ' H' HF' k' s' rr
    obtain ⟨a1, a2, _⟩ := exit_ok k oa k' s'
    exact p c d H' HF' a1 a2 rr
end
end T

-- text T12
set_option Elab.async false
set_option linter.all false
set_option maxRecDepth 100000
set_option maxHeartbeats 4000000
namespace T
open PySem L2
section
variable {X : Cx} {G : Tab} {W : Wt} {σ : L2.St} {H HF HF' : Hp} {γ : Gam} {E : Ends}
def mkSl : Option Sl → Option Sl
  | some (.own d) => some (.io d)
  | some (.io d) => some (.io d)
  | some (.fz d) => some (.fz d)
  | _ => none
theorem mkSl_some {o : Option Sl} {s : Sl} (h : mkSl o = some s) : (∃ d, o = some (.own d) ∧ s = .io d) ∨ (∃ d, o = some (.io d) ∧ s = .io d) ∨ ∃ d, o = some (.fz d) ∧ s = .fz d := by
  unfold mkSl at h
  split at h
  · cases h; exact .inl ⟨_, rfl, rfl⟩
  · cases h; exact .inr (.inl ⟨_, rfl, rfl⟩)
  · cases h; exact .inr (.inr ⟨_, rfl, rfl⟩)
  · cases h
def mkArg (γ : Gam) : Ar → Option Sl
  | .d d => some (.fz d)
  | .sl i => mkSl γ[i]?
def mkArgs (γ : Gam) : List Ar → Option Gam
  | [] => some []
  | a :: as => match mkArg γ a with
    | some s => (match mkArgs γ as with
      | some ss => some (s :: ss)
      | none => none)
    | none => none
def slIn (i : Nat) : List Ar → Bool
  | [] => false
  | .sl j :: as => (i == j) || slIn i as
  | .d _ :: as => slIn i as
def disA : List Ar → Bool
  | [] => true
  | .sl i :: as => !slIn i as && disA as
  | .d _ :: as => disA as
def reSl (o : Option Sl) (s : Sl) : Option Sl := match o with
  | some (.own _) => (match s with
    | .io d => some (.own d)
    | _ => o)
  | some (.io _) => (match s with
    | .io d => some (.io d)
    | _ => o)
  | _ => o
def putArgs : Gam → List Ar → Gam → Gam
  | γ, .sl i :: ars, s :: as => putArgs (match reSl γ[i]? s with
    | some t => γ.set i t
    | none => γ) ars as
  | γ, .d _ :: ars, _ :: as => putArgs γ ars as
  | γ, _, _ => γ
theorem mkArgs_at : ∀ {ars : List Ar} {as : Gam}, mkArgs γ ars = some as → as.length = ars.length ∧ ∀ (k : Nat) a, ars[k]? = some a → ∃ s, as[k]? = some s ∧ mkArg γ a = some s
  | [], as, h => by cases h; exact ⟨rfl, fun k a e => by simp at e⟩
  | a :: ars, as, h => by
    unfold mkArgs at h
    cases q : mkArg γ a with
    | none => rw [q] at h; cases h
    | some s =>
      rw [q] at h
      simp only at h
      cases q2 : mkArgs γ ars with
      | none => rw [q2] at h; cases h
      | some ss =>
        rw [q2] at h
        cases h
        obtain ⟨l, f⟩ := mkArgs_at q2
        refine ⟨by simp [l], fun k b e => ?_⟩
        cases k with
        | zero => simp at e; subst e; exact ⟨s, rfl, q⟩
        | succ k => simpa using f k b (by simpa using e)
theorem slIn_at {i : Nat} : ∀ {ars : List Ar} {k : Nat}, ars[k]? = some (.sl i) → slIn i ars = true
  | [], k, e => by simp at e
  | a :: ars, 0, e => by simp at e; subst e; simp [slIn]
  | a :: ars, k + 1, e => by
    have := slIn_at (ars := ars) (k := k) (by simpa using e)
    cases a <;> simp [slIn, this]
theorem disA_at : ∀ {ars : List Ar} {k l i : Nat}, disA ars = true → ars[k]? = some (.sl i) → ars[l]? = some (.sl i) → k = l
  | [], k, l, i, _, e, _ => by simp at e
  | a :: ars, k, l, i, h, e1, e2 => by
    have hd : disA ars = true := by
      cases a with
      | d d => exact h
      | sl j => exact (Bool.and_eq_true_iff.mp h).2
    cases k with
    | zero =>
      cases l with
      | zero => rfl
      | succ l =>
        simp at e1
        subst e1
        have h1 := (Bool.and_eq_true_iff.mp h).1
        rw [slIn_at (ars := ars) (k := l) (by simpa using e2)] at h1
        cases h1
    | succ k =>
      cases l with
      | zero =>
        simp at e2
        subst e2
        have h1 := (Bool.and_eq_true_iff.mp h).1
        rw [slIn_at (ars := ars) (k := k) (by simpa using e1)] at h1
        cases h1
      | succ l => exact congrArg (· + 1) (disA_at (i := i) hd (by simpa using e1) (by simpa using e2))
theorem putArgs_len : ∀ {ars : List Ar} {as γ : Gam}, (putArgs γ ars as).length = γ.length
  | [], as, γ => by cases as <;> rfl
  | .d _ :: ars, [], γ => rfl
  | .sl _ :: ars, [], γ => rfl
  | .d _ :: ars, s :: as, γ => by unfold putArgs; exact putArgs_len
  | .sl i :: ars, s :: as, γ => by
    unfold putArgs
    rw [putArgs_len]
    split <;> simp
theorem put_out {i : Nat} : ∀ {ars : List Ar} {as γ : Gam}, slIn i ars = false → (putArgs γ ars as)[i]? = γ[i]?
  | [], as, γ, _ => by cases as <;> rfl
  | .d _ :: ars, [], γ, _ => rfl
  | .sl _ :: ars, [], γ, _ => rfl
  | .d _ :: ars, s :: as, γ, h => by unfold putArgs; exact put_out (by simpa [slIn] using h)
  | .sl j :: ars, s :: as, γ, h => by
    have h1 : i ≠ j ∧ slIn i ars = false := by simpa [slIn] using h
    unfold putArgs
    rw [put_out h1.2]
    split
    · rw [List.getElem?_set_ne (Ne.symm h1.1)]
    · rfl
theorem put_in {i : Nat} : ∀ {ars : List Ar} {as γ : Gam} {k : Nat} {s : Sl}, disA ars = true → ars[k]? = some (.sl i) → as[k]? = some s → (putArgs γ ars as)[i]? = reSl γ[i]? s
  | [], as, γ, k, s, _, e, _ => by simp at e
  | a :: ars, [], γ, k, s, _, _, e => by simp at e
  | a :: ars, s0 :: as, γ, 0, s, h, e, e2 => by
    simp at e e2
    subst e; subst e2
    have h1 := (Bool.and_eq_true_iff.mp h).1
    have h2 : slIn i ars = false := by simpa using h1
    unfold putArgs
    rw [put_out h2]
    cases q : reSl γ[i]? s0 with
    | none =>
      have : γ[i]? = none := by
        cases z : γ[i]? with
        | none => rfl
        | some t =>
          rw [z] at q
          exfalso
          unfold reSl at q
          cases t <;> cases s0 <;> simp at q
      exact this
    | some t =>
      have hi : i < γ.length := by
        cases z : γ[i]? with
        | none => rw [z] at q; simp [reSl] at q
        | some t => exact (List.getElem?_eq_some_iff.mp z).1
      exact List.getElem?_set_self hi
  | a :: ars, s0 :: as, γ, k + 1, s, h, e, e2 => by
    have hd : disA ars = true := by
      cases a with
      | d d => exact h
      | sl j => exact (Bool.and_eq_true_iff.mp h).2
    have e' : ars[k]? = some (.sl i) := by simpa using e
    have e2' : as[k]? = some s := by simpa using e2
    cases a with
    | d d => unfold putArgs; exact put_in hd e' e2'
    | sl j =>
      have hj : i ≠ j := by
        rintro rfl
        have h1 := (Bool.and_eq_true_iff.mp h).1
        rw [slIn_at e'] at h1
        cases h1
      unfold putArgs
      rw [put_in hd e' e2']
      congr 1
      split
      · rw [List.getElem?_set_ne (Ne.symm hj)]
      · rfl
theorem arsOk_at : ∀ {ars : List Ar} {vs : List V} {k : Nat} {a : Ar}, ArsOk G σ HF ars vs → ars[k]? = some a → ∃ v, vs[k]? = some v ∧ ArOk G σ HF a v
  | _, _, k, a, .nil, e => by simp at e
  | _, _, 0, a, .cons r t, e => by simp at e; subst e; exact ⟨_, rfl, r⟩
  | _, _, k + 1, a, .cons r t, e => by
    obtain ⟨v, e1, r1⟩ := arsOk_at (k := k) t (by simpa using e)
    exact ⟨v, by simpa using e1, r1⟩
theorem arsOk_len : ∀ {ars : List Ar} {vs : List V}, ArsOk G σ HF ars vs → vs.length = ars.length
  | _, _, .nil => rfl
  | _, _, .cons _ t => by simp [arsOk_len t]
/-- the arguments as a callee sees them -/
theorem args_ok {ars : List Ar} {vs : List V} {as : Gam} (k : Ok G σ H HF γ) (r : ArsOk G σ HF ars vs) (m : mkArgs γ ars = some as) (dis : disA ars = true) :
    Ok G (vs.map some) H HF as ∧ as.all okArg = true ∧ ∀ l a, OwnAt (vs.map some) as l a → ∃ i, ars[l]? = some (.sl i) ∧ OwnAt σ γ i a := by
  obtain ⟨ml, mg⟩ := mkArgs_at m
  have vl := arsOk_len r
  have at_ : ∀ (l : Nat) s, as[l]? = some s → ∃ a v, ars[l]? = some a ∧ vs[l]? = some v ∧ ArOk G σ HF a v ∧ mkArg γ a = some s := fun l s e => by
    have hl : l < ars.length := by rw [← ml]; exact (List.getElem?_eq_some_iff.mp e).1
    have ea : ars[l]? = some ars[l] := List.getElem?_eq_getElem hl
    obtain ⟨s', e1, e2⟩ := mg l _ ea
    rw [e] at e1; cases e1
    obtain ⟨v, e3, e4⟩ := arsOk_at r ea
    exact ⟨_, v, ea, e3, e4, e2⟩
  have ow : ∀ l a, OwnAt (vs.map some) as l a → ∃ i, ars[l]? = some (.sl i) ∧ OwnAt σ γ i a := fun l a h => by
    obtain ⟨⟨s, e, w⟩, q⟩ := h
    obtain ⟨b, v, e1, e2, e3, e4⟩ := at_ l s e
    cases b with
    | d d => cases e4; cases w
    | sl i =>
      refine ⟨i, e1, ?_⟩
      have ev : v = .ref a := by
        have := map_some_get.mp q
        rw [e2] at this
        exact Option.some.inj this
      subst ev
      have e3' : σ[i]? = some (some (.ref a)) := e3
      rcases mkSl_some (show mkSl γ[i]? = some s from e4) with ⟨d, z, _⟩ | ⟨d, z, _⟩ | ⟨d, z, rfl⟩
      · exact ⟨⟨_, z, rfl⟩, e3'⟩
      · exact ⟨⟨_, z, rfl⟩, e3'⟩
      · cases w
  refine ⟨⟨k.subT, by rw [List.length_map, vl, ml], fun l s e => ?_, fun i j a h1 h2 => ?_⟩, List.all_eq_true.mpr fun s hs => ?_, ow⟩
  · obtain ⟨b, v, e1, e2, e3, e4⟩ := at_ l s e
    have ev : (vs.map some)[l]?.join = some v := by rw [map_some_get.mpr e2]; rfl
    rw [ev]
    cases b with
    | d d => cases e4; exact ⟨v, rfl, e3⟩
    | sl i =>
      have e3' : σ[i]? = some (some v) := e3
      rcases mkSl_some (show mkSl γ[i]? = some s from e4) with ⟨d, z, rfl⟩ | ⟨d, z, rfl⟩ | ⟨d, z, rfl⟩
      · have := k.sl i _ z
        rw [e3'] at this
        exact this
      · have := k.sl i _ z
        rw [e3'] at this
        exact this
      · have := k.sl i _ z
        rw [e3'] at this
        exact this
  · obtain ⟨x, a1, o1⟩ := ow i a h1
    obtain ⟨y, a2, o2⟩ := ow j a h2
    have := k.dis x y a o1 o2
    subst this
    exact disA_at dis a1 a2
  · obtain ⟨l, e⟩ := List.getElem?_of_mem hs
    obtain ⟨b, v, e1, e2, e3, e4⟩ := at_ l s e
    cases b with
    | d d => cases e4; rfl
    | sl i => rcases mkSl_some (show mkSl γ[i]? = some s from e4) with ⟨d, z, rfl⟩ | ⟨d, z, rfl⟩ | ⟨d, z, rfl⟩ <;> rfl
/-- the caller's frame behind the call -/
theorem args_back {ars : List Ar} {vs : List V} {as as' : Gam} {H2 HF2 : Hp} (k : Ok G σ H HF γ) (r : ArsOk G σ HF ars vs) (m : mkArgs γ ars = some as) (dis : disA ars = true) (k2 : Ok G (vs.map some) H2 HF2 as') (s2 : Stp (vs.map some) as H HF (vs.map some) as' H2 HF2) :
    Ok G σ H2 HF2 (putArgs γ ars as') ∧ Stp σ γ H HF σ (putArgs γ ars as') H2 HF2 ∧ (∀ j a, OwnAt σ (putArgs γ ars as') j a → OwnAt σ γ j a) ∧ ∀ j a, OwnAt σ (putArgs γ ars as') j a → (∃ l, OwnAt (vs.map some) as' l a) ∨ ∀ l, ¬ OwnAt (vs.map some) as l a := by
  obtain ⟨k1, oa, ow⟩ := args_ok k r m dis
  obtain ⟨ml, mg⟩ := mkArgs_at m
  have vl := arsOk_len r
  -- what stands at a slot
  have at_ : ∀ (j : Nat) t, (putArgs γ ars as')[j]? = some t → (γ[j]? = some t ∧ (t.owns = true → ∀ l : Nat, ars[l]? ≠ some (Ar.sl j))) ∨ (∃ (l : Nat) (d : D) (v : V), ars[l]? = some (Ar.sl j) ∧ as'[l]? = some (Sl.io d) ∧ vs[l]? = some v ∧ σ[j]? = some (some v) ∧ ((t = .own d ∧ ∃ d0, γ[j]? = some (.own d0)) ∨ (t = .io d ∧ ∃ d0, γ[j]? = some (.io d0)))) := fun j t e => by
    by_cases hj : slIn j ars = true
    · -- it is passed
      have ex : ∀ (ars : List Ar), slIn j ars = true → ∃ l : Nat, ars[l]? = some (Ar.sl j) := by
        intro ars
        induction ars with
        | nil => intro h; cases h
        | cons a ars ih =>
          intro h
          cases a with
          | d d => obtain ⟨l, q⟩ := ih h; exact ⟨l + 1, by simpa using q⟩
          | sl i =>
            rcases Bool.or_eq_true_iff.mp h with h | h
            · have : j = i := by simpa using h
              subst this
              exact ⟨0, rfl⟩
            · obtain ⟨l, q⟩ := ih h; exact ⟨l + 1, by simpa using q⟩
      obtain ⟨l, el⟩ := ex ars hj
      obtain ⟨s, es, ms⟩ := mg l _ el
      obtain ⟨v, ev, rv⟩ := arsOk_at r el
      have rv' : σ[j]? = some (some v) := rv
      have hl2 : l < as'.length := by
        have := k2.len
        rw [List.length_map, vl] at this
        rw [← this]
        exact (List.getElem?_eq_some_iff.mp el).1
      have es' : as'[l]? = some as'[l] := List.getElem?_eq_getElem hl2
      rw [put_in dis el es'] at e
      rcases mkSl_some (show mkSl γ[j]? = some s from ms) with ⟨d0, z, rfl⟩ | ⟨d0, z, rfl⟩ | ⟨d0, z, rfl⟩
      · obtain ⟨⟨t', et', wt'⟩, _⟩ := s2.io l _ es rfl
        rw [es'] at et'
        cases et'
        rw [z] at e
        cases q : as'[l] with
        | io d =>
          rw [q] at e es'
          simp only [reSl] at e
          cases e
          exact .inr ⟨l, d, v, el, es', ev, rv', .inl ⟨rfl, d0, z⟩⟩
        | _ => rw [q] at wt'; cases wt'
      · obtain ⟨⟨t', et', wt'⟩, _⟩ := s2.io l _ es rfl
        rw [es'] at et'
        cases et'
        rw [z] at e
        cases q : as'[l] with
        | io d =>
          rw [q] at e es'
          simp only [reSl] at e
          cases e
          exact .inr ⟨l, d, v, el, es', ev, rv', .inr ⟨rfl, d0, z⟩⟩
        | _ => rw [q] at wt'; cases wt'
      · rw [z] at e
        simp only [reSl] at e
        cases e
        exact .inl ⟨z, fun w => by cases w⟩
    · have hj' : slIn j ars = false := by simpa using hj
      rw [put_out hj'] at e
      exact .inl ⟨e, fun _ l el => by rw [slIn_at el] at hj'; cases hj'⟩
  have own : ∀ j a, OwnAt σ (putArgs γ ars as') j a → OwnAt σ γ j a := fun j a h => by
    obtain ⟨⟨t, e, w⟩, q⟩ := h
    rcases at_ j t e with ⟨e1, _⟩ | ⟨l, d, v, _, _, _, _, ⟨rfl, d0, z⟩ | ⟨rfl, d0, z⟩⟩
    · exact ⟨⟨t, e1, w⟩, q⟩
    · exact ⟨⟨_, z, rfl⟩, q⟩
    · exact ⟨⟨_, z, rfl⟩, q⟩
  refine ⟨⟨k2.subT, by rw [putArgs_len]; exact k.len, fun j t e => ?_, fun i j a h1 h2 => k.dis i j a (own i a h1) (own j a h2)⟩, ⟨s2.mono, fun b nb nw => s2.frame b nb fun l q => by
    obtain ⟨i, _, o⟩ := ow l b q
    exact nw i o, fun j b q => .inl ⟨j, own j b q⟩, fun i s e w => ?_⟩, own, fun j a h => ?_⟩
  · rcases at_ j t e with ⟨e1, n1⟩ | ⟨l, d, v, el, el', ev, rv, hh⟩
    · refine (k.sl j t e1).keep s2.mono fun a w q => ?_
      have o1 : OwnAt σ γ j a := ownAt_of e1 w q
      obtain ⟨u, eu, nu⟩ := k.own o1
      have nw : ∀ l, ¬ OwnAt (vs.map some) as l a := fun l z => by
        obtain ⟨i, ei, oi⟩ := ow l a z
        have := k.dis i j a oi o1
        subst this
        exact n1 w l ei
      obtain ⟨f1, f2⟩ := s2.frame a (by rw [eu]; simp) nw
      exact ⟨f1.eq (k.ntb o1), (or_nt f2 (k.nt o1)).trans nu⟩
    · have z := k2.sl l _ el'
      rw [map_some_get.mpr ev] at z
      obtain ⟨a, ea, o⟩ := z
      have ea' : v = .ref a := by simpa using ea
      subst ea'
      rcases hh with ⟨rfl, _⟩ | ⟨rfl, _⟩
      · exact ⟨a, by rw [rv]; rfl, o⟩
      · exact ⟨a, by rw [rv]; rfl, o⟩
  · have hi : i < (putArgs γ ars as').length := by rw [putArgs_len]; exact (List.getElem?_eq_some_iff.mp e).1
    have ee : (putArgs γ ars as')[i]? = some (putArgs γ ars as')[i] := List.getElem?_eq_getElem hi
    refine ⟨⟨_, ee, ?_⟩, rfl⟩
    rcases at_ i _ ee with ⟨e1, _⟩ | ⟨l, d, v, _, _, _, _, ⟨_, d0, z⟩ | ⟨q, d0, z⟩⟩
    · rw [e] at e1; cases e1; exact w
    · rw [e] at z; cases z; cases w
    · rw [q]; rfl
  · obtain ⟨⟨t, e, w⟩, q⟩ := h
    rcases at_ j t e with ⟨e1, n1⟩ | ⟨l, d, v, el, el', ev, rv, hh⟩
    · refine .inr fun l z => ?_
      obtain ⟨i, ei, oi⟩ := ow l a z
      have := k.dis i j a oi ⟨⟨t, e1, w⟩, q⟩
      subst this
      exact n1 w l ei
    · refine .inl ⟨l, ⟨_, el', rfl⟩, ?_⟩
      rw [rv] at q
      injection q with q
      injection q with q
      rw [map_some_get.mpr ev, q]
/-- a call of a def of n parameters; what raises is not told -/
def eCallN (n : Nat) (F : Gam → Out R) (ms : Gam → Out (List Ar)) : Gam → Out R := fun γ => (ms γ).bind fun ars γ1 => match Nat.beq ars.length n && disA ars with
  | true => (match mkArgs γ1 ars with
    | some as => (match F as with
      | .ok r as' => .ok r (putArgs γ1 ars as')
      | _ => .bad)
    | none => .bad)
  | false => .bad
theorem te_callN {n : Nat} {F : Gam → Out R} {ms : Gam → Out (List Ar)} {Q : VK} (h : tE G W (eCallN n F ms) σ H Q) : tCall (spT G n F) [] L2.E0 (tA G W ms) σ H Q := by
  obtain ⟨HF, γ, k, p⟩ := h
  refine ⟨HF, γ, k, post_bind (r1 := rA G) p fun ars γ1 vs H1 HF1 k1 s1 r1 p1 => ?_⟩
  have p1 := post_from later_E s1 p1
  rw [List.append_nil]
  cases hn : Nat.beq ars.length n && disA ars with
  | false => rw [hn] at p1; exact p1.elim
  | true =>
  rw [hn] at p1
  obtain ⟨hb, hd⟩ := Bool.and_eq_true_iff.mp hn
  simp only at p1
  cases hm : mkArgs γ1 ars with
  | none => rw [hm] at p1; exact p1.elim
  | some as =>
  rw [hm] at p1
  simp only at p1
  obtain ⟨ka, oa, ow⟩ := args_ok k1 r1 hm hd
  refine ⟨by rw [arsOk_len r1]; exact Nat.eq_of_beq_eq_true hb, HF1, as, ka, oa, ?_⟩
  cases ef : F as with
  | bad => rw [ef] at p1; exact p1.elim
  | er x as' => rw [ef] at p1; exact p1.elim
  | ok r as' =>
    rw [ef] at p1
    intro v H2 HF2 k2 s2 rr
    obtain ⟨b1, b2, b3, b4⟩ := args_back k1 r1 hm hd k2 s2
    refine p1 v H2 HF2 b1 b2 ?_
    cases r with
    | fz d => exact rr
    | own d =>
      obtain ⟨a, ea, o, no, w⟩ := rr
      refine ⟨a, ea, o, fun j q => ?_, ?_⟩
      · rcases b4 j a q with ⟨l, z⟩ | z
        · exact no l z
        · rcases w with w | ⟨l, w⟩
          · obtain ⟨u, eu, _⟩ := k1.own (b3 j a q)
            rw [w] at eu; cases eu
          · exact z l w
      · rcases w with w | ⟨l, w⟩
        · exact .inl w
        · obtain ⟨i, _, oi⟩ := ow l a w
          exact .inr ⟨i, oi⟩
theorem tpe_callN {k n : Nat} {f : Addr} {fd : FuncData} {ps : List Str} {F : Gam → Out R} {x : Str} {p pos : Pos} {e : Expr} {es : List Expr} {ms : Gam → Out (List Ar)} (FO : FnOk X.prog X.w X.K X.mg X.base CX0 k f fd ps (spT G n F)) (hr : Room k X.A) (hg : Gl X x) (hm : X.mg x = some (.ref f)) (hk : PySem.W.keepIn X.K (.ref f) = true) (hb : Binds X.K fd ps [])
    (ha : PA X (e :: es) (tA G W ms)) (hdb : (x == ("__debug__" : Str)) = false) (he : starEach (e :: es) X.env = (false, eval e X.env) :: starEach es X.env) (hpl : (backTo pos (starEach es X.env)).any (·.1) = false) : PE X (.Call (.Name x p) (e :: es) [] pos) (tE G W (eCallN n F ms)) :=
  ⟨fun pins s σ H Q I h => (pe_call FO hr hg hm hk hb .nil L2.pass0 ha hdb he hpl).run pins s σ H Q I (te_callN h)⟩
end
end T


-- text T13
set_option Elab.async false
set_option linter.all false
set_option maxRecDepth 100000
set_option maxHeartbeats 4000000
namespace T
open PySem L2
section
variable {X : Cx} {G : Tab} {W : Wt} {σ : L2.St} {H HF HF' : Hp} {γ : Gam} {E : Ends}
/-! not, and, or; conditional expressions; chains -/
def bNot (a : Gam → Out Bool) : Gam → Out Bool := fun γ => (a γ).bind fun v γ1 => .ok (!v) γ1
theorem tt_not {a : Gam → Out Bool} {Q : Bool → Hp → Prop} (h : tT G W (bNot a) σ H Q) : tNot (tT G W a) σ H Q := by
  obtain ⟨HF, γ, k, p⟩ := h
  refine ⟨HF, γ, k, post_bind (r1 := rT) p fun v γ1 v' H1 HF1 k1 s1 e p1 => ?_⟩
  cases e
  exact p1 (!v) H1 HF1 k1 s1 rfl
theorem tpt_not {a : Expr} {pos : Pos} {m : Gam → Out Bool} (ha : PT X a (tT G W m)) : PT X (.UnaryOp .Not a pos) (tT G W (bNot m)) := ⟨fun pins s σ H Q I h => (pt_not ha).run pins s σ H Q I (tt_not h)⟩
def bAnd (a b : Gam → Out Bool) : Gam → Out Bool := fun γ => (a γ).bind fun v γ1 => match v with
  | true => b γ1
  | false => .ok false γ1
def bOr (a b : Gam → Out Bool) : Gam → Out Bool := fun γ => (a γ).bind fun v γ1 => match v with
  | true => .ok true γ1
  | false => b γ1
theorem tt_and {a b : Gam → Out Bool} {Q : Bool → Hp → Prop} (h : tT G W (bAnd a b) σ H Q) : tAnd (tT G W a) (tT G W b) σ H Q := by
  obtain ⟨HF, γ, k, p⟩ := h
  refine ⟨HF, γ, k, post_bind (r1 := rT) p fun v γ1 v' H1 HF1 k1 s1 e p1 => ?_⟩
  cases e
  cases v with
  | true => rw [if_pos rfl]; exact ⟨HF1, γ1, k1, post_from later_T s1 p1⟩
  | false => rw [if_neg (by simp)]; exact p1 false H1 HF1 k1 s1 rfl
theorem tt_or {a b : Gam → Out Bool} {Q : Bool → Hp → Prop} (h : tT G W (bOr a b) σ H Q) : tOr (tT G W a) (tT G W b) σ H Q := by
  obtain ⟨HF, γ, k, p⟩ := h
  refine ⟨HF, γ, k, post_bind (r1 := rT) p fun v γ1 v' H1 HF1 k1 s1 e p1 => ?_⟩
  cases e
  cases v with
  | true => rw [if_pos rfl]; exact p1 true H1 HF1 k1 s1 rfl
  | false => rw [if_neg (by simp)]; exact ⟨HF1, γ1, k1, post_from later_T s1 p1⟩
theorem tpw_and1 {a : Expr} {pos : Pos} {m : Gam → Out Bool} (ha : PT X a (tT G W m)) : PW X (.BoolOp .And [a] pos) (tT G W m) := pw_and1 ha
theorem tpw_or1 {a : Expr} {pos : Pos} {m : Gam → Out Bool} (ha : PT X a (tT G W m)) : PW X (.BoolOp .Or [a] pos) (tT G W m) := pw_or1 ha
theorem tpw_and {a b : Expr} {rest : List Expr} {pos : Pos} {m n : Gam → Out Bool} (ha : PT X a (tT G W m)) (hb : PW X (.BoolOp .And (b :: rest) pos) (tT G W n)) : PW X (.BoolOp .And (a :: b :: rest) pos) (tT G W (bAnd m n)) := ⟨fun wh pins s σ H Q I h => (pw_and ha hb).run wh pins s σ H Q I (tt_and h)⟩
theorem tpw_or {a b : Expr} {rest : List Expr} {pos : Pos} {m n : Gam → Out Bool} (ha : PT X a (tT G W m)) (hb : PW X (.BoolOp .Or (b :: rest) pos) (tT G W n)) : PW X (.BoolOp .Or (a :: b :: rest) pos) (tT G W (bOr m n)) := ⟨fun wh pins s σ H Q I h => (pw_or ha hb).run wh pins s σ H Q I (tt_or h)⟩
/-- .. as values -/
def ofT (m : Gam → Out Bool) : Gam → Out R := fun γ => (m γ).bind fun v γ1 => .ok (.fz (.bl v)) γ1
theorem toT_ofT (m : Gam → Out Bool) (γ : Gam) : toT (ofT m) γ = m γ := by
  unfold toT ofT
  cases m γ <;> rfl
def eAnd (a b : Gam → Out R) : Gam → Out R := fun γ => (a γ).bind fun r γ1 => match r with
  | .fz (.bl true) => b γ1
  | .fz (.bl false) => .ok (.fz (.bl false)) γ1
  | _ => .bad
def eOr (a b : Gam → Out R) : Gam → Out R := fun γ => (a γ).bind fun r γ1 => match r with
  | .fz (.bl true) => .ok (.fz (.bl true)) γ1
  | .fz (.bl false) => b γ1
  | _ => .bad
def eNot (a : Gam → Out R) : Gam → Out R := fun γ => (a γ).bind fun r γ1 => match r with
  | .fz (.bl v) => .ok (.fz (.bl (!v))) γ1
  | _ => .bad
theorem rep_bl {b : Bool} {v : V} (h : Rep G HF (.bl b) v) : v = .bl b := h
theorem te_and {a b : Gam → Out R} {Q : VK} (h : tE G W (eAnd a b) σ H Q) : tAndV (tE G W a) (tE G W b) σ H Q := by
  obtain ⟨HF, γ, k, p⟩ := h
  refine ⟨HF, γ, k, post_bind (r1 := rE G) p fun r γ1 v H1 HF1 k1 s1 rr p1 => ?_⟩
  split at p1
  · have e : v = .bl true := rr
    exact ⟨true, e, by rw [if_pos rfl]; exact ⟨HF1, γ1, k1, post_from later_E s1 p1⟩⟩
  · have e : v = .bl false := rr
    exact ⟨false, e, by rw [if_neg (by simp)]; exact p1 (.bl false) H1 HF1 k1 s1 (flat_rep (G := G) (HF := HF1) (d := .bl false) (v := .bl false) rfl)⟩
  · exact p1.elim
theorem te_or {a b : Gam → Out R} {Q : VK} (h : tE G W (eOr a b) σ H Q) : tOrV (tE G W a) (tE G W b) σ H Q := by
  obtain ⟨HF, γ, k, p⟩ := h
  refine ⟨HF, γ, k, post_bind (r1 := rE G) p fun r γ1 v H1 HF1 k1 s1 rr p1 => ?_⟩
  split at p1
  · have e : v = .bl true := rr
    exact ⟨true, e, by rw [if_pos rfl]; exact p1 (.bl true) H1 HF1 k1 s1 (flat_rep (G := G) (HF := HF1) (d := .bl true) (v := .bl true) rfl)⟩
  · have e : v = .bl false := rr
    exact ⟨false, e, by rw [if_neg (by simp)]; exact ⟨HF1, γ1, k1, post_from later_E s1 p1⟩⟩
  · exact p1.elim
theorem te_not {a : Gam → Out R} {Q : VK} (h : tE G W (eNot a) σ H Q) : tNotV (tE G W a) σ H Q := by
  obtain ⟨HF, γ, k, p⟩ := h
  refine ⟨HF, γ, k, post_bind (r1 := rE G) p fun r γ1 v H1 HF1 k1 s1 rr p1 => ?_⟩
  split at p1
  · rename_i b
    have e : v = .bl b := rr
    exact ⟨b, e, p1 (.bl (!b)) H1 HF1 k1 s1 (flat_rep (G := G) (HF := HF1) (d := .bl (!b)) (v := .bl (!b)) rfl)⟩
  · exact p1.elim
theorem tpe_one {op : BoolOp} {a : Expr} {pos : Pos} {m : Gam → Out R} (h : PE X a (tE G W m)) : PE X (.BoolOp op [a] pos) (tE G W m) := pe_one h
theorem tpe_and {a b : Expr} {rest : List Expr} {pos : Pos} {m n : Gam → Out R} (ha : PE X a (tE G W m)) (hb : PE X (.BoolOp .And (b :: rest) pos) (tE G W n)) : PE X (.BoolOp .And (a :: b :: rest) pos) (tE G W (eAnd m n)) := ⟨fun pins s σ H Q I h => (pe_and ha hb).run pins s σ H Q I (te_and h)⟩
theorem tpe_or {a b : Expr} {rest : List Expr} {pos : Pos} {m n : Gam → Out R} (ha : PE X a (tE G W m)) (hb : PE X (.BoolOp .Or (b :: rest) pos) (tE G W n)) : PE X (.BoolOp .Or (a :: b :: rest) pos) (tE G W (eOr m n)) := ⟨fun pins s σ H Q I h => (pe_or ha hb).run pins s σ H Q I (te_or h)⟩
theorem tpe_not {a : Expr} {pos : Pos} {m : Gam → Out R} (ha : PE X a (tE G W m)) : PE X (.UnaryOp .Not a pos) (tE G W (eNot m)) := ⟨fun pins s σ H Q I h => (pe_not ha).run pins s σ H Q I (te_not h)⟩
/-- a if c else b -/
def eIf (c : Gam → Out Bool) (a b : Gam → Out R) : Gam → Out R := fun γ => (c γ).bind fun v γ1 => match v with
  | true => a γ1
  | false => b γ1
theorem te_if {c : Gam → Out Bool} {a b : Gam → Out R} {Q : VK} (h : tE G W (eIf c a b) σ H Q) : tIf (tT G W c) (tE G W a) (tE G W b) σ H Q := by
  obtain ⟨HF, γ, k, p⟩ := h
  refine ⟨HF, γ, k, post_bind (r1 := rT) p fun v γ1 v' H1 HF1 k1 s1 e p1 => ?_⟩
  cases e
  cases v with
  | true => rw [if_pos rfl]; exact ⟨HF1, γ1, k1, post_from later_E s1 p1⟩
  | false => rw [if_neg (by simp)]; exact ⟨HF1, γ1, k1, post_from later_E s1 p1⟩
theorem tpe_if {c a b : Expr} {pos : Pos} {mc : Gam → Out Bool} {ma mb : Gam → Out R} (hc : PT X c (tT G W mc)) (ha : PE X a (tE G W ma)) (hb : PE X b (tE G W mb)) : PE X (.IfExp c a b pos) (tE G W (eIf mc ma mb)) := ⟨fun pins s σ H Q I h => (pe_ifExp hc ha hb).run pins s σ H Q I (te_if h)⟩
/-- a < b < c -/
def eChain (f f' : D → D → Option BR) (ma mb mc : Gam → Out Ar) : Gam → Out R := fun γ => (ma γ).bind fun a γ1 => (mb γ1).bind fun b γ2 => match look γ2 a with
  | some d1 => (match look γ2 b with
    | some d2 => (match f d1 d2 with
      | some (.val (.bl true)) => (mc γ2).bind fun c γ3 => (match look γ3 b with
        | some d2' => (match look γ3 c with
          | some d3 => ofB (f' d2' d3) γ3
          | none => .bad)
        | none => .bad)
      | some (.val (.bl false)) => .ok (.fz (.bl false)) γ2
      | _ => .bad)
    | none => .bad)
  | none => .bad
theorem te_chain {r r' : R2} {f f' : D → D → Option BR} (F : OpOk G r f) (F' : OpOk G r' f') {ma mb mc : Gam → Out Ar} {Q : VK} (h : tE G W (eChain f f' ma mb mc) σ H Q) : tChain r r' (tO G W ma) (tO G W mb) (tO G W mc) σ H Q := by
  obtain ⟨HF, γ, k, p⟩ := h
  refine ⟨HF, γ, k, post_bind (r1 := rO G) p fun a γ1 x H1 HF1 k1 s1 r1 p1 => ?_⟩
  refine ⟨HF1, γ1, k1, post_bind (r1 := rO G) (post_from later_E s1 p1) fun b γ2 y H2 HF2 k2 s2 r2 p2 => ?_⟩
  have p2 := post_from later_E s2 p2
  cases e1 : look γ2 a with
  | none => rw [e1] at p2; exact p2.elim
  | some d1 =>
  rw [e1] at p2
  simp only at p2
  cases e2 : look γ2 b with
  | none => rw [e2] at p2; exact p2.elim
  | some d2 =>
  rw [e2] at p2
  simp only at p2
  split at p2
  · rename_i e3
    refine F k2.sub (look_pk k2 (ArOk.mono s2.mono r1) e1) (look_pk k2 r2 e2) e3 fun z H3 bb => ?_
    obtain ⟨rfl, rz⟩ := bb
    refine ⟨true, rep_bl rz, ?_⟩
    rw [if_pos rfl]
    refine ⟨HF2, γ2, k2, post_bind (r1 := rO G) p2 fun c γ3 w H4 HF4 k4 s4 r4 p4 => ?_⟩
    have p4 := post_from later_E s4 p4
    cases e4 : look γ3 b with
    | none => rw [e4] at p4; exact p4.elim
    | some d2' =>
    rw [e4] at p4
    simp only at p4
    cases e5 : look γ3 c with
    | none => rw [e5] at p4; exact p4.elim
    | some d3 =>
    rw [e5] at p4
    simp only at p4
    cases e6 : f' d2' d3 with
    | none => rw [e6] at p4; exact p4.elim
    | some br =>
      rw [e6] at p4
      exact F' k4.sub (look_pk k4 (ArOk.mono s4.mono r2) e4) (look_pk k4 r4 e5) e6 fun v H' bb => br_fin k4 p4 bb
  · rename_i e3
    refine F k2.sub (look_pk k2 (ArOk.mono s2.mono r1) e1) (look_pk k2 r2 e2) e3 fun z H3 bb => ?_
    obtain ⟨rfl, rz⟩ := bb
    refine ⟨false, rep_bl rz, ?_⟩
    rw [if_neg (by simp)]
    exact p2 (.bl false) _ HF2 k2 .refl (flat_rep (G := G) (HF := HF2) (d := .bl false) (v := .bl false) rfl)
  · exact p2.elim
theorem tpe_chain {op op' : CmpOp} {r r' : R2} {f f' : D → D → Option BR} {a b c : Expr} {pos : Pos} {ma mb mc : Gam → Out Ar} (ho : OpR X (compareOp op) r) (ho' : OpR X (compareOp op') r') (F : OpOk G r f) (F' : OpOk G r' f') (ha : PE X a (tO G W ma)) (hb : PE X b (tO G W mb)) (hc : PE X c (tO G W mc)) (hm : lastMarks [op, op'] [b, c] = false) :
    PE X (.Compare a [op, op'] [b, c] pos) (tE G W (eChain f f' ma mb mc)) := ⟨fun pins s σ H Q I h => (pe_chain ho ho' ha hb hc hm).run pins s σ H Q I (te_chain F F' h)⟩
theorem tpt_chain {op op' : CmpOp} {r r' : R2} {f f' : D → D → Option BR} {a b c : Expr} {pos : Pos} {ma mb mc : Gam → Out Ar} (ho : OpR X (compareOp op) r) (ho' : OpR X (compareOp op') r') (F : OpOk G r f) (F' : OpOk G r' f') (ha : PE X a (tO G W ma)) (hb : PE X b (tO G W mb)) (hc : PE X c (tO G W mc)) (hm : lastMarks [op, op'] [b, c] = false) :
    PT X (.Compare a [op, op'] [b, c] pos) (tT G W (toT (eChain f f' ma mb mc))) := ⟨fun pins s σ H Q I h => (pt_chain ho ho' ha hb hc hm).run pins s σ H Q I (te_chain F F' (tt_of h))⟩
/-- -a of an int -/
def eNeg (m : Gam → Out Ar) : Gam → Out R := fun γ => (m γ).bind fun a γ1 => match look γ1 a with
  | some (.int i) => .ok (.fz (.int (-i))) γ1
  | _ => .bad
theorem tpe_neg {a : Expr} {pos : Pos} {m : Gam → Out Ar} (ha : PE X a (tO G W m)) : PE X (.UnaryOp .USub a pos) (tE G W (eNeg m)) := ⟨fun pins s σ H Q I h => (pe_un un_neg ha).run pins s σ H Q I (by
  obtain ⟨HF, γ, k, p⟩ := h
  refine ⟨HF, γ, k, post_bind (r1 := rO G) p fun a γ1 x H1 HF1 k1 s1 r1 p1 => ?_⟩
  split at p1
  · rename_i i e
    exact ⟨i, (look_pk k1 r1 e).int, p1 (.int (-i)) H1 HF1 k1 s1 (flat_rep (G := G) (HF := HF1) (d := .int (-i)) (v := .int (-i)) rfl)⟩
  · exact p1.elim)⟩
end
end T

-- text T14
set_option Elab.async false
set_option linter.all false
set_option maxRecDepth 100000
set_option maxHeartbeats 4000000
namespace T
open PySem L2 PyProof.Rows GenW
section
variable {prog : Program} {w : World} {A : Around} {R : GenEnd} {Y : Protocol} {n : Nat} {s₀ : Shared} {fs : List Frame} {s : Shared} {env : Env}
abbrev EEx (env : Env) : Value → Sem PySem.Fin := fun x => (do noteFrame x env; theTreesLotGoes x : Sem Unit).wrap (fun _ => .raise x) .raise id id
theorem seg_forLoop {target : Expr} {it : Value} {body orelse : List Stmt}
    (h : wpAny (model prog w) (A.over (.forLoop target it body orelse env) fs) (pyNext it) (fun r s1 => match r with
        | none => Seg (model prog w) A R Y n s₀ (.forLoop target it body orelse env) (.pure (.again (.block orelse env))) fs s1
        | some v => wpAny (model prog w) (A.over (.forLoop target it body orelse env) fs) (letOwnedTupleGo target it v) (fun _ s2 =>
            wpAny (model prog w) (A.over (.forLoop target it body orelse env) fs) (assign target env v) (fun _ s3 =>
              Seg (model prog w) A R Y n s₀ (.forLoop target it body orelse env) ((execs body env).wrap (fun f => match f with
                | .next | .cont => .pure (.again (.forLoop target it body orelse env))
                | .brk => .pure (.done .next)
                | .ret v => .pure (.done (.ret v))) (EEx env) id id) fs s3)
              (fun x s' => Seg (model prog w) A R Y n s₀ (.forLoop target it body orelse env) (EEx env x) fs s') s2)
            (fun x s' => Seg (model prog w) A R Y n s₀ (.forLoop target it body orelse env) (EEx env x) fs s') s1)
      (fun x s' => Seg (model prog w) A R Y n s₀ (.forLoop target it body orelse env) (EEx env x) fs s') s) :
    Seg (model prog w) A R Y n s₀ (.forLoop target it body orelse env) ((model prog w).den (.forLoop target it body orelse env)) fs s := by
  show Seg _ A R Y n s₀ _ ((forTurn target it body orelse env).onRaise (fun x => do noteFrame x env; theTreesLotGoes x)) fs s
  have ee : ∀ x s', Seg (model prog w) A R Y n s₀ (.forLoop target it body orelse env) (EEx env x) fs s' → Seg (model prog w) A R Y n s₀ (.forLoop target it body orelse env) ((do noteFrame x env; theTreesLotGoes x : Sem Unit) >>= fun _ => (Sem.raise x : Sem PySem.Fin)) fs s' := fun x s' hx => by
    rw [Sem.bind_eq_wrap']; exact hx
  rw [Sem.onRaise_eq_wrap]
  unfold forTurn
  refine seg_bind_wrap (wpAny_standAt ?_)
  refine seg_bind_wrap (wpAny_onRaise (wpAny_mono h (fun r s1 h1 => ?_) fun x s' hx => wpAny_standAt (ee x s' hx)))
  cases r with
  | none => exact h1
  | some v =>
    refine seg_bind_wrap (wpAny_mono h1 (fun _ s2 h2 => ?_) fun x s' hx => ee x s' hx)
    refine seg_bind_wrap (wpAny_mono h2 (fun _ s3 h3 => ?_) fun x s' hx => ee x s' hx)
    rw [Sem.bind_eq_wrap', Sem.wrap_wrap]
    rw [Sem.wrap_congr (execs body env) _ _ (K' := fun f => match f with
            | .next | .cont => .pure (.again (.forLoop target it body orelse env))
            | .brk => .pure (.done .next)
            | .ret v => .pure (.done (.ret v))) (H' := EEx env)
        (fun f => by cases f <;> rfl)
        (fun e => by first | exact Sem.bind_eq_wrap _ _ | (show (do noteFrame e env; theTreesLotGoes e : Sem Unit).bind (fun _ => .raise e) = _; rw [Sem.bind_eq_wrap]))]
    exact h3
end

section
variable {X : Cx} {tg : Expr}
def tGFor (wi : TI) (g : TG) (tb : TGn) : TGn := fun D ys σ H => wi σ H fun J H1 => ∃ Wl : Nat → Nat → List V → L2.St → Hp → Prop, (∃ m, Wl 0 m ys σ H1) ∧ ∀ i m ys σ H, Wl i m ys σ H →
  (J.stop i H ∧ D.nx ys σ H) ∨ (J.go i H ∧ ∃ N : List V → L2.St → Hp → Prop, (∀ ys' σ' H', N ys' σ' H' → ∃ m', m' < m ∧ Wl (i + 1) m' ys' σ' H') ∧ ∀ x H', J.yld i H x H' → g x σ H' fun σ2 H2 => tb { D with nx := N, ct := N, bk := D.nx } ys σ2 H2)
theorem gs_for {iter : Expr} {body : List Stmt} {wi : TI} {g : TG} {tb : TGn} {pos : Pos} (hp : PassesOwn (model X.prog X.w) X.A X.env X.xe) (hcalm : X.calm = true) (hi : PI X tg iter wi) (hg : PG X tg g) (hb : GSs X body tb)
    (hfs : ∀ x, foldedSetIterable iter X.env x = pure x) : GS X (.For tg iter body [] pos) (tGFor wi g tb) := by
  refine ⟨fun A S ip R n ys s₀ c fs K J gd lv s σ H D gc hn k hI ht => ?_⟩
  obtain ⟨acc0, cc0, r0, I0⟩ := hI
  rw [exec_For]
  refine seg_bind_wrap (wpAny_standAt ?_)
  refine seg_bind_wrap ?_
  rw [gc.over]
  refine wpAny_mono (hi.run _ s σ H _ I0 ht) (fun v s1 h1 => ?_) fun x s' hx => k.exc n s₀ x s' hx
  refine seg_bind_wrap (wpAny_of_eq (hfs v) ?_)
  refine seg_bind_wrap (wpAny_standAt ?_)
  refine seg_bind_wrap (wpAny_holding ?_)
  rw [gc.over]
  refine wpAny_mono h1 (fun itv s2 h2 => ?_) fun x s' hx => k.exc n s₀ x s' hx
  obtain ⟨it, fp, tn, Jt, H2, e, I2, T, st2, f2, Wl, ⟨m0, w0⟩, turn⟩ := h2
  subst e
  refine seg_call fun p => ?_
  have gl := fun (kk : Result → Sem PySem.Fin) => gc_loop (k := kk) (c' := .forLoop tg (.ref it) body [] X.env) (l := lv []) (kp := []) (p := p) gc rfl rfl
  have stat : ∀ {H' : Hp} (acc : Array Value) (cc : Nat), (∀ b ∈ fp, H' b = none) → ∀ b ∈ fp, FpOk X ((S, lstObj acc cc) :: ip) H' b := fun {H'} acc cc hn' b hb => by
    obtain ⟨_, q2, q3, q4, q5, q6⟩ := f2 b hb
    refine ⟨hn' b hb, q2, q3, q4, q5, fun p hp => ?_⟩
    rcases List.mem_append.mp hp with hp | hp
    · exact q6 p (List.mem_append_left _ hp)
    · rcases List.mem_cons.mp hp with hp | hp
      · rw [hp]; exact q6 (S, lstObj acc0 cc0) (List.mem_append_right _ List.mem_cons_self)
      · exact q6 p (List.mem_append_right _ (List.mem_cons_of_mem _ hp))
  have hSfp : ∀ b ∈ fp, b ≠ S := fun b hb z => (f2 b hb).2.2.2.2.2 (S, lstObj acc0 cc0) (List.mem_append_right _ List.mem_cons_self) z.symm
  have loop : ∀ (m i n : Nat) (ys : List V) (s₀ s : Shared) (σ : L2.St) (H : Hp), n + ys.length = sizeLine → Wl i m ys σ H → GI X S ip ys σ H s → tn i s.heap → (∀ b ∈ fp, H b = none) →
      Seg (model X.prog X.w) A R (GY X S) n s₀ (.forLoop tg (.ref it) body [] X.env) ((model X.prog X.w).den (.forLoop tg (.ref it) body [] X.env))
        (.ret (fun r => ((match r with | .ok f => (.pure f : Sem Flow) | .error e => .raise e).onRaise (cameBack X.env)).wrap K J gd lv) none (gd false) (lv []) c p [] :: fs) s := by
    intro m
    induction m using Nat.strongRecOn with
    | ind m ih =>
      intro i n ys s₀ s σ H hn w hI st fr
      have ee : ∀ (n : Nat) (s₀ : Shared) (x : Value) (s' : Shared), X.xe x s' → Seg (model X.prog X.w) A R (GY X S) n s₀ (.forLoop tg (.ref it) body [] X.env)
          (EEx X.env x)
          (.ret (fun r => ((match r with | .ok f => (.pure f : Sem Flow) | .error e => .raise e).onRaise (cameBack X.env)).wrap K J gd lv) none (gd false) (lv []) c p [] :: fs) s' := fun n s₀ x s' hx => by
        refine seg_wrap ?_
        rw [(gl _).over]
        refine wpAny_bind (wpAny_mono (hp x s' hx) (fun _ s'' hcb => wpAny_theTreesLotGoes ?_) fun y s'' hcb => ?_)
        · exact seg_leaf (.error x) (seg_cameBack gc k hcb)
        · exact seg_leaf (.error y) (seg_cameBack gc k hcb)
      refine seg_forLoop ?_
      rw [(gl _).over]
      obtain ⟨acc, cc, r, I⟩ := hI
      rcases turn i m ys σ H w with ⟨stop, qn⟩ | ⟨go, N, hN, step⟩
      · refine wpAny_mono (T.done X rfl rfl rfl hcalm i _ s σ H X.xe I (stat acc cc fr) st stop) (fun r' s4 h4 => ?_) fun x s' hx => ee n s₀ x s' hx
        obtain ⟨rfl, I4⟩ := h4
        refine seg_again rfl ?_
        exact seg_leaf (.ok .next) (k.ok n ys s₀ s4 .next hn ⟨σ, H, ⟨acc, cc, r, I4⟩, qn⟩)
      · refine wpAny_mono (T.item X rfl rfl rfl hcalm i _ s σ H X.xe I (stat acc cc fr) st go) (fun r' s4 h4 => ?_) fun x s' hx => ee n s₀ x s' hx
        obtain ⟨u, rfl, h4⟩ := h4
        refine wpAny_mono h4 (fun _ s5 h5 => ?_) fun x s' hx => ee n s₀ x s' hx
        obtain ⟨x, H5, I5, r5, y5, st5, fr5⟩ := h5
        have I5' := I5.pinned (stat acc cc fr5) (T.obj _ _ st5)
        refine wpAny_mono (hg.run _ s5 σ H5 x u _ I5' r5 (step x H5 y5)) (fun _ s6 h6 => ?_) fun x s' hx => ee n s₀ x s' hx
        obtain ⟨σ6, H6, I6, q6⟩ := h6
        have gb : GC X S (ip ++ pinsAt fp s5.heap) A (.forLoop tg (.ref it) body [] X.env) (.ret (fun r => ((match r with | .ok f => (.pure f : Sem Flow) | .error e => .raise e).onRaise (cameBack X.env)).wrap K J gd lv) none (gd false) (lv []) c p [] :: fs) id :=
          (fun q => { gl _ with ip := q }) (fun p hp => (List.mem_append.mp hp).elim (fun hp => gc.ip p hp) fun hp => hSfp _ (of_pinsAt hp).1)
        have again : ∀ {σ7 : L2.St} {H7 : Hp} {ys' : List V} {s7 : Shared}, GI X S (ip ++ pinsAt fp s5.heap) ys' σ7 H7 s7 → N ys' σ7 H7 → ∃ m', m' < m ∧ Wl (i + 1) m' ys' σ7 H7 ∧ GI X S ip ys' σ7 H7 s7 ∧ tn (i + 1) s7.heap ∧ ∀ b ∈ fp, H7 b = none := fun {σ7 H7 ys' s7} G7 n7 => by
          obtain ⟨acc7, cc7, r7, I7⟩ := G7
          obtain ⟨m', hm, w7⟩ := hN ys' σ7 H7 n7
          have pn7 : ∀ b ∈ fp, ∀ o, s5.heap.get? b = some o → (b, o) ∈ X.pn ++ ((S, lstObj acc7 cc7) :: (ip ++ pinsAt fp s5.heap)) := fun b hb o e => List.mem_append_right _ (List.mem_cons_of_mem _ (List.mem_append_right _ (mem_pinsAt hb e)))
          refine ⟨m', hm, w7, ⟨acc7, cc7, r7, ?_⟩, T.keep _ _ _ st5 fun b hb o e => (I7.pin (b, o) (pn7 b hb o e)).1, fun b hb => ?_⟩
          · exact I7.pins_of fun p hp => by
              rcases List.mem_cons.mp hp with hp | hp
              · exact I7.pin p (List.mem_append_right _ (by rw [hp]; exact List.mem_cons_self))
              · exact I7.pin p (List.mem_append_right _ (List.mem_cons_of_mem _ (List.mem_append_left _ hp)))
          · obtain ⟨o, e, d⟩ := T.obj _ _ st5 b hb
            exact (I7.pin (b, o) (pn7 b hb o e)).2.1
        refine hb.run A S (ip ++ pinsAt fp s5.heap) R n ys s₀ _ _ _ _ id id s6 σ6 H6 { D with nx := N, ct := N, bk := D.nx } gb hn ⟨fun n' ys' s₀' s7 f hn' hs => ?_, fun n' s₀' x s3 hx => ee n' s₀' x s3 hx⟩ ⟨acc, cc, r, I6⟩ q6
        have out : ∀ {ys' : List V} {σ : L2.St} {H : Hp} {s7 : Shared}, GI X S (ip ++ pinsAt fp s5.heap) ys' σ H s7 → GI X S ip ys' σ H s7 := fun {ys' σ H s7} G7 => by
          obtain ⟨acc7, cc7, r7, I7⟩ := G7
          exact ⟨acc7, cc7, r7, I7.pins_of fun p hp => by
              rcases List.mem_cons.mp hp with hp | hp
              · exact I7.pin p (List.mem_append_right _ (by rw [hp]; exact List.mem_cons_self))
              · exact I7.pin p (List.mem_append_right _ (List.mem_cons_of_mem _ (List.mem_append_left _ hp)))⟩
        cases f with
        | next =>
          obtain ⟨σ7, H7, G7, n7⟩ := hs
          obtain ⟨m', hm, w7, G8, st8, fr8⟩ := again G7 n7
          exact seg_again rfl (ih m' hm (i + 1) n' ys' s₀' s7 σ7 H7 hn' w7 G8 st8 fr8)
        | cont =>
          obtain ⟨σ7, H7, G7, n7⟩ := hs
          obtain ⟨m', hm, w7, G8, st8, fr8⟩ := again G7 n7
          exact seg_again rfl (ih m' hm (i + 1) n' ys' s₀' s7 σ7 H7 hn' w7 G8 st8 fr8)
        | brk =>
          obtain ⟨σ7, H7, G7, q7⟩ := hs
          exact seg_leaf (.ok .next) (k.ok n' ys' s₀' s7 .next hn' ⟨σ7, H7, out G7, q7⟩)
        | ret v =>
          obtain ⟨x7, σ7, H7, G7, r7, q7⟩ := hs
          exact seg_leaf (.ok (.ret v)) (k.ok n' ys' s₀' s7 (.ret v) hn' ⟨x7, σ7, H7, out G7, r7, q7⟩)
  exact loop m0 0 n ys s₀ s2 σ H2 hn w0 ⟨acc0, cc0, r0, I2⟩ st2 fun b hb => (f2 b hb).1
end
end T

-- text T15
set_option Elab.async false
set_option linter.all false
set_option maxRecDepth 100000
set_option maxHeartbeats 4000000
namespace T
open PySem L2 PyProof.Rows
open Sem (wp)
/-! rules at the level of the model, for built-ins -/
section
variable {prog : Program} {w : World} {A : Around} {E : Value → Shared → Prop} {s : Shared}
theorem sum_tupRaw {l : Addr} {its : List Value} {ns : List Int} {Q : Value → Shared → Prop} (hh : A.handled = none) (hl : s.heap.IsTuple l its.toArray) (hi : IntsAre its ns)
    (h : ∀ h' tk t', (∀ b o, s.heap.get? b = some o → h'.get? b = some o) → Q (.int ns.sum t') { s with heap := h', toks := tk }) : wpAny (model prog w) A (call (.builtin "sum") [.ref l]) Q E s := by
  obtain ⟨xs, e⟩ := hi.allInts.items
  have hn : numsOf (intItems xs).toList = ns := by rw [← e]; exact hi.numsOf
  rw [nums_intItems] at hn
  rw [e] at hl
  have hlt : l < s.heap.objs.size := by obtain ⟨_, e, _⟩ := hl; exact Heap.lt_size e
  refine call_sum_walkG (wpAny_pyIter_tuple hl ?_)
  refine ⟨_, _, _, _, _, _, numAt xs, rfl, Walks.tuple (A := A.in1) hh s.heap.objs.size l (Nat.ne_of_lt hlt) (intItems xs), ⟨⟨_, Heap.get?_push_size _ rfl, rfl, rfl⟩, hl.push _⟩, (fun b hb => ?_), (fun _ _ => intItems_at), fun h' tk t' hk => ?_⟩
  · show b < (s.heap.push _).objs.size
    rw [Heap.size_push]
    rcases List.mem_cons.mp hb with rfl | hb
    · exact Nat.lt_succ_self _
    · rcases List.mem_cons.mp hb with rfl | hb
      · exact Nat.lt_succ_of_lt hlt
      · cases hb
  · have := h h' tk t' fun b o e => by
      refine hk b o (fun hm => ?_) (Heap.get?_push_of_some _ e)
      rcases List.mem_cons.mp hm with e1 | hm
      · exact absurd (e1 ▸ Heap.lt_size e) (Nat.lt_irrefl _)
      · cases hm
    rw [preSum_eq]
    have e2 : (intItems xs).size = xs.size := by simp [intItems]
    rw [e2, List.take_of_length_le (by simp), hn]
    exact this
end
section
variable {X : Cx}
def rSumT (K : PySem.W.Frag) : List V → Hp → VK → Prop := fun vs H Q => ∃ (a : Addr) (ns : List Int), vs = [V.ref a] ∧ SqT K H a (ns.map V.int) ∧ Q (.int ns.sum) H
theorem cr_sumT (hc : X.calm = true) : CallR X (.builtin "sum") (rSumT X.K) := by
  intro pins s σ H vs us Q I r h
  obtain ⟨a, ns, rfl, hs, q⟩ := h
  obtain ⟨its, rv, hl, _⟩ := I.tuple hs
  rw [Vals.ref1 r]
  exact sum_tupRaw (I.ok.hd hc) hl rv.ints fun h' tk t' hk => ⟨.int _, H, I.kept hk, ⟨_, rfl⟩, q⟩
def bTx (b : Bool) : Str := if b then "True" else "False"
def rReprB : List V → Hp → VK → Prop := fun xs H Q => ∃ b, xs = [V.bl b] ∧ Q (.str (bTx b)) H
theorem cr_reprB : CallR X (.builtin "repr") rReprB := by
  intro pins s σ H vs us Q I r h
  obtain ⟨b, rfl, q⟩ := h
  cases r with
  | cons r rr =>
    cases rr
    cases r
    exact PySem.P.repr_of_bool ⟨.str (bTx b), H, I.tok _, ⟨_, rfl⟩, q⟩
/-- set(t), t a tuple of ints -/
def rSetT (K : PySem.W.Frag) (w : World) : List V → Hp → VK → Prop := fun xs H Q => ∃ (p : Addr) (ns : List Int), xs = [V.ref p] ∧ SqT K H p (ns.map V.int) ∧ ns.length ≤ 1000 ∧
  ∀ (q : Addr) (c : Nat) (ks : List Int), H q = none → ks.Nodup → (∀ k, k ∈ ks ↔ k ∈ ns) → ks.length = c → Q (.ref q) (upd H q (SetO w q (fun j => decide (j ∈ ns)) c))
theorem cr_setT (hc : X.calm = true) : CallR X (.type "set") (rSetT X.K X.w) := by
  intro pins s σ H vs us Q I r h
  obtain ⟨p, ns, rfl, hs, hl, q⟩ := h
  obtain ⟨its, rv, pt, hz⟩ := I.tuple hs
  rw [Vals.ref1 r]
  refine call_set_tupI ns (I.ok.hd hc) (show s.heap.IsTuple p its.toArray from pt) (ints_of_vals rv) (by unfold scanBound; omega) fun h' tk c R1 hcn k => ?_
  have R2 := R1
  obtain ⟨o, es, ep, t, ho, hex, hdt, g, nd, hm2, hb, hf, hn, hr, hl2⟩ := R1
  refine ⟨.ref s.heap.objs.size, upd H s.heap.objs.size (SetO X.w s.heap.objs.size (fun j => decide (j ∈ ns)) c), I.laid (t' := tk) k (Nat.le_refl _) (setO_new R2), rfl, ?_⟩
  refine q _ c (es.toList.map keyOf) (I.hok.fresh (Nat.le_refl _)) nd (fun k => ?_) ?_
  · rw [← hm2 k, decide_eq_true_eq]
  · rw [List.length_map, Array.length_toList]; exact hn
def rLenSetO (w : World) : List V → Hp → VK → Prop := fun xs H Q => ∃ (a : Addr) (S : Int → Bool) (n : Nat), xs = [V.ref a] ∧ H a = some (SetO w a S n) ∧ n < 1000000 ∧ Q (.int n) H
theorem cr_lenSetO : CallR X (.builtin "len") (rLenSetO X.w) := by
  intro pins s σ H vs us Q I r h
  obtain ⟨a, S, n, rfl, ha, hn1, q⟩ := h
  have R := setO_get I ha
  rw [Vals.ref1 r]
  obtain ⟨o, es, ep, t, ho, hex, hd, _, _, _, _, hf, hn, _⟩ := R
  exact call_len_set ho hex hd hf (by rw [hn]; omega) ⟨.int n, H, I.tok _, ⟨_, by rw [hn]⟩, q⟩
end
end T

-- text T16
set_option Elab.async false
set_option linter.all false
set_option maxRecDepth 100000
set_option maxHeartbeats 4000000
namespace T
open PySem L2 PyProof.Rows
open Sem (wp)
theorem meets_enumerate_newB1 {v : Value} {o : Obj} {H : Heap → Prop} (B : Begins v o H) :
    Meets (Builtin.«enumerate.__new__» ⟨[.type "enumerate", v], []⟩) (fun _ R s => H s.heap ∧
      R (.ok (.ret (.ref (s.heap.push o).objs.size))) { s with heap := (s.heap.push o).push { cls := .type "enumerate", data := .fields #[.none, .bool false, .ref s.heap.objs.size, rawInt 0, .none, .none] } }) :=
  .of_wp fun prog w A R s h => by
    obtain ⟨hp, g, d, tk, os⟩ := s; obtain ⟨h1, h⟩ := h
    have hsub := sub_enumerate
    have q1 : ∀ {A' : Around} {E : Value → Shared → Prop} {Q : Value → Shared → Prop}, Q (.ref hp.objs.size) ⟨hp.push o, g, d, tk, os⟩ → wpAny (model prog w) A' (pyIter v) Q E ⟨hp, g, d, tk, os⟩ :=
      fun q => B.iter prog w _ _ ⟨hp, g, d, tk, os⟩ _ h1 q
    wp_walk using q1
    refine wpAny_stack_any fun st => wpAny_pure ?_
    split
    · rename_i c _ _ _ _ _
      cases (c == Value.type "enumerate")
      · wp_walk using q1
        exact ⟨_, rfl, h⟩
      · wp_walk using q1
        exact ⟨_, rfl, h⟩
    · wp_walk using q1
      exact ⟨_, rfl, h⟩
section
variable {prog : Program} {w : World} {A : Around} {E : Value → Shared → Prop} {s : Shared}
theorem enum_begins1 {v : Value} {o : Obj} {H : Heap → Prop} {Q : Value → Shared → Prop} (B : Begins v o H) (h1 : H s.heap)
    (h : ∀ h', IsEnum h' (s.heap.objs.size + 1) s.heap.objs.size 0 .none → h'.get? s.heap.objs.size = some o → h'.objs.size = s.heap.objs.size + 2 →
      (∀ b o, s.heap.get? b = some o → h'.get? b = some o) → Q (.ref (s.heap.objs.size + 1)) { s with heap := h' }) :
    wpAny (model prog w) A (call (.type "enumerate") [v]) Q E s := by
  refine callType_new F.called_enumerate (by decide) (F.typeCall_enumerate_1 _) (F.newCall_enumerate_1 _) (fun obj => F.args_object_init_2 obj _) F.entry_enumerate_new
    (meets_enumerate_newB1 B) ⟨h1, ?_⟩
  have hz : (s.heap.push o).objs.size = s.heap.objs.size + 1 := Heap.size_push ..
  show _ ∧ _
  rw [hz]
  have he : IsEnum ((s.heap.push o).push { cls := .type "enumerate", data := .fields #[.none, .bool false, .ref s.heap.objs.size, rawInt 0, .none, .none] }) (s.heap.objs.size + 1) s.heap.objs.size 0 .none := by
    have := Heap.get?_push_size (s.heap.push o) (o := { cls := .type "enumerate", data := .fields #[.none, .bool false, .ref s.heap.objs.size, rawInt 0, .none, .none] }) rfl
    rw [hz] at this; exact this
  refine ⟨⟨_, he, rfl⟩, h _ he (Heap.get?_push_of_some _ (Heap.get?_push_size _ B.free)) (by rw [Heap.size_push, hz]) fun b o x => Heap.get?_push_of_some _ (Heap.get?_push_of_some _ x)⟩
end
/-- the tuple at a, each item in a new pair -/
def IteT (K : PySem.W.Frag) (a : Addr) : It :=
  ⟨fun i H => ∃ (xs : List V) (x : V), SqT K H a xs ∧ xs[i]? = some x, fun i H v H' => ∃ T x, v = .ref T ∧ H T = none ∧ H' = upd H T (.tup [.int (i : Nat), x]) ∧ ∀ xs, SqT K H a xs → xs[i]? = some x, fun i H => ∃ xs : List V, SqT K H a xs ∧ xs.length = i⟩
theorem isT_at {h h' : Heap} {it a : Addr} {i : Nat} (x : h.IsTupleIter it a i) (e : ∀ o, h.get? it = some o → h'.get? it = some o) : h'.IsTupleIter it a i := let ⟨o, ho, r⟩ := x; ⟨o, e _ ho, r⟩
theorem turn_enumT {P : Program} {w : World} {K : PySem.W.Frag} {elts : List Expr} {kk : Nat} {tpos : Pos} (a e it : Addr) :
    Turn P w K (.Tuple elts kk tpos) (IteT K a) [e, it] e (fun i h => (∃ old, IsEnum h e it ((i : Nat) : Int) old) ∧ h.IsTupleIter it a i ∧ e ≠ it) where
  mem := by simp
  obj := fun i h st b hb => by
    obtain ⟨⟨old, he⟩, ⟨o, ho, hc, hd⟩, _⟩ := st
    have e' : b = e ∨ b = it := by simpa using hb
    rcases e' with z | z
    · rw [z]; exact ⟨_, he, fun v q => nomatch q⟩
    · rw [z]; exact ⟨o, ho, fun v q => by rw [hd] at q; cases q⟩
  keep := fun i h h' st k => let ⟨⟨old, he⟩, hi, hne⟩ := st; ⟨⟨old, k e (by simp) _ he⟩, hi.at fun o q => k it (by simp) o q, hne⟩
  item := by
    intro X hP hw hK hc i pins s σ H E I hf st hg
    subst hP hw hK
    obtain ⟨⟨old, he⟩, hit, hne⟩ := st
    obtain ⟨xs, x, hq, hx⟩ := hg
    obtain ⟨its, rv, p, hz⟩ := I.tuple hq
    have pt : s.heap.IsTuple a its.toArray := p
    obtain ⟨u, hu, ru⟩ := rv.get hx
    have hel : e < s.heap.objs.size := Heap.lt_size he
    have hil : it < s.heap.objs.size := by obtain ⟨_, q, _⟩ := hit; exact Heap.lt_size q
    have hae : a ≠ e := fun z => by
      obtain ⟨o, ho, hc, _⟩ := pt
      rw [z, he] at ho
      have := Option.some.inj ho
      rw [← this] at hc
      exact absurd (Value.type.inj hc) (by decide)
    have hai : a ≠ it := fun z => by
      obtain ⟨o, ho, hc, _⟩ := pt
      obtain ⟨o2, ho2, hc2, _⟩ := hit
      rw [z, ho2] at ho
      have := Option.some.inj ho
      rw [← this, hc2] at hc
      exact absurd (Value.type.inj hc) (by decide)
    have hlt : i < its.toArray.size := by
      have := (List.getElem?_eq_some_iff.mp hu).1
      simpa using this
    have D := Draws.tuple (prog := X.prog) (w := X.w) (A := X.A.in1) (I.ok.hd hc) it a hai its.toArray
    refine wpAny_pyNext_enum_itemD D he ⟨hit, pt⟩ hlt hne (by simp [Ne.symm hae, hne]) fun x' h' tk hPx ho hit' hT hsz hk => ?_
    have ex : x' = u := by
      have : its.toArray[i]? = some u := by simpa using hu
      rw [this] at hPx
      exact (Option.some.inj hPx).symm
    subst ex
    refine ⟨_, rfl, wpAny_letOwnedTupleGo_enum (s := { s with heap := h', toks := tk + 1 }) ho fun h'' he' sb => ?_⟩
    have hT2 : h''.get? s.heap.objs.size = some { cls := .type "tuple", data := .seq #[.int i tk, x'] } := (sb.2 _ (Nat.ne_of_gt hel)).trans hT
    have new : ObjOk X.prog X.w (upd H s.heap.objs.size (.tup [.int (i : Nat), x])) h'' s.heap.objs.size (.tup [.int (i : Nat), x]) :=
      ⟨by show 2 ≤ sizeLine; decide, [.int i tk, x'], .cons ⟨_, rfl⟩ (.cons ru .nil), ⟨_, hT2, rfl, _, rfl⟩⟩
    have I1 : Inv X pins σ (upd H s.heap.objs.size (.tup [.int (i : Nat), x])) { s with heap := h'', toks := tk + 1 } :=
      I.turnedNew (ch := [e, it]) (fun b ob hb q => (sb.2 b (fun z => hb (by simp [z]))).trans (hk b ob (fun z => hb (by simp [z])) (fun z => hb (by simp [z])) q)) hf (Nat.le_refl _) new
    refine ⟨.ref s.heap.objs.size, _, I1, rfl, ⟨_, x, rfl, I.hok.fresh (Nat.le_refl _), rfl, fun ys hy => by rw [I.tuple_inj hy hq]; exact hx⟩, ⟨⟨x', ?_⟩, hit'.1.at fun o q => (sb.2 it (Ne.symm hne)).trans q, hne⟩, fun b hb => ?_⟩
    · have e1 : ((i + 1 : Nat) : Int) = (i : Int) + 1 := by omega
      rw [e1]; exact he'
    · have hb' : b < s.heap.objs.size := by
        have e' : b = e ∨ b = it := by simpa using hb
        rcases e' with z | z
        · rw [z]; exact hel
        · rw [z]; exact hil
      rw [upd_ne (Nat.ne_of_lt hb')]
      exact (hf b hb).1
  done := by
    intro X hP hw hK hc i pins s σ H E I hf st hg
    subst hP hw hK
    obtain ⟨⟨old, he⟩, hit, hne⟩ := st
    obtain ⟨xs, hq, hx⟩ := hg
    obtain ⟨its, rv, p, hz⟩ := I.tuple hq
    have pt : s.heap.IsTuple a its.toArray := p
    have hai : a ≠ it := fun z => by
      obtain ⟨o, ho, hc, _⟩ := pt
      obtain ⟨o2, ho2, hc2, _⟩ := hit
      rw [z, ho2] at ho
      have := Option.some.inj ho
      rw [← this, hc2] at hc
      exact absurd (Value.type.inj hc) (by decide)
    have D := Draws.tuple (prog := X.prog) (w := X.w) (A := X.A.in1) (I.ok.hd hc) it a hai its.toArray
    obtain ⟨f0, f1, f2, f3, f4, f5⟩ := hf it (by simp)
    have hl := rv.length
    have hi : its.toArray.size = i := by simp; omega
    refine wpAny_pyNext_enum_endD D he ⟨by rw [hi]; exact hit, pt⟩ fun h' eb => ⟨rfl, I.turned (t' := s.toks) (fun b o hb q => eb b o hb q) f0 f1 f3 f4 f5⟩
  self := fun A i s Q E st h => let ⟨⟨_, he⟩, _⟩ := st; wpAny_pyIter_enum he h

def iEnumT (K : PySem.W.Frag) (ta : TA) : TI := fun σ H R => ta σ H fun vs H1 => ∃ a xs, vs = [.ref a] ∧ SqT K H1 a xs ∧ R (IteT K a) H1
theorem pi_enumT {X : Cx} {e : Expr} {ta : TA} {p pos tpos : Pos} {elts : List Expr} {kk : Nat} (hg : Gl X "enumerate") (hm : X.mg "enumerate" = none) (ha : PA X [e] ta) (hs : starEach [e] X.env = [(false, eval e X.env)]) :
    PI X (.Tuple elts kk tpos) (.Call (.Name "enumerate" p) [e] [] pos) (iEnumT X.K ta) := by
  refine ⟨fun pins s σ H R I h => ?_⟩
  refine Call_ (ld_blt I hg hm boot_enumerate (PyProof.Rows.callWith_type1 (thn (ha.run pos pins s σ H _ I h) fun us s1 ⟨vs, H1, I1, r1, q1⟩ => ?_) hs rfl))
  obtain ⟨a, xs, ex, hq, q⟩ := q1
  subst ex
  cases r1 with
  | cons r rr =>
    cases rr
    cases r
    obtain ⟨its, rv, p', hz⟩ := I1.tuple hq
    refine enum_begins1 (begins_tuple a its.toArray) (show s1.heap.IsTuple a its.toArray from p') fun h' he hit hsz hk => wpAny_pyIter_enum he ?_
    have I2 : Inv X pins σ H1 { s1 with heap := h' } := I1.kept (t' := s1.toks) hk
    refine ⟨s1.heap.objs.size + 1, [s1.heap.objs.size + 1, s1.heap.objs.size], _, _, H1, rfl, I2, turn_enumT a (s1.heap.objs.size + 1) s1.heap.objs.size, ⟨⟨.none, he⟩, ⟨_, hit, rfl, rfl⟩, Nat.succ_ne_self _⟩, fun b hb => ?_, q⟩
    have e' : b = s1.heap.objs.size + 1 ∨ b = s1.heap.objs.size := by simpa using hb
    have hle : s1.heap.objs.size ≤ b := by
      rcases e' with z | z
      · rw [z]; exact Nat.le_add_right _ _
      · rw [z]; exact Nat.le_refl _
    exact I1.fpOk hle (I1.hok.fresh hle)
/-! in the layer -/
section
variable {X : Cx} {G : Tab} {W : Wt} {σ : L2.St} {H HF HF' : Hp} {γ : Gam} {E : Ends} {tg : Expr}
def enD : Nat → List D → List D
  | _, [] => []
  | i, d :: ds => .tup [.int i, d] :: enD (i + 1) ds
theorem enD_length : ∀ (ds : List D) (i : Nat), (enD i ds).length = ds.length
  | [], _ => rfl
  | d :: ds, i => by show (enD (i + 1) ds).length + 1 = ds.length + 1; rw [enD_length ds]
theorem enD_get : ∀ (ds : List D) (k i : Nat) (d : D), ds[i]? = some d → (enD k ds)[i]? = some (.tup [.int ((k + i : Nat) : Int), d])
  | [], k, i, d, h => by simp at h
  | d0 :: ds, k, 0, d, h => by simp at h; subst h; rfl
  | d0 :: ds, k, i + 1, d, h => by
    show (enD (k + 1) ds)[i]? = _
    rw [enD_get ds (k + 1) i d (by simpa using h)]
    congr 5
    omega
def mEnum (ms : Gam → Out (List Ar)) : Gam → Out (List D) := fun γ => (ms γ).bind fun as γ1 => match as with
  | [.d (.tup ds)] => .ok (enD 0 ds) γ1
  | _ => .bad
theorem walk_enumT {K : PySem.W.Frag} {a : Addr} {xs : List V} : Walk (IteT K a) xs.length (fun H => SqT K H a xs) (fun i H v H' => ∃ T x, v = .ref T ∧ H T = none ∧ H' = upd H T (.tup [.int (i : Nat), x]) ∧ xs[i]? = some x) := by
  refine ⟨fun i _ hi q => ⟨xs, xs[i], q, by simp [hi]⟩, fun _ q => ⟨xs, q, rfl⟩, fun i H v H' _ q y => ?_⟩
  obtain ⟨T, x, h1, h2, h3, h4⟩ := y
  exact ⟨T, x, h1, h2, h3, h4 xs q⟩
theorem wk_enumT {ds : List D} {a : Addr} {xs : List V} (h1 : SqT X.K HF a xs) (r1 : RepL G HF ds xs) : Wk G (enD 0 ds) (IteT X.K a) HF :=
  wk_of (walk_enumT (K := X.K) (a := a) (xs := xs)) (by rw [enD_length, r1.length]) (fun HF2 H m m2 => SqT.mono (m.trans m2) h1) fun HF2 H i x H' m m2 hi y => by
    obtain ⟨T, v, e1, e2, e3, e4⟩ := y
    obtain ⟨d, ed, rd⟩ := r1.get' e4
    refine ⟨_, enD_get ds 0 i d ed, .inr (.inl ⟨T, [.int (i : Nat), v], [.int ((0 + i : Nat) : Int), d], e1, e2, e3, rfl, .cons ?_ (.one (Rep.mono m _ _ rd))⟩)⟩
    unfold Rep
    rw [Nat.zero_add]
theorem tpi_enum {e : Expr} {ms : Gam → Out (List Ar)} {p pos tpos : Pos} {elts : List Expr} {kk : Nat} (hK : G.K = X.K) (hg : Gl X "enumerate") (hm : X.mg "enumerate" = none) (ha : PA X [e] (tA G W ms)) (hs : starEach [e] X.env = [(false, eval e X.env)]) :
    PI X (.Tuple elts kk tpos) (.Call (.Name "enumerate" p) [e] [] pos) (tI G W (mEnum ms)) :=
  ⟨fun pins s σ H R I h => (pi_enumT hg hm ha hs).run pins s σ H R I (by
    obtain ⟨HF, γ, k, p⟩ := h
    refine ⟨HF, γ, k, post_bind (r1 := rA G) p fun as γ1 vs H1 HF1 k1 s1 r1 p1 => ?_⟩
    split at p1
    · rename_i ds
      cases r1 with
      | cons q t =>
        cases t
        have q2 : Rep G HF1 (.tup ds) _ := q
        unfold Rep at q2
        obtain ⟨a, xs, rfl, h1, l1⟩ := q2
        have h1 := SqT.of (K := X.K) h1
        exact ⟨a, xs, rfl, SqT.mono k1.sub h1, p1 _ H1 HF1 k1 s1 (wk_enumT h1 l1)⟩
    · exact p1.elim)⟩
end
end T

-- text T17
set_option Elab.async false
set_option linter.all false
set_option maxRecDepth 100000
set_option maxHeartbeats 4000000
namespace L2
open PySem PySem.Spec PyProof.Rows
section
variable {prog : Program} {w : World} {A : Around} {E : Value → Shared → Prop} {s : Shared}
theorem fm_congr {α β : Type} {f g : α → Option β} : ∀ {l : List α}, (∀ x ∈ l, f x = g x) → l.filterMap f = l.filterMap g
  | [], _ => rfl
  | a :: l, h => by
    rw [List.filterMap_cons, List.filterMap_cons, h a (by simp), fm_congr fun x hx => h x (by simp [hx])]
theorem pick_rev (xs : Array Value) : ((List.range xs.size).filterMap fun (m : Nat) => xs[(((xs.size : Int) - 1) + (m : Int) * (-1)).toNat]?).toArray = xs.toList.reverse.toArray := by
  have e : (List.range xs.size).filterMap (fun (m : Nat) => xs[(((xs.size : Int) - 1) + (m : Int) * (-1)).toNat]?) = ((List.range xs.size).map fun k => xs.size - 1 - k).filterMap (xs[·]?) := by
    rw [List.filterMap_map]
    refine fm_congr fun m hm => ?_
    have := List.mem_range.mp hm
    show xs[(((xs.size : Int) - 1) + (m : Int) * (-1)).toNat]? = xs[xs.size - 1 - m]?
    have e : (((xs.size : Int) - 1) + (m : Int) * (-1)).toNat = xs.size - 1 - m := by omega
    rw [e]
  rw [e, PySem.W.krv_range, List.filterMap_reverse, PySem.W.krv_all]
theorem sliceApplied_rev {sl : Addr} {vs : Value} {n : Nat} {Q : Int × Int × Nat → Shared → Prop} (hs : s.heap.IsSliceOf sl .none .none vs) (ps : IsPart vs (some (-1)))
    (h : Q (((n : Int) - 1), -1, n) s) : wpAny (model prog w) A (Builtin.Slice.sliceApplied (.ref sl) (pure (n : Int))) Q E s := by
  obtain ⟨os, hos, hcs, hds⟩ := id hs
  unfold Builtin.Slice.sliceApplied Builtin.Slice.sliceFields
  refine wpAny_bind (wpAny_bind (wpAny_field hos hds (x := .none) rfl (wpAny_bind (wpAny_field hos hds (x := .none) rfl (wpAny_bind (wpAny_field hos hds (x := vs) rfl (wpAny_pure ?_)))))))
  refine wpAny_bind (HT.slicePart_ ps ?_)
  show wpAny _ _ (if ((-1 : Int) == 0) = true then _ else _) _ _ s
  rw [if_neg (by decide)]
  refine wpAny_bind (slicePart_none (wpAny_bind (slicePart_none (wpAny_bind (wpAny_pure ?_)))))
  show wpAny _ _ (pure (((n : Int) - 1), (-1 : Int), Builtin.Slice.slicePlaces ((n : Int) - 1) (-1) (-1))) _ _ s
  have e : Builtin.Slice.slicePlaces ((n : Int) - 1) (-1) (-1) = n := by
    unfold Builtin.Slice.slicePlaces
    rw [if_neg (by decide)]
    by_cases h : (n : Int) - 1 > -1
    · rw [if_pos h, show (-(-1) : Int) = 1 from rfl, Int.ediv_one]; omega
    · rw [if_neg h]; omega
  rw [e]
  exact wpAny_pure h
theorem getItem_tuple_rev {t sl : Addr} {items : Array Value} {vs : Value} {Q : Value → Shared → Prop} (ht : IsTup s.heap t items) (hs : s.heap.IsSliceOf sl .none .none vs) (ps : IsPart vs (some (-1)))
    (h : Q (.ref s.heap.objs.size) { s with heap := s.heap.push { cls := .type "tuple", data := .seq items.toList.reverse.toArray } })
    (hsz : items.size ≤ sizeLine) : wpAny (model prog w) A (getItem (.ref t) (.ref sl)) Q E s := by
  have htake : sizeOk (.seq items.toList.reverse.toArray) := by
    show items.toList.reverse.toArray.size ≤ sizeLine
    rw [List.size_toArray, List.length_reverse, Array.length_toList]
    omega
  obtain ⟨os, hos, hcs, hds⟩ := id hs
  have hTs : s.TypeIs (.ref sl) "slice" := ⟨os, hos, hcs⟩
  unfold getItem
  try with_reducible refine wpAny_holding ?_
  first | refine wpAny_bind (wpAny_pure ?_) | skip
  refine wpAny_bind (wpAny_sequenceKey ht.typeIs (by decide) ?_)
  refine wpAny_bind (wpAny_callSpecial?_slot (name := Str.ofString "__getitem__") ht.typeIs PyProof.Rows.slot_tuple_getitem
    (wpAny_call_entry PyProof.Rows.slot_tuple_getitem ht.typeIs entry_tuple_getitem ?_ (args_tuple_getitem _ _)))
  show wpAny _ _ (Builtin.Tuple.tupleItemsOf (.ref t) >>= _) _ _ s
  refine wpAny_bind (tupleItemsOf_ ht ?_)
  refine wpAny_bind (wpAny_typeOf hTs ?_)
  rw [if_pos (by decide)]
  refine wpAny_bind (sliceApplied_rev hs ps ?_)
  have hno : ¬ ((((items.size : Int) - 1) == 0 && (-1 : Int) == 1 && items.size == items.size) = true) := by
    intro q
    rw [Bool.and_eq_true, Bool.and_eq_true] at q
    exact absurd q.1.2 (by decide)
  show wpAny _ _ (if ((((items.size : Int) - 1) == 0 && (-1 : Int) == 1 && items.size == items.size)) = true then _ else _) _ _ s
  rw [if_neg hno, pick_rev]
  first
    | exact wpAny_bind (m := Builtin.Tuple.tupleExact _) (wpAny_newObj_type (wpAny_pure ⟨_, rfl, wpAny_pure h⟩) htake)
    | exact wpAny_bind (m := Builtin.Tuple.tupleExact _) (wpAny_newObj_type (wpAny_bind (wpAny_pure (wpAny_pure ⟨_, rfl, wpAny_pure h⟩))) htake)
    | exact wpAny_bind (wpAny_bind (m := Builtin.Tuple.tupleExact _) (wpAny_newObj_type (wpAny_pure (wpAny_pure ⟨_, rfl, wpAny_pure h⟩)) htake))
    | exact wpAny_bind (wpAny_bind (m := Builtin.Tuple.tupleExact _) (wpAny_newObj_type (wpAny_pure ⟨_, rfl, wpAny_pure h⟩) htake))
end
section
variable {X : Cx}
def tRevT (K : PySem.W.Frag) (te : TE) : TE := fun σ H Q => te σ H fun x H1 => ∃ a xs, x = .ref a ∧ SqT K H1 a xs ∧ ∀ p, H1 p = none → Q (.ref p) (upd H1 p (.tup xs.reverse))
theorem pe_revT {e : Expr} {te : TE} {k : Nat} {p1 p2 p3 pos : Pos} (he : PE X e te) : PE X (.Subscript e (.Slice none none (some (.UnaryOp .USub (.Constant (.int 1) k p1) p2)) p3) pos) (tRevT X.K te) := by
  refine ⟨fun pins s σ H Q I h => ?_⟩
  refine Subscript_ (thn (he.run pins s σ H _ I h) fun v s1 ⟨x, H1, I1, r1, q1⟩ => ?_)
  obtain ⟨a, xs, ex, hx, q⟩ := q1
  subst ex
  cases r1
  have hst : PO X (some (.UnaryOp .USub (.Constant (.int 1) k p1) p2)) (tPart (tUn (rU fun i => .int (-i)) (tC (.int 1)))) := po_some (pe_un un_neg pe_int)
  refine wpAny_Slice (thn (po_none.run pins s1 σ H1 (fun o H2 => o = none ∧ H2 = H1) I1 ⟨rfl, rfl⟩) fun vl s2 ⟨l, H2, I2, pl, el, e2⟩ => ?_)
  subst el e2
  refine thn (po_none.run pins s2 σ H2 (fun o H3 => o = none ∧ H3 = H2) I2 ⟨rfl, rfl⟩) fun vu s3 ⟨u, H3, I3, pu, eu, e3⟩ => ?_
  subst eu e3
  refine thn (hst.run pins s3 σ H3 (fun o H4 => o = some (-1) ∧ H4 = H3) I3 ⟨1, rfl, -1, rfl, rfl, rfl⟩) fun vs s4 ⟨o, H4, I4, ps, eo, e4⟩ => ?_
  subst eo e4
  have I5 : Inv X pins σ H4 { s4 with heap := s4.heap.push { cls := .type "slice", data := .fields #[vl, vu, vs] } } := I4.kept (t' := s4.toks) fun b ob q => Heap.get?_push_of_some _ q
  obtain ⟨its, r, ht, hz⟩ := I5.tuple hx
  have hlen := r.length
  show wpAny (model X.prog X.w) X.A (subscriptTail e (.Slice none none (some (.UnaryOp .USub (.Constant (.int 1) k p1) p2)) p3) (.ref a) (.ref s4.heap.objs.size)) (EP X pins σ Q) X.xe { s4 with heap := s4.heap.push { cls := .type "slice", data := .fields #[vl, vu, vs] } }
  refine tail_any (ops := [.ref a, .ref s4.heap.objs.size]) ht.typeIs (PyProof.Rows.slot_tuple_getitem.lookup) ?_ (by with_unfolding_all rfl)
  cases pl
  cases pu
  refine getItem_tuple_rev ht (Heap.IsSliceOf.new _ .none .none vs) ps ?_ (by rw [List.size_toArray]; omega)
  refine ⟨.ref _, _, I5.laid (t' := s4.toks) (o := .tup xs.reverse) (fun b ob q => Heap.get?_push_of_some _ q) (Nat.le_refl _) ?_, rfl, q _ (I5.hok.fresh (Nat.le_refl _))⟩
  exact ⟨by rw [List.length_reverse]; exact hz, _, r.reverse, IsTup.new _ _⟩
end
end L2

-- text T18
set_option Elab.async false
set_option linter.all false
set_option maxRecDepth 100000
set_option maxHeartbeats 4000000
namespace T
open PySem L2
/-! sorting of ints -/
def insI (x : Int) : List Int → List Int
  | [] => [x]
  | y :: ys => match decide (x ≤ y) with
    | true => x :: y :: ys
    | false => y :: insI x ys
def srt : List Int → List Int
  | [] => []
  | x :: xs => insI x (srt xs)
theorem insI_perm (x : Int) : ∀ ys, (insI x ys).Perm (x :: ys)
  | [] => .refl _
  | y :: ys => by
    unfold insI
    split
    · exact .refl _
    · exact ((insI_perm x ys).cons y).trans (.swap x y ys)
theorem srt_perm : ∀ xs, (srt xs).Perm xs
  | [] => .refl _
  | x :: xs => (insI_perm x (srt xs)).trans ((srt_perm xs).cons x)
theorem insI_sorted (x : Int) : ∀ ys : List Int, ys.Pairwise (· ≤ ·) → (insI x ys).Pairwise (· ≤ ·)
  | [], _ => by simp [insI]
  | y :: ys, h => by
    unfold insI
    obtain ⟨h1, h2⟩ := List.pairwise_cons.mp h
    split
    · rename_i e
      have e := of_decide_eq_true e
      exact List.pairwise_cons.mpr ⟨fun z hz => by
        rcases List.mem_cons.mp hz with rfl | hz
        · exact e
        · exact Int.le_trans e (h1 z hz), h⟩
    · rename_i e
      have e := of_decide_eq_false e
      refine List.pairwise_cons.mpr ⟨fun z hz => ?_, insI_sorted x ys h2⟩
      rcases List.mem_cons.mp ((insI_perm x ys).mem_iff.mp hz) with rfl | hz
      · omega
      · exact h1 z hz
theorem srt_sorted : ∀ xs, (srt xs).Pairwise (· ≤ ·)
  | [] => .nil
  | x :: xs => insI_sorted x _ (srt_sorted xs)
theorem sorted_eq : ∀ {l1 l2 : List Int}, l1.Perm l2 → l1.Pairwise (· ≤ ·) → l2.Pairwise (· ≤ ·) → l1 = l2
  | [], l2, p, _, _ => by
    have := p.length_eq
    cases l2 with
    | nil => rfl
    | cons _ _ => simp at this
  | a :: as, [], p, _, _ => by have := p.length_eq; simp at this
  | a :: as, b :: bs, p, h1, h2 => by
    obtain ⟨h1a, h1b⟩ := List.pairwise_cons.mp h1
    obtain ⟨h2a, h2b⟩ := List.pairwise_cons.mp h2
    have ab : a = b := by
      have m1 : a ∈ b :: bs := p.mem_iff.mp (by simp)
      have m2 : b ∈ a :: as := p.mem_iff.mpr (by simp)
      rcases List.mem_cons.mp m1 with e | m1
      · exact e
      · rcases List.mem_cons.mp m2 with e | m2
        · exact e.symm
        · have q1 := h2a a m1
          have q2 := h1a b m2
          omega
    subst ab
    rw [sorted_eq (List.Perm.cons_inv p) h1b h2b]
theorem srt_uniq {xs ns : List Int} (p : ns.Perm xs) (h : ns.Pairwise (· ≤ ·)) : ns = srt xs := sorted_eq (p.trans (srt_perm xs).symm) h (srt_sorted xs)
def ndup : List Int → List Int
  | [] => []
  | x :: xs => match memI x (ndup xs) with
    | true => ndup xs
    | false => x :: ndup xs
theorem memI_iff {x : Int} : ∀ {xs : List Int}, memI x xs = true ↔ x ∈ xs
  | [] => by simp [memI]
  | y :: ys => by
    unfold memI
    split
    · rename_i e
      simp [of_decide_eq_true e]
    · rename_i e
      have e := of_decide_eq_false e
      rw [memI_iff (xs := ys)]
      simp [Ne.symm e]
theorem ndup_mem {x : Int} : ∀ {xs : List Int}, x ∈ ndup xs ↔ x ∈ xs
  | [] => by simp [ndup]
  | y :: ys => by
    unfold ndup
    split
    · rename_i e
      have e := ndup_mem.mp (memI_iff.mp e)
      rw [ndup_mem (xs := ys), List.mem_cons]
      exact ⟨.inr, fun h => h.elim (fun z => z ▸ e) id⟩
    · rw [List.mem_cons, List.mem_cons, ndup_mem (xs := ys)]
theorem ndup_nodup : ∀ xs : List Int, (ndup xs).Nodup
  | [] => by simp [ndup]
  | y :: ys => by
    unfold ndup
    split
    · exact ndup_nodup ys
    · rename_i e
      refine List.nodup_cons.mpr ⟨fun h => ?_, ndup_nodup ys⟩
      rw [memI_iff.mpr h] at e
      cases e
/-- the members of a set, ascending -/
def setL (xs : List Int) : List Int := srt (ndup xs)
theorem nodup_perm {l1 l2 : List Int} (h1 : l1.Nodup) (h2 : l2.Nodup) (h : ∀ x, x ∈ l1 ↔ x ∈ l2) : l1.Perm l2 := (List.perm_ext_iff_of_nodup h1 h2).mpr h
theorem setL_uniq {xs ns : List Int} (h : ns.Pairwise (· < ·)) (m : ∀ k, k ∈ ns ↔ k ∈ xs) : ns = setL xs := by
  refine srt_uniq (nodup_perm (h.imp fun q => by omega) (ndup_nodup xs) fun k => by rw [m, ndup_mem]) (h.imp fun q => by omega)
theorem setL_len {xs ks : List Int} (h : ks.Nodup) (m : ∀ k, k ∈ ks ↔ k ∈ xs) : ks.length = (setL xs).length := by
  rw [show (setL xs).length = (ndup xs).length from (srt_perm _).length_eq]
  exact (nodup_perm h (ndup_nodup xs) fun k => by rw [m, ndup_mem]).length_eq
def intD : List Int → List D
  | [] => []
  | i :: is => .int i :: intD is
theorem intD_rep {G : Tab} {HF : Hp} : ∀ is : List Int, RepL G HF (intD is) (is.map V.int)
  | [] => .nil
  | i :: is => .cons (by unfold Rep; rfl) (intD_rep is)
section
variable {X : Cx} {G : Tab} {W : Wt} {σ : L2.St} {H HF HF' : Hp} {γ : Gam} {E : Ends}
def rSumB (K : PySem.W.Frag) : List V → Hp → VK → Prop := fun vs H Q => rSumT K vs H Q ∨ rSum K vs H Q
theorem cr_sumB (hc : X.calm = true) : CallR X (.builtin "sum") (rSumB X.K) := by
  intro pins s σ H vs us Q I r h
  rcases h with h | h
  · exact cr_sumT hc pins s σ H vs us Q I r h
  · exact cr_sum hc pins s σ H vs us Q I r h
def bSum : List D → Option BR
  | [.tup ds] => (match intsOf ds with
    | some is => some (.val (.int is.sum))
    | none => none)
  | [.lst ds] => (match intsOf ds with
    | some is => some (.val (.int is.sum))
    | none => none)
  | _ => none
theorem ok_sum (hK : G.K = X.K) : CallOk G (rSumB X.K) bSum := by
  intro H HF xs ds br Q sub p e h
  unfold bSum at e
  split at e
  · rename_i ds
    obtain ⟨v, rfl, q⟩ := pks_one p
    obtain ⟨a, ys, rfl, h1, r⟩ := q.tup sub
    cases q2 : intsOf ds with
    | none => rw [q2] at e; cases e
    | some bs =>
      rw [q2] at e
      cases e
      have ex := intsOf_rep q2 r
      subst ex
      rw [hK] at h1
      exact .inl ⟨a, bs, rfl, h1, h _ H bres_int⟩
  · rename_i ds
    obtain ⟨v, rfl, q⟩ := pks_one p
    obtain ⟨a, ys, rfl, h1, r⟩ := q.lst sub
    cases q2 : intsOf ds with
    | none => rw [q2] at e; cases e
    | some bs =>
      rw [q2] at e
      cases e
      have ex := intsOf_rep q2 r
      subst ex
      exact .inr ⟨a, bs, rfl, SqL.of h1, h _ H bres_int⟩
  · cases e
def bRepr : List D → Option BR
  | [.bl b] => some (.val (.str (bTx b)))
  | _ => none
theorem ok_repr : CallOk G rReprB bRepr := by
  intro H HF xs ds br Q sub p e h
  unfold bRepr at e
  split at e
  · rename_i b
    obtain ⟨v, rfl, q⟩ := pks_one p
    cases e
    exact ⟨b, by rw [q.bl], h _ H ⟨rfl, by unfold Rep; rfl⟩⟩
  · cases e
def bSorted : List D → Option BR
  | [.lst ds] => (match intsOf ds with
    | some is => some (.newL (intD (srt is)))
    | none => none)
  | _ => none
theorem ok_sorted : CallOk G (rSortedI X.K) bSorted := by
  intro H HF xs ds br Q sub p e h
  unfold bSorted at e
  split at e
  · rename_i ds
    obtain ⟨v, rfl, q⟩ := pks_one p
    obtain ⟨a, ys, rfl, h1, r⟩ := q.lst sub
    cases q2 : intsOf ds with
    | none => rw [q2] at e; cases e
    | some bs =>
      rw [q2] at e
      cases e
      have ex := intsOf_rep q2 r
      subst ex
      refine ⟨a, bs, rfl, SqL.of h1, fun ns' l p1 p2 n => ?_⟩
      rw [srt_uniq p1 p2]
      exact h _ _ ⟨l, _, rfl, n, rfl, intD_rep _⟩
  · cases e
/-! sorted(set(t)), len(set(t)) -/
def setOfA : List Ar → Option (List Int)
  | [.d (.tup ds)] => (match intsOf ds with
    | some is => (match Nat.blt is.length 60 with
      | true => some is
      | false => none)
    | none => none)
  | _ => none
def eSortSet (ms : Gam → Out (List Ar)) : Gam → Out R := fun γ => (ms γ).bind fun as γ1 => match setOfA as with
  | some is => .ok (.own (.lst (intD (setL is)))) γ1
  | none => .bad
def eLenSet (ms : Gam → Out (List Ar)) : Gam → Out R := fun γ => (ms γ).bind fun as γ1 => match setOfA as with
  | some is => .ok (.fz (.int (setL is).length)) γ1
  | none => .bad
theorem setOfA_ok {as : List Ar} {is : List Int} {vs : List V} (hK : G.K = X.K) (k : Sub HF H) (r : ArsOk G σ HF as vs) (e : setOfA as = some is) : ∃ p, vs = [.ref p] ∧ SqT X.K H p (is.map V.int) ∧ is.length < 60 := by
  unfold setOfA at e
  split at e
  · rename_i ds
    cases q2 : intsOf ds with
    | none => rw [q2] at e; cases e
    | some bs =>
      rw [q2] at e
      simp only at e
      split at e
      · rename_i hb
        cases e
        cases r with
        | cons q t =>
          cases t
          have q2' : Rep G HF (.tup ds) _ := q
          unfold Rep at q2'
          obtain ⟨a, xs, rfl, h1, l1⟩ := q2'
          have ex := intsOf_rep q2 l1
          subst ex
          have h1 := SqT.of (K := X.K) h1
          exact ⟨a, rfl, SqT.mono k h1, blt_of hb⟩
      · cases e
  · cases e
theorem te_sortSet (hK : G.K = X.K) {ms : Gam → Out (List Ar)} {Q : VK} (h : tE G W (eSortSet ms) σ H Q) : tCB (rSortedSet X.w) (tCons (tCB (rSetT X.K X.w) (tA G W ms)) tNil) σ H Q := by
  obtain ⟨HF, γ, k, p⟩ := h
  refine ⟨HF, γ, k, post_bind (r1 := rA G) p fun as γ1 xs H1 HF1 k1 s1 r1 p1 => ?_⟩
  have p2 := post_from later_E s1 p1
  cases e : setOfA as with
  | none => rw [e] at p2; exact p2.elim
  | some is =>
    rw [e] at p2
    obtain ⟨a, rfl, hq, hl⟩ := setOfA_ok (H := H1) hK k1.sub r1 e
    refine ⟨a, is, rfl, hq, by omega, fun q c ks n nd hm hc => ?_⟩
    refine ⟨q, _, c, rfl, upd_same, ?_, fun ns l p1 p2' p3 n2 => ?_⟩
    · rw [← hc]
      have := setL_len nd hm
      have h2 : (ndup is).length ≤ is.length := by
        have : ∀ xs : List Int, (ndup xs).length ≤ xs.length := fun xs => by
          induction xs with
          | nil => simp [ndup]
          | cons x xs ih =>
            unfold ndup
            split
            · simp; omega
            · simp; omega
        exact this is
      have h3 : (setL is).length = (ndup is).length := (srt_perm _).length_eq
      omega
    · have ens : ns = setL is := setL_uniq p1 fun k => by rw [p2' k, decide_eq_true_eq]
      subst ens
      exact br_fin (br := .newL (intD (setL is))) (k1.laid n) (post_from later_E (Stp.laid n) p2) ⟨l, _, rfl, n2, rfl, intD_rep _⟩
theorem te_lenSet (hK : G.K = X.K) {ms : Gam → Out (List Ar)} {Q : VK} (h : tE G W (eLenSet ms) σ H Q) : tCB (rLenSetO X.w) (tCons (tCB (rSetT X.K X.w) (tA G W ms)) tNil) σ H Q := by
  obtain ⟨HF, γ, k, p⟩ := h
  refine ⟨HF, γ, k, post_bind (r1 := rA G) p fun as γ1 xs H1 HF1 k1 s1 r1 p1 => ?_⟩
  have p2 := post_from later_E s1 p1
  cases e : setOfA as with
  | none => rw [e] at p2; exact p2.elim
  | some is =>
    rw [e] at p2
    obtain ⟨a, rfl, hq, hl⟩ := setOfA_ok (H := H1) hK k1.sub r1 e
    refine ⟨a, is, rfl, hq, by omega, fun q c ks n nd hm hc => ?_⟩
    have hcl : c = (setL is).length := by rw [← hc]; exact setL_len nd hm
    have h2 : (ndup is).length ≤ is.length := by
      have : ∀ xs : List Int, (ndup xs).length ≤ xs.length := fun xs => by
        induction xs with
        | nil => simp [ndup]
        | cons x xs ih =>
          unfold ndup
          split
          · simp; omega
          · simp; omega
      exact this is
    have h3 : (setL is).length = (ndup is).length := (srt_perm _).length_eq
    refine ⟨q, _, c, rfl, upd_same, by omega, ?_⟩
    subst hcl
    exact br_fin (br := .val (.int (setL is).length)) (k1.laid n) (post_from later_E (Stp.laid n) p2) bres_int
theorem tpe_sortSet {x y : Str} {p1 p2 pos pos2 : Pos} {e : Expr} {ms : Gam → Out (List Ar)} (hK : G.K = X.K) (hc : X.calm = true) (hg : Gl X "sorted") (hm : X.mg "sorted" = none) (hg2 : Gl X "set") (hm2 : X.mg "set" = none) (ha : PA X [e] (tA G W ms))
    (he : starEach [e] X.env = (false, eval e X.env) :: starEach [] X.env) (he2 : starEach [.Call (.Name "set" p2) [e] [] pos2] X.env = (false, eval (.Call (.Name "set" p2) [e] [] pos2) X.env) :: starEach [] X.env) :
    PE X (.Call (.Name "sorted" p1) [.Call (.Name "set" p2) [e] [] pos2] [] pos) (tE G W (eSortSet ms)) :=
  ⟨fun pins s σ H Q I h => (pe_callB (cr_sortedSet hc) hg hm rfl (pa_cons (pe_callTy (cr_setT hc) hg2 hm2 rfl ha (he := he)) pa_nil he2) (he := he2)).run pins s σ H Q I (te_sortSet hK h)⟩
theorem tpe_lenSet {x y : Str} {p1 p2 pos pos2 : Pos} {e : Expr} {ms : Gam → Out (List Ar)} (hK : G.K = X.K) (hc : X.calm = true) (hg : Gl X "len") (hm : X.mg "len" = none) (hg2 : Gl X "set") (hm2 : X.mg "set" = none) (ha : PA X [e] (tA G W ms))
    (he : starEach [e] X.env = (false, eval e X.env) :: starEach [] X.env) (he2 : starEach [.Call (.Name "set" p2) [e] [] pos2] X.env = (false, eval (.Call (.Name "set" p2) [e] [] pos2) X.env) :: starEach [] X.env) :
    PE X (.Call (.Name "len" p1) [.Call (.Name "set" p2) [e] [] pos2] [] pos) (tE G W (eLenSet ms)) :=
  ⟨fun pins s σ H Q I h => (pe_callB cr_lenSetO hg hm rfl (pa_cons (pe_callTy (cr_setT hc) hg2 hm2 rfl ha (he := he)) pa_nil he2) (he := he2)).run pins s σ H Q I (te_lenSet hK h)⟩
end
end T

-- text T19
set_option Elab.async false
set_option linter.all false
set_option maxRecDepth 100000
set_option maxHeartbeats 4000000
namespace T
open PySem L2
section
variable {X : Cx} {G : Tab} {W : Wt} {σ : L2.St} {H HF HF' : Hp} {γ : Gam} {E : Ends}
/-! tuple(range(n)), list(range(a, b)) -/
theorem rgD_rep {a : Int} : ∀ (n : Nat), RepL G HF (rgD a n) ((List.range n).map fun i => V.int (a + (i : Nat)))
  | n => by
    have go : ∀ (n : Nat) (a : Int), RepL G HF (rgD a n) ((List.range n).map fun i => V.int (a + (i : Nat))) := by
      intro n
      induction n with
      | zero => intro a; exact .nil
      | succ n ih =>
        intro a
        rw [List.range_succ_eq_map, List.map_cons, List.map_map]
        show RepL G HF (.int a :: rgD (a + 1) n) _
        refine .cons ?_ ?_
        · unfold Rep; show V.int (a + ((0 : Nat) : Int)) = _; rw [show a + ((0 : Nat) : Int) = a by omega]
        · have e : ((fun i => V.int (a + ((i : Nat) : Int))) ∘ Nat.succ) = fun i : Nat => V.int ((a + 1) + (i : Int)) := by
            funext i
            show V.int (a + ((i + 1 : Nat) : Int)) = _
            congr 1
            push_cast
            omega
          rw [e]
          exact ih (a + 1)
    exact go n a
def rgB (a b : Int) : Bool := inRg a && (inRg b && Nat.ble (b - a).toNat 16777216)
theorem rgB_ok {a b : Int} (h : rgB a b = true) : RgOk a b := by
  unfold rgB at h
  obtain ⟨h1, h2⟩ := Bool.and_eq_true_iff.mp h
  obtain ⟨h2, h3⟩ := Bool.and_eq_true_iff.mp h2
  obtain ⟨a1, a2⟩ := inRg_ok h1
  obtain ⟨b1, b2⟩ := inRg_ok h2
  exact ⟨a1, a2, b1, b2, Nat.le_of_ble_eq_true h3⟩
def eTupRg1 (m : Gam → Out Ar) : Gam → Out R := fun γ => (m γ).bind fun a γ1 => match look γ1 a with
  | some (.int j) => (match rgB 0 j with
    | true => .ok (.fz (.tup (rgD 0 (j - 0).toNat))) γ1
    | false => .bad)
  | _ => .bad
def eLstRg2 (m1 m2 : Gam → Out Ar) : Gam → Out R := fun γ => (m1 γ).bind fun a γ1 => (m2 γ1).bind fun b γ2 => match look γ2 a with
  | some (.int i) => (match look γ2 b with
    | some (.int j) => (match rgB i j with
      | true => .ok (.own (.lst (rgD i (j - i).toNat))) γ2
      | false => .bad)
    | _ => .bad)
  | _ => .bad
theorem te_tupRg1 {m : Gam → Out Ar} {Q : VK} (h : tE G W (eTupRg1 m) σ H Q) : tTupRg (tRg1 (tO G W m)) σ H Q := by
  obtain ⟨HF, γ, k, p⟩ := h
  refine ⟨HF, γ, k, post_bind (r1 := rO G) p fun a γ1 x H1 HF1 k1 s1 r1 p1 => ?_⟩
  have p2 := post_from later_E s1 p1
  split at p2
  · rename_i j e
    split at p2
    · rename_i hb
      refine ⟨j, (look_pk k1 r1 e).int, rgB_ok hb, fun q n => ?_⟩
      exact br_fin (br := .newT (rgD 0 (j - 0).toNat)) k1 p2 ⟨q, _, rfl, n, rfl, rgD_rep _⟩
    · exact p2.elim
  · exact p2.elim
theorem te_lstRg2 {m1 m2 : Gam → Out Ar} {Q : VK} (h : tE G W (eLstRg2 m1 m2) σ H Q) : tLstRg (tRg2 (tO G W m1) (tO G W m2)) σ H Q := by
  obtain ⟨HF, γ, k, p⟩ := h
  refine ⟨HF, γ, k, post_bind (r1 := rO G) p fun a γ1 x H1 HF1 k1 s1 r1 p1 => ?_⟩
  refine ⟨HF1, γ1, k1, post_bind (r1 := rO G) (post_from later_E s1 p1) fun b γ2 y H2 HF2 k2 s2 r2 p2 => ?_⟩
  have p2 := post_from later_E s2 p2
  split at p2
  · rename_i i e
    split at p2
    · rename_i j e2
      split at p2
      · rename_i hb
        refine ⟨i, j, (look_pk k2 (ArOk.mono s2.mono r1) e).int, (look_pk k2 r2 e2).int, rgB_ok hb, fun q n => ?_⟩
        exact br_fin (br := .newL (rgD i (j - i).toNat)) k2 p2 ⟨q, _, rfl, n, rfl, rgD_rep _⟩
      · exact p2.elim
    · exact p2.elim
  · exact p2.elim
theorem tpe_tupRg1 {a : Expr} {p p2 pos pos2 : Pos} {m : Gam → Out Ar} (hc : X.calm = true) (hg : Gl X "tuple") (hm : X.mg "tuple" = none) (hg2 : Gl X "range") (hm2 : X.mg "range" = none) (ha : PE X a (tO G W m))
    (na : starEach [a] X.env = (false, eval a X.env) :: starEach [] X.env) (nb : starEach [.Call (.Name "range" p2) [a] [] pos2] X.env = (false, eval (.Call (.Name "range" p2) [a] [] pos2) X.env) :: starEach [] X.env) :
    PE X (.Call (.Name "tuple" p) [.Call (.Name "range" p2) [a] [] pos2] [] pos) (tE G W (eTupRg1 m)) :=
  ⟨fun pins s σ H Q I h => (pe_tupRg hc hg hm (prg_1 hg2 hm2 ha na) nb).run pins s σ H Q I (te_tupRg1 h)⟩
theorem tpe_lstRg2 {a b : Expr} {p p2 pos pos2 : Pos} {m1 m2 : Gam → Out Ar} (hc : X.calm = true) (hg : Gl X "list") (hm : X.mg "list" = none) (hg2 : Gl X "range") (hm2 : X.mg "range" = none) (ha : PE X a (tO G W m1)) (hb : PE X b (tO G W m2))
    (na : starEach [a, b] X.env = (false, eval a X.env) :: starEach [b] X.env) (nb : starEach [b] X.env = (false, eval b X.env) :: starEach [] X.env) (hp : (backTo pos2 (starEach [b] X.env)).any (·.1) = false)
    (nc : starEach [.Call (.Name "range" p2) [a, b] [] pos2] X.env = (false, eval (.Call (.Name "range" p2) [a, b] [] pos2) X.env) :: starEach [] X.env) :
    PE X (.Call (.Name "list" p) [.Call (.Name "range" p2) [a, b] [] pos2] [] pos) (tE G W (eLstRg2 m1 m2)) :=
  ⟨fun pins s σ H Q I h => (pe_listRg hc hg hm (prg_2 hg2 hm2 ha hb na nb hp) nc).run pins s σ H Q I (te_lstRg2 h)⟩
/-! {} -/
def eNewD (t : Bool) : Gam → Out R := fun γ => .ok (.own (.dct t [] [])) γ
theorem te_newD {t : Bool} {Q : VK} (h : tE G W (eNewD t) σ H Q) : ∀ p, H p = none → Q (.ref p) (upd H p (hoD t [] [])) := by
  obtain ⟨HF, γ, k, p⟩ := h
  intro q n
  refine p (.ref q) _ HF (k.laid n) (.laid n) ⟨q, rfl, ⟨[], upd_same, k.hf_none n, rfl, by cases t <;> rfl, .nil⟩, fun j z => ?_, .inl n⟩
  obtain ⟨u, e, _⟩ := k.own z
  rw [n] at e; cases e
theorem tpe_newK {pos : Pos} : PE X (.Dict [] [] pos) (tE G W (eNewD false)) := ⟨fun pins s σ H Q I h => pe_dnewK.run pins s σ H Q I (te_newD h)⟩
theorem tpe_newT {pos : Pos} : PE X (.Dict [] [] pos) (tE G W (eNewD true)) := ⟨fun pins s σ H Q I h => pe_dnewT.run pins s σ H Q I (te_newD h)⟩
/-! t[::-1] -/
def eRev (m : Gam → Out Ar) : Gam → Out R := fun γ => (m γ).bind fun a γ1 => match look γ1 a with
  | some (.tup ds) => .ok (.fz (.tup ds.reverse)) γ1
  | _ => .bad
theorem RepL.reverse : ∀ {ds : List D} {xs : List V}, RepL G HF ds xs → RepL G HF ds.reverse xs.reverse
  | [], xs, h => by unfold RepL at h; subst h; exact .nil
  | d :: ds, xs, h => by
    unfold RepL at h
    obtain ⟨v, vs, rfl, r, q⟩ := h
    rw [List.reverse_cons, List.reverse_cons]
    exact RepL.append (RepL.reverse q) (.one r)
theorem tpe_rev {e : Expr} {k : Nat} {p1 p2 p3 pos : Pos} {m : Gam → Out Ar} (hK : G.K = X.K) (he : PE X e (tO G W m)) : PE X (.Subscript e (.Slice none none (some (.UnaryOp .USub (.Constant (.int 1) k p1) p2)) p3) pos) (tE G W (eRev m)) :=
  ⟨fun pins s σ H Q I h => (pe_revT he).run pins s σ H Q I (by
    obtain ⟨HF, γ, k, p⟩ := h
    refine ⟨HF, γ, k, post_bind (r1 := rO G) p fun a γ1 x H1 HF1 k1 s1 r1 p1 => ?_⟩
    have p2 := post_from later_E s1 p1
    split at p2
    · rename_i ds e
      obtain ⟨b, xs, rfl, h1, r⟩ := (look_pk k1 r1 e).tup k1.sub
      rw [hK] at h1
      exact ⟨b, xs, rfl, h1, fun q n => br_fin (br := .newT ds.reverse) k1 p2 ⟨q, _, rfl, n, rfl, RepL.reverse r⟩⟩
    · exact p2.elim)⟩
/-! x[i] = v -/
theorem tps_setIx {x : Nat} {o i e : Expr} {pos pos2 : Pos} {me mi : Gam → Out Ar} (ho : PE X o (tO G W (oSl x))) (hi : PE X i (tO G W mi)) (he : PE X e (tO G W me))
    (ha : ∀ v, assign (.Subscript o i pos2) X.env v = (do
      let ov ← holding [v] (eval o X.env)
      let iv ← holding [v, ov] (eval i X.env)
      standAt pos2
      holding [v, ov, iv] (setItem ov iv v)
      release [v, ov, iv] [])) (hs : swapsWithSole [.Subscript o i pos2] e pos.line X.env = pure false) (hw : swappedStores [.Subscript o i pos2] e X.env = pure none)
    (h1 : (assignEach [.Subscript o i pos2] X.env).map (·.2) = [assign (.Subscript o i pos2) X.env]) :
    PS X (.Assign [.Subscript o i pos2] e pos) (tS G W (sSetIx x me mi)) :=
  ⟨fun pins s σ H D I h => (ps_asg he (pg_sub ho hi set_list ha) hs hw h1).run pins s σ H D I (ts_setIx h)⟩
/-! a, b = e (a tuple) -/
def sAsg (m : Gam → Out Ar) (f : D → Gam → Option Gam) : Gam → OutS := fun γ => (m γ).toS fun a γ1 => match a with
  | .d d => nxO (f d γ1)
  | .sl _ => .bad
theorem tps_asg {S : List Nat} {tg e : Expr} {pos : Pos} {m : Gam → Out Ar} {f : D → Gam → Option Gam} (he : PE X e (tO G W m)) (hg : PG X tg (tgt G S f)) (hs : swapsWithSole [tg] e pos.line X.env = pure false) (hw : swappedStores [tg] e X.env = pure none)
    (h1 : (assignEach [tg] X.env).map (·.2) = [assign tg X.env]) : PS X (.Assign [tg] e pos) (tS G W (sAsg m f)) :=
  ⟨fun pins s σ H D I h => (ps_asg he hg hs hw h1).run pins s σ H D I (by
    obtain ⟨HF, γ, k, p⟩ := h
    refine ⟨HF, γ, k, postS_bind (r1 := rO G) p fun a γ1 v H1 HF1 k1 s1 r1 p1 => ?_⟩
    cases a with
    | sl i => exact p1.elim
    | d d =>
      refine ⟨HF1, γ1, d, k1, r1, ?_⟩
      cases q : f d γ1 with
      | none => simp only [q] at p1; exact p1.elim
      | some γ2 =>
        simp only [q] at p1
        exact fun σ' k2 s2 _ => postS_from s1 p1 σ' H1 HF1 k2 s2)⟩
end
/-! parallel stores -/
section
variable {X : Cx} {G : Tab} {W : Wt} {σ : L2.St} {H HF HF' : Hp} {γ : Gam} {E : Ends}
theorem ROk2.keep {σ0 : L2.St} {γ0 γ1 γ2 : Gam} {H0 H1 HF1 H2 HF2 : Hp} {r : R} {v : V} (h : ROk2 G σ0 γ0 H0 σ γ1 H1 HF1 r v) (s : Stp σ γ1 H1 HF1 σ γ2 H2 HF2) : ROk2 G σ0 γ0 H0 σ γ2 H2 HF2 r v := by
  cases r with
  | fz d => exact Rep.mono s.mono _ _ h
  | own d =>
    obtain ⟨a, e, o, no, w⟩ := h
    obtain ⟨u, eu, nu⟩ := o.at_
    obtain ⟨f1, f2⟩ := s.frame a (by rw [eu]; simp) no
    refine ⟨a, e, o.keep s.mono (f1.eq o.ntb) ((or_nt f2 o.nt).trans nu), fun j q => ?_, w⟩
    rcases s.own j a q with ⟨i, z⟩ | z
    · exact no i z
    · rw [eu] at z; cases z
theorem store_res2 {σ0 : L2.St} {γ0 γ1 γ2 : Gam} {H0 HF0 H1 HF1 : Hp} {i : Nat} {r : R} {v : V} (k : Ok G σ H1 HF1 γ1) (s : Stp σ0 γ0 H0 HF0 σ γ1 H1 HF1) (rr : ROk2 G σ0 γ0 H0 σ γ1 H1 HF1 r v) (e : stG i r.sl γ1 = some γ2) :
    Ok G (σ.set i (some v)) H1 HF1 γ2 ∧ Stp σ0 γ0 H0 HF0 (σ.set i (some v)) γ2 H1 HF1 ∧ ∀ j a, OwnAt (σ.set i (some v)) γ2 j a → (j = i ∧ ∃ d, r = .own d ∧ v = .ref a) ∨ (j ≠ i ∧ OwnAt σ γ1 j a) := by
  obtain ⟨rfl, hi, t, et, nt⟩ := stG_some e
  have hσ : i < σ.length := by rw [k.len]; exact hi
  have ow : ∀ {j a}, OwnAt (σ.set i (some v)) (γ1.set i r.sl) j a → (j = i ∧ ∃ d, r = .own d ∧ v = .ref a) ∨ (j ≠ i ∧ OwnAt σ γ1 j a) := fun {j a} h => by
    rcases ownAt_set h with ⟨h1, h2, h3⟩ | h
    · cases r with
      | fz d => cases h2
      | own d => exact .inl ⟨h1, d, rfl, h3⟩
    · exact .inr h
  refine ⟨⟨k.subT, by rw [List.length_set, List.length_set]; exact k.len, fun j s' ej => ?_, fun j l a h1 h2 => ?_⟩, ⟨s.mono, s.frame, fun j b h => ?_, fun j s' ej w => ?_⟩, fun j a h => ow h⟩
  · rcases getE_set ej with ⟨rfl, rfl, _⟩ | ⟨n, ej⟩
    · rw [List.getElem?_set_self hσ]
      cases r with
      | fz d => exact ⟨v, rfl, rr⟩
      | own d =>
        obtain ⟨a, ea, o, _⟩ := rr
        exact ⟨a, by rw [ea]; rfl, o⟩
    · rw [List.getElem?_set_ne (Ne.symm n)]
      exact k.sl j s' ej
  · have q1 := ow h1
    have q2 := ow h2
    clear h1 h2
    rcases q1 with ⟨e1, d, ed, ev⟩ | ⟨n1, q1⟩
    · rcases q2 with ⟨e2, _⟩ | ⟨n2, q2⟩
      · exact e1.trans e2.symm
      · subst ed
        obtain ⟨b, eb, o, n, _⟩ := rr
        rw [ev] at eb
        cases eb
        exact absurd q2 (n l)
    · rcases q2 with ⟨e2, d, ed, ev⟩ | ⟨n2, q2⟩
      · subst ed
        obtain ⟨b, eb, o, n, _⟩ := rr
        rw [ev] at eb
        cases eb
        exact absurd q1 (n j)
      · exact k.dis j l a q1 q2
  · rcases ow h with ⟨rfl, d, rfl, rfl⟩ | ⟨n, h⟩
    · obtain ⟨c, ec, _, _, w⟩ := rr
      cases ec
      exact w.symm
    · exact s.own j b h
  · obtain ⟨⟨s1, e1, w1⟩, q⟩ := s.io j s' ej w
    have n : j ≠ i := fun z => by subst z; rw [et] at e1; cases e1; rw [nt] at w1; cases w1
    exact ⟨⟨s1, by rw [List.getElem?_set_ne (Ne.symm n)]; exact e1, w1⟩, by rw [List.getElem?_set_ne (Ne.symm n)]; exact q⟩
/-- two results apart from each other -/
def Apt (r1 : R) (v1 : V) (r2 : R) (v2 : V) : Prop := ∀ d1 d2, r1 = .own d1 → r2 = .own d2 → v1 ≠ v2
theorem apt_of {σ0 : L2.St} {γ0 γ1 γ2 : Gam} {H0 H1 HF1 H2 HF2 : Hp} {r1 r2 : R} {v1 v2 : V} (h1 : ROk2 G σ0 γ0 H0 σ γ1 H1 HF1 r1 v1) (h2 : ROk2 G σ γ1 H1 σ γ2 H2 HF2 r2 v2) : Apt r1 v1 r2 v2 := by
  rintro d1 d2 rfl rfl z
  obtain ⟨a, rfl, o, no, _⟩ := h1
  obtain ⟨b, rfl, _, _, w⟩ := h2
  cases z
  obtain ⟨u, eu, nu⟩ := o.at_
  rcases w with w | ⟨i, w⟩
  · rw [eu] at w; cases w
  · exact no i w
theorem ROk2.kept {σ0 σ' : L2.St} {γ0 γ1 γ2 : Gam} {H0 H1 HF1 : Hp} {r r1 : R} {v v1 : V} {i : Nat} (h : ROk2 G σ0 γ0 H0 σ γ1 H1 HF1 r v) (ap : Apt r1 v1 r v) (ow : ∀ j a, OwnAt σ' γ2 j a → (j = i ∧ ∃ d, r1 = .own d ∧ v1 = .ref a) ∨ (j ≠ i ∧ OwnAt σ γ1 j a)) : ROk2 G σ0 γ0 H0 σ' γ2 H1 HF1 r v := by
  cases r with
  | fz d => exact h
  | own d =>
    obtain ⟨a, e, o, no, w⟩ := h
    refine ⟨a, e, o, fun j q => ?_, w⟩
    rcases ow j a q with ⟨_, d1, e1, e2⟩ | ⟨_, q⟩
    · exact ap d1 d e1 rfl (e2.trans e.symm)
    · exact no j q
def sPar2 (i j : Nat) (m1 m2 : Gam → Out R) : Gam → OutS := fun γ => (m1 γ).toS fun r1 γ1 => (m2 γ1).toS fun r2 γ2 => match stG i r1.sl γ2 with
  | some γ3 => nxO (stG j r2.sl γ3)
  | none => .bad
theorem ts_par2 {i j : Nat} {m1 m2 : Gam → Out R} (h : tS G W (sPar2 i j m1 m2) E σ H) : tPar i j (tCons (tE G W m1) (tCons (tE G W m2) tNil)) E σ H := by
  obtain ⟨HF, γ, k, p⟩ := h
  refine ⟨HF, γ, k, postS_bind (r1 := rE G) p fun r1 γ1 v1 H1 HF1 k1 s1 q1 p1 => ?_⟩
  refine ⟨HF1, γ1, k1, ?_⟩
  cases em : m2 γ1 with
  | bad => rw [em] at p1; exact p1.elim
  | er x γ2 => rw [em] at p1; exact fun c d H' HF' k' s' rr => p1 c d σ H' HF' k' (s1.trans s') rr
  | ok r2 γ2 =>
  rw [em] at p1
  intro v2 H2 HF2 k2 s2 q2
  refine ⟨v1, v2, rfl, ?_⟩
  have q1' := ROk2.keep q1 s2
  have ap := apt_of q1 q2
  have q2' := ROk2.from s1 q2
  have p2 : postS G W σ γ H HF E (match stG i r1.sl γ2 with
    | some γ3 => nxO (stG j r2.sl γ3)
    | none => .bad) := p1
  cases e1 : stG i r1.sl γ2 with
  | none => rw [e1] at p2; exact p2.elim
  | some γ3 =>
    rw [e1] at p2
    obtain ⟨k3, s3, ow3⟩ := store_res2 k2 (s1.trans s2) q1' e1
    cases e2 : stG j r2.sl γ3 with
    | none => simp only [e2] at p2; exact p2.elim
    | some γ4 =>
      simp only [e2] at p2
      obtain ⟨k4, s4, ow4⟩ := store_res2 k3 s3 (ROk2.kept q2' ap ow3) e2
      exact p2 _ H2 HF2 k4 s4
theorem tps_par2 {i j : Nat} {x y : Str} {a b : Expr} {px py pt : Pos} {kt k2 pt2} {pos : Pos} {m1 m2 : Gam → Out R} (hc : X.calm = true) (hN : X.N.Nodup) (hi : X.N[i]? = some x) (hj : X.N[j]? = some y) (hij : i ≠ j)
    (hx : X.env.scope.names.lookup x = some .local) (hy : X.env.scope.names.lookup y = some .local) (ha : PE X a (tE G W m1)) (hb : PE X b (tE G W m2))
    (na : starEach [a, b] X.env = (false, eval a X.env) :: starEach [b] X.env) (nb : starEach [b] X.env = (false, eval b X.env) :: starEach [] X.env)
    (hw : swappedStores [.Tuple [.Name x px, .Name y py] kt pt] (.Tuple [a, b] k2 pt2) X.env = pure (some [x, y]))
    (hs : swapsWithSole [.Tuple [.Name x px, .Name y py] kt pt] (.Tuple [a, b] k2 pt2) pos.line X.env = pure false) :
    PS X (.Assign [.Tuple [.Name x px, .Name y py] kt pt] (.Tuple [a, b] k2 pt2) pos) (tS G W (sPar2 i j m1 m2)) :=
  ⟨fun pins s σ H D I h => (ps_par hc hN hi hj hij hx hy (pa_cons ha (pa_cons hb pa_nil nb) na) hw hs).run pins s σ H D I (ts_par2 h)⟩
def sPar3 (i j l : Nat) (m1 m2 m3 : Gam → Out R) : Gam → OutS := fun γ => (m1 γ).toS fun r1 γ1 => (m2 γ1).toS fun r2 γ2 => (m3 γ2).toS fun r3 γ3 => match stG i r1.sl γ3 with
  | some γ4 => (match stG j r2.sl γ4 with
    | some γ5 => nxO (stG l r3.sl γ5)
    | none => .bad)
  | none => .bad
theorem ts_par3 {i j l : Nat} {m1 m2 m3 : Gam → Out R} (h : tS G W (sPar3 i j l m1 m2 m3) E σ H) : tPar3 i j l (tCons (tE G W m1) (tCons (tE G W m2) (tCons (tE G W m3) tNil))) E σ H := by
  obtain ⟨HF, γ, k, p⟩ := h
  refine ⟨HF, γ, k, postS_bind (r1 := rE G) p fun r1 γ1 v1 H1 HF1 k1 s1 q1 p1 => ?_⟩
  refine ⟨HF1, γ1, k1, ?_⟩
  cases em : m2 γ1 with
  | bad => rw [em] at p1; exact p1.elim
  | er x γ2 => rw [em] at p1; exact fun c d H' HF' k' s' rr => p1 c d σ H' HF' k' (s1.trans s') rr
  | ok r2 γ2 =>
  rw [em] at p1
  intro v2 H2 HF2 k2 s2 q2
  refine ⟨HF2, γ2, k2, ?_⟩
  have p1' : postS G W σ γ H HF E ((m3 γ2).toS fun r3 γ3 => match stG i r1.sl γ3 with
    | some γ4 => (match stG j r2.sl γ4 with
      | some γ5 => nxO (stG l r3.sl γ5)
      | none => .bad)
    | none => .bad) := p1
  cases em3 : m3 γ2 with
  | bad => rw [em3] at p1'; exact p1'.elim
  | er x γ3 => rw [em3] at p1'; exact fun c d H' HF' k' s' rr => p1' c d σ H' HF' k' ((s1.trans s2).trans s') rr
  | ok r3 γ3 =>
  rw [em3] at p1'
  intro v3 H3 HF3 k3 s3 q3
  refine ⟨v1, v2, v3, rfl, ?_⟩
  have q1' := ROk2.keep q1 (s2.trans s3)
  have q2' := ROk2.from s1 (ROk2.keep q2 s3)
  have q3' := ROk2.from (s1.trans s2) q3
  have ap12 := apt_of q1 q2
  have ap13 := apt_of (ROk2.keep q1 s2) q3
  have ap23 := apt_of q2 q3
  have p2 : postS G W σ γ H HF E (match stG i r1.sl γ3 with
    | some γ4 => (match stG j r2.sl γ4 with
      | some γ5 => nxO (stG l r3.sl γ5)
      | none => .bad)
    | none => .bad) := p1'
  cases e1 : stG i r1.sl γ3 with
  | none => rw [e1] at p2; exact p2.elim
  | some γ4 =>
    rw [e1] at p2
    obtain ⟨k4, s4, ow4⟩ := store_res2 k3 ((s1.trans s2).trans s3) q1' e1
    cases e2 : stG j r2.sl γ4 with
    | none => simp only [e2] at p2; exact p2.elim
    | some γ5 =>
      simp only [e2] at p2
      obtain ⟨k5, s5, ow5⟩ := store_res2 k4 s4 (ROk2.kept q2' ap12 ow4) e2
      cases e3 : stG l r3.sl γ5 with
      | none => simp only [e3] at p2; exact p2.elim
      | some γ6 =>
        simp only [e3] at p2
        obtain ⟨k6, s6, ow6⟩ := store_res2 k5 s5 (ROk2.kept (ROk2.kept q3' ap13 ow4) ap23 ow5) e3
        exact p2 _ H3 HF3 k6 s6
theorem tps_par3 {i j l : Nat} {x y z : Str} {a b c : Expr} {px py pz pt : Pos} {kt k2 pt2} {pos : Pos} {m1 m2 m3 : Gam → Out R} (hc : X.calm = true) (hN : X.N.Nodup) (hi : X.N[i]? = some x) (hj : X.N[j]? = some y) (hl : X.N[l]? = some z) (hij : i ≠ j) (hil : i ≠ l) (hjl : j ≠ l)
    (hx : X.env.scope.names.lookup x = some .local) (hy : X.env.scope.names.lookup y = some .local) (hz : X.env.scope.names.lookup z = some .local) (ha : PE X a (tE G W m1)) (hb : PE X b (tE G W m2)) (hc3 : PE X c (tE G W m3))
    (na : starEach [a, b, c] X.env = (false, eval a X.env) :: starEach [b, c] X.env) (nb : starEach [b, c] X.env = (false, eval b X.env) :: starEach [c] X.env) (nc : starEach [c] X.env = (false, eval c X.env) :: starEach [] X.env)
    (hw : swappedStores [.Tuple [.Name x px, .Name y py, .Name z pz] kt pt] (.Tuple [a, b, c] k2 pt2) X.env = pure (some [x, y, z]))
    (hs : swapsWithSole [.Tuple [.Name x px, .Name y py, .Name z pz] kt pt] (.Tuple [a, b, c] k2 pt2) pos.line X.env = pure false) :
    PS X (.Assign [.Tuple [.Name x px, .Name y py, .Name z pz] kt pt] (.Tuple [a, b, c] k2 pt2) pos) (tS G W (sPar3 i j l m1 m2 m3)) :=
  ⟨fun pins s σ H D I h => (ps_par3 hc hN hi hj hl hij hil hjl hx hy hz (pa_cons ha (pa_cons hb (pa_cons hc3 pa_nil nc) nb) na) hw hs).run pins s σ H D I (ts_par3 h)⟩
end
end T

-- text T20
set_option Elab.async false
set_option linter.all false
set_option maxRecDepth 100000
set_option maxHeartbeats 4000000
namespace T
open PySem L2
section
variable {X : Cx} {G : Tab} {W : Wt} {σ : L2.St} {H HF HF' : Hp} {γ : Gam} {E : Ends}
def rLs (G : Tab) : RelK (List D) (List V) := fun _ _ _ _ _ HF' ds xs => RepL G HF' ds xs
theorem later_Ls {G : Tab} : Later (rLs G) := ⟨fun h1 h2 => h2⟩
/-- a generator def's promise -/
def spG (G : Tab) (n : Nat) (F : Gam → Out (List D)) : SpG := fun vs H Q E => vs.length = n ∧ ∃ HF as, Ok G (vs.map some) H HF as ∧ as.all okArg = true ∧ post (rLs G) G (fun cls d _ H' => E cls d H') (vs.map some) as H HF Q (F as)
/-- what the turns hand out -/
def genGo (f : D → Gam → Option Gam) (y : Gam → Out R) : List D → List D → Gam → Out (List D)
  | [], acc, γ => .ok acc γ
  | d :: ds, acc, γ => match f d γ with
    | some γ1 => (match y γ1 with
      | .ok (.fz e) γ2 => (match Nat.blt acc.length 16777216 with
        | true => genGo f y ds (acc ++ [e]) γ2
        | false => .bad)
      | _ => .bad)
    | none => .bad
def fnG (m : Nat) (pre : Gam → OutS) (mi : Gam → Out (List D)) (f : D → Gam → Option Gam) (y : Gam → Out R) : Gam → Out (List D) := fun as => match pre (as ++ List.replicate m .un) with
  | .nx γ => (match mi γ with
    | .ok items γ1 => (match genGo f y items [] γ1 with
      | .ok out γ2 => .ok out (ioOut as γ2)
      | _ => .bad)
    | _ => .bad)
  | _ => .bad
/-- THE RULE for a body: statements, then for x in e: yield y -/
def tGen (G : Tab) (W : Wt) (S : List Nat) (pre : Gam → OutS) (mi : Gam → Out (List D)) (f : D → Gam → Option Gam) (y : Gam → Out R) : TGn :=
  tGThen (tPlain (tS G W pre)) (tGThen (tGFor (tI G W mi) (tgt G S f) (tGThen (tGYield (tE G W y)) tG0)) tG0)
theorem gen_reads {m : Nat} {S : List Nat} {pre : Gam → OutS} {mi : Gam → Out (List D)} {f : D → Gam → Option Gam} {y : Gam → Out R} {n : Nat} {N : List Str} (hN : N.length = n + m) (vs : List V) (Q : List V → Hp → Prop) (E' : XK) (h : spG G n (fnG m pre mi f y) vs H Q E') :
    tGen G (fun cls d _ H' => E' cls d H') S pre mi f y { nx := fun ys _ H' => Q ys H', rt := fun ys v H' => v = .non ∧ Q ys H' } [] (L2.start N vs) H := by
  obtain ⟨hn, HF, as, k, oa, p⟩ := h
  have es : L2.start N vs = vs.map some ++ List.replicate m none := by
    unfold L2.start
    rw [hN, hn, Nat.add_sub_cancel_left]
  rw [es]
  have hl : vs.length = as.length := by simpa using k.len
  refine ⟨HF, as ++ List.replicate m .un, entry_ok k, ?_⟩
  unfold fnG at p
  cases e : pre (as ++ List.replicate m .un) with
  | bad => rw [e] at p; exact p.elim
  | bk γ => rw [e] at p; exact p.elim
  | ct γ => rw [e] at p; exact p.elim
  | rt r γ => rw [e] at p; exact p.elim
  | er x γ => rw [e] at p; exact p.elim
  | nx γ =>
  rw [e] at p
  simp only at p
  intro σ1 H1 HF1 k1 s1
  cases e2 : mi γ with
  | bad => rw [e2] at p; exact p.elim
  | er x γ => rw [e2] at p; exact p.elim
  | ok items γ1 =>
  rw [e2] at p
  simp only at p
  refine ⟨HF1, γ, k1, ?_⟩
  rw [e2]
  intro J H2 HF2 k2 s2 wk
  have s02 := s1.trans s2
  refine ⟨fun i m' ys σ' H' => m' = items.length - i ∧ i ≤ items.length ∧ ∃ HF' γ' acc, Ok G σ' H' HF' γ' ∧ Sub HF2 HF' ∧ Stp (vs.map some ++ List.replicate m none) (as ++ List.replicate m .un) H HF σ' γ' H' HF' ∧ RepL G HF' acc ys ∧
    post (rLs G) G (fun cls d _ H' => E' cls d H') (vs.map some) as H HF Q (match genGo f y (items.drop i) acc γ' with
      | .ok out γ2 => .ok out (ioOut as γ2)
      | _ => .bad), ⟨_, rfl, Nat.zero_le _, HF2, γ1, [], k2, Sub.refl _, s02, .nil, p⟩, ?_⟩
  rintro i m' ys σ' H' ⟨rfl, hi, HF', γ', acc, k', mm', s', ra, p'⟩
  obtain ⟨w1, w2⟩ := wk HF' H' mm' k'.sub
  by_cases hlt : i < items.length
  · refine .inr ⟨(w1 i hlt).1, fun ys3 σ3 H3 => i + 1 ≤ items.length ∧ ∃ HF3 γ3 acc3, Ok G σ3 H3 HF3 γ3 ∧ Sub HF2 HF3 ∧ Stp (vs.map some ++ List.replicate m none) (as ++ List.replicate m .un) H HF σ3 γ3 H3 HF3 ∧ RepL G HF3 acc3 ys3 ∧
      post (rLs G) G (fun cls d _ H' => E' cls d H') (vs.map some) as H HF Q (match genGo f y (items.drop (i + 1)) acc3 γ3 with
        | .ok out γ2 => .ok out (ioOut as γ2)
        | _ => .bad), fun ys3 σ3 H3 q => ⟨items.length - (i + 1), by omega, rfl, q⟩, fun x H'' yy => ?_⟩
    obtain ⟨d, ed, y2⟩ := (w1 i hlt).2 x H'' yy
    obtain ⟨HF3, k3, s3, r3⟩ := yld_ok k' y2
    rw [drop_of hlt ed] at p'
    unfold genGo at p'
    refine ⟨HF3, γ', d, k3, r3, ?_⟩
    cases q : f d γ' with
    | none => rw [q] at p'; exact p'.elim
    | some γ4 =>
      rw [q] at p'
      simp only at p'
      intro σ4 k4 s4 _
      cases qy : y γ4 with
      | bad => rw [qy] at p'; exact p'.elim
      | er x γ5 => rw [qy] at p'; exact p'.elim
      | ok r γ5 =>
        cases r with
        | own d' => rw [qy] at p'; exact p'.elim
        | fz e' =>
          rw [qy] at p'
          simp only at p'
          cases qb : Nat.blt acc.length 16777216 with
          | false => rw [qb] at p'; exact p'.elim
          | true =>
            rw [qb] at p'
            simp only at p'
            refine ⟨by rw [ra.length, size_line]; exact blt_of qb, HF3, γ4, k4, ?_⟩
            rw [qy]
            intro v5 H5 HF5 k5 s5 rr
            have s35 := (s3.trans s4).trans s5
            exact ⟨hlt, HF5, γ5, acc ++ [e'], k5, mm'.trans s35.mono, s'.trans s35, RepL.append (RepL.mono s35.mono _ _ ra) (.one rr), p'⟩
  · have ei : i = items.length := by omega
    subst ei
    refine .inl ⟨w2, ?_⟩
    rw [List.drop_length] at p'
    unfold genGo at p'
    obtain ⟨a1, a2, _⟩ := exit_ok k oa k' s'
    exact p' ys H' HF' a1 a2 ra
/-- list(f(..)), f a generator def -/
def eListG (n : Nat) (F : Gam → Out (List D)) (ms : Gam → Out (List Ar)) : Gam → Out R := fun γ => (ms γ).bind fun ars γ1 => match Nat.beq ars.length n && disA ars with
  | true => (match mkArgs γ1 ars with
    | some as => (match F as with
      | .ok out as' => .ok (.own (.lst out)) (putArgs γ1 ars as')
      | _ => .bad)
    | none => .bad)
  | false => .bad
theorem te_listG {n : Nat} {F : Gam → Out (List D)} {ms : Gam → Out (List Ar)} {Q : VK} (h : tE G W (eListG n F ms) σ H Q) : tListG (tCallG (spG G n F) [] L2.E0 (tA G W ms)) σ H Q := by
  obtain ⟨HF, γ, k, p⟩ := h
  refine ⟨HF, γ, k, post_bind (r1 := rA G) p fun ars γ1 vs H1 HF1 k1 s1 r1 p1 => ?_⟩
  have p1 := post_from later_E s1 p1
  rw [List.append_nil]
  cases hn : Nat.beq ars.length n && disA ars with
  | false => rw [hn] at p1; exact p1.elim
  | true =>
  rw [hn] at p1
  obtain ⟨hb, hd⟩ := Bool.and_eq_true_iff.mp hn
  simp only at p1
  cases hm : mkArgs γ1 ars with
  | none => rw [hm] at p1; exact p1.elim
  | some as =>
  rw [hm] at p1
  simp only at p1
  obtain ⟨ka, oa, ow⟩ := args_ok k1 r1 hm hd
  refine ⟨by rw [arsOk_len r1]; exact Nat.eq_of_beq_eq_true hb, HF1, as, ka, oa, ?_⟩
  cases ef : F as with
  | bad => rw [ef] at p1; exact p1.elim
  | er x as' => rw [ef] at p1; exact p1.elim
  | ok out as' =>
    rw [ef] at p1
    intro xs H2 HF2 k2 s2 rr
    obtain ⟨b1, b2, b3, b4⟩ := args_back k1 r1 hm hd k2 s2
    intro q nq
    exact br_fin (br := .newL out) b1 (post_from later_E b2 p1) ⟨q, xs, rfl, nq, rfl, rr⟩
theorem pass0E {X : Cx} : Passes (CX X.prog X.w) X L2.E0 := fun _ _ _ _ _ _ _ c => by
  obtain ⟨a, B, H', cls, d, z1, fl, z2, ub, z3, z4, z5, z6⟩ := c
  exact z6.elim
theorem tpe_listG {k n : Nat} {f : Addr} {fd : FuncData} {ps : List Str} {F : Gam → Out (List D)} {x : Str} {p p2 pos pos2 : Pos} {e : Expr} {es : List Expr} {ms : Gam → Out (List Ar)} (FO : GFn X.prog X.w X.K X.mg X.base k f fd ps (spG G n F)) (hr : Room k X.A) (hr3 : Room (k + 3) X.A) (hg : Gl X x) (hm : X.mg x = some (.ref f)) (hk : PySem.W.keepIn X.K (.ref f) = true) (hb : Binds X.K fd ps [])
    (hgl : Gl X "list") (hml : X.mg "list" = none) (ha : PA X (e :: es) (tA G W ms)) (hdb : (x == ("__debug__" : Str)) = false) (he : starEach (e :: es) X.env = (false, eval e X.env) :: starEach es X.env) (hpl : (backTo pos2 (starEach es X.env)).any (·.1) = false)
    (hl : starEach [.Call (.Name x p2) (e :: es) [] pos2] X.env = (false, eval (.Call (.Name x p2) (e :: es) [] pos2) X.env) :: starEach [] X.env) :
    PE X (.Call (.Name "list" p) [.Call (.Name x p2) (e :: es) [] pos2] [] pos) (tE G W (eListG n F ms)) :=
  ⟨fun pins s σ H Q I h => (pe_listG (pgen_call FO hr hg hm hk hb .nil ha hdb he hpl) pass0E (fun _ _ _ z => z.elim) hr3 hgl hml rfl (by decide) (by decide) hl).run pins s σ H Q I (te_listG h)⟩
theorem gss_gen {S : List Nat} {st : Stmt} {tg iter : Expr} {e : Expr} {pos p1 p2 : Pos} {pre : Gam → OutS} {mi : Gam → Out (List D)} {f : D → Gam → Option Gam} {y : Gam → Out R} (hp : PassesOwn (model X.prog X.w) X.A X.env X.xe) (hcalm : X.calm = true)
    (h1 : PS X st (tS G W pre)) (hi : PI X tg iter (tI G W mi)) (hg : PG X tg (tgt G S f)) (hy : PE X e (tE G W y)) (hfs : ∀ x, foldedSetIterable iter X.env x = pure x) (hco : X.env.scope.isCoroutine = false) (hin : interactive X.env = false) :
    GSs X [st, .For tg iter [.Expr (.Yield (some e) p1) p2] [] pos] (tGen G W S pre mi f y) :=
  gss_cons (gs_ps h1) (gss_cons (gs_for hp hcalm hi hg (gss_cons (gs_yield hy hco hin) gss_nil) hfs) gss_nil)
end
end T

-- text T21
set_option Elab.async false
set_option linter.all false
set_option maxRecDepth 100000
set_option maxHeartbeats 4000000
namespace T
open PySem L2 PyProof.Rows
section
variable {X : Cx} {G : Tab} {W : Wt}
theorem rd (i : Nat) {x : Str} {pos : Pos} (hN : X.N[i]? = some x := by rfl) (hv : Vis X.env.scope x := by first | exact Or.inl rfl | exact Or.inr (Or.inl rfl) | exact Or.inr (Or.inr rfl)) (hd : (x == ("__debug__" : Str)) = false := by decide) (hcd : (x == ("__classdict__" : Str)) = false := by decide) : PE X (.Name x pos) (tE G W (eRd i)) := te_rd hN hv hd hcd
theorem mv (i : Nat) {x : Str} {pos : Pos} (hN : X.N[i]? = some x := by rfl) (hv : Vis X.env.scope x := by first | exact Or.inl rfl | exact Or.inr (Or.inl rfl) | exact Or.inr (Or.inr rfl)) (hd : (x == ("__debug__" : Str)) = false := by decide) (hcd : (x == ("__classdict__" : Str)) = false := by decide) : PE X (.Name x pos) (tE G W (eMv i)) := te_mv hN hv hd hcd
theorem sl (i : Nat) {x : Str} {pos : Pos} (hN : X.N[i]? = some x := by rfl) (hv : Vis X.env.scope x := by first | exact Or.inl rfl | exact Or.inr (Or.inl rfl) | exact Or.inr (Or.inr rfl)) (hd : (x == ("__debug__" : Str)) = false := by decide) (hcd : (x == ("__classdict__" : Str)) = false := by decide) : PE X (.Name x pos) (tO G W (oSl i)) := to_sl hN hv hd hcd
theorem cI {i : Int} {j : Nat} {pos : Pos} : PE X (.Constant (.int i) j pos) (tE G W (eC (.int i))) := tpe_c pe_int rfl
theorem cB {b : Bool} {j : Nat} {pos : Pos} : PE X (.Constant (.bool b) j pos) (tE G W (eC (.bl b))) := tpe_c pe_bl rfl
theorem cN {j : Nat} {pos : Pos} : PE X (.Constant .none j pos) (tE G W (eC .non)) := tpe_c pe_non rfl
theorem cS {x : Str} {j : Nat} {pos : Pos} : PE X (.Constant (.str x) j pos) (tE G W (eC (.str x))) := tpe_c pe_str rfl
theorem gI {x : Str} {i : Int} {pos : Pos} (hm : ∃ t, X.mg x = some (.int i t)) (hg : Gl X x := by rfl) (hd : (x == ("__debug__" : Str)) = false := by decide) : PE X (.Name x pos) (tE G W (eC (.int i))) := by
  obtain ⟨t, hm⟩ := hm
  exact tpe_c (v := .int i) (pe_glob hg hm ⟨t, rfl⟩ hd) rfl
theorem bT {x : Str} {n : String} {pos : Pos} (hm : X.mg x = none) (hv : bootBuiltins x = some (.type n)) (hg : Gl X x := by rfl) (hn : x ≠ "__name__" := by decide) (hd : (x == ("__debug__" : Str)) = false := by decide) : PE X (.Name x pos) (tE G W (eC (.ty n))) := tpe_c (v := .ty n) (pe_bltn hg hm hv rfl hn hd) rfl
theorem a1 {e : Expr} {es : List Expr} {m : Gam → Out Ar} {ms : Gam → Out (List Ar)} (ha : PE X e (tO G W m)) (hr : PA X es (tA G W ms)) (hs : starEach (e :: es) X.env = (false, eval e X.env) :: starEach es X.env := by rfl) : PA X (e :: es) (tA G W (aCons m ms)) := tpa_cons ha hr hs
theorem aS {e : Expr} {es : List Expr} {p : Pos} {m : Gam → Out Ar} {ms : Gam → Out (List Ar)} (hK : G.K = X.K) (he : PE X e (tO G W m)) (hr : PA X es (tA G W ms)) (hs : starEach (.Starred e p :: es) X.env = (true, eval e X.env) :: starEach es X.env := by rfl) : PA X (.Starred e p :: es) (tA G W (aStar m ms)) := tpa_star hK he hr hs
theorem cb {id : String} {x : Str} {p pos : Pos} {e : Expr} {es : List Expr} {r : List V → Hp → VK → Prop} {f : List D → Option BR} {ms : Gam → Out (List Ar)} (hc : CallR X (.builtin id) r) (F : CallOk G r f) (hm : X.mg x = none) (hv : bootBuiltins x = some (.builtin id)) (ha : PA X (e :: es) (tA G W ms)) (hg : Gl X x := by rfl) (hn : x ≠ "__name__" := by decide) (hdb : (x == ("__debug__" : Str)) = false := by decide)
    (he : starEach (e :: es) X.env = (false, eval e X.env) :: starEach es X.env := by rfl) (hpl : (backTo pos (starEach es X.env)).any (·.1) = false := by rfl) : PE X (.Call (.Name x p) (e :: es) [] pos) (tE G W (eCall f ms)) := tpe_callB hc F hg hm hv ha hn hdb he hpl
theorem ct {id : String} {x : Str} {p pos : Pos} {e : Expr} {es : List Expr} {r : List V → Hp → VK → Prop} {f : List D → Option BR} {ms : Gam → Out (List Ar)} (hc : CallR X (.type id) r) (F : CallOk G r f) (hm : X.mg x = none) (hv : bootBuiltins x = some (.type id)) (ha : PA X (e :: es) (tA G W ms)) (hg : Gl X x := by rfl) (hn : x ≠ "__name__" := by decide) (hdb : (x == ("__debug__" : Str)) = false := by decide)
    (he : starEach (e :: es) X.env = (false, eval e X.env) :: starEach es X.env := by rfl) (hpl : (backTo pos (starEach es X.env)).any (·.1) = false := by rfl) : PE X (.Call (.Name x p) (e :: es) [] pos) (tE G W (eCall f ms)) := tpe_callTy hc F hg hm hv ha hn hdb he hpl
theorem cu {k j n : Nat} {f : Addr} {fd : FuncData} {ps : List Str} {F : Gam → Out R} {x : Str} {p pos : Pos} {e : Expr} {es : List Expr} {ms : Gam → Out (List Ar)} (FO : FnOk X.prog X.w X.K X.mg X.base CX0 k f fd ps (spT G n F)) (hr : Room j X.A) (hm : X.mg x = some (.ref f)) (hk : PySem.W.keepIn X.K (.ref f) = true) (hb : Binds X.K fd ps [])
    (ha : PA X (e :: es) (tA G W ms)) (hj : k ≤ j := by decide) (hg : Gl X x := by rfl) (hdb : (x == ("__debug__" : Str)) = false := by decide) (he : starEach (e :: es) X.env = (false, eval e X.env) :: starEach es X.env := by rfl) (hpl : (backTo pos (starEach es X.env)).any (·.1) = false := by rfl) : PE X (.Call (.Name x p) (e :: es) [] pos) (tE G W (eCallN n F ms)) :=
  tpe_callN FO (hr.mono hj) hg hm hk hb ha hdb he hpl
theorem cg {k j n : Nat} {f : Addr} {fd : FuncData} {ps : List Str} {F : Gam → Out (List D)} {x : Str} {p p2 pos pos2 : Pos} {e : Expr} {es : List Expr} {ms : Gam → Out (List Ar)} (FO : GFn X.prog X.w X.K X.mg X.base k f fd ps (spG G n F)) (hr : Room j X.A) (hm : X.mg x = some (.ref f)) (hk : PySem.W.keepIn X.K (.ref f) = true) (hb : Binds X.K fd ps []) (hml : X.mg "list" = none)
    (ha : PA X (e :: es) (tA G W ms)) (hj : k + 3 ≤ j := by decide) (hg : Gl X x := by rfl) (hgl : Gl X "list" := by rfl) (hdb : (x == ("__debug__" : Str)) = false := by decide) (he : starEach (e :: es) X.env = (false, eval e X.env) :: starEach es X.env := by rfl) (hpl : (backTo pos2 (starEach es X.env)).any (·.1) = false := by rfl)
    (hl : starEach [.Call (.Name x p2) (e :: es) [] pos2] X.env = (false, eval (.Call (.Name x p2) (e :: es) [] pos2) X.env) :: starEach [] X.env := by rfl) :
    PE X (.Call (.Name "list" p) [.Call (.Name x p2) (e :: es) [] pos2] [] pos) (tE G W (eListG n F ms)) := tpe_listG FO (hr.mono (by omega)) (hr.mono hj) hg hm hk hb hgl hml ha hdb he hpl hl
theorem cm {op : CmpOp} {r : R2} {f : D → D → Option BR} {a b : Expr} {pos : Pos} {ma mb : Gam → Out Ar} (ho : OpR X (compareOp op) r) (F : OpOk G r f) (ha : PE X a (tO G W ma)) (hb : PE X b (tO G W mb)) (hm : behindInMarks op b = false := by first | rfl | exact nomark _) : PE X (.Compare a [op] [b] pos) (tE G W (eOp f ma mb)) := tpe_cmp ho F ha hb hm
theorem cmT {op : CmpOp} {r : R2} {f : D → D → Option BR} {a b : Expr} {pos : Pos} {ma mb : Gam → Out Ar} (ho : OpR X (compareOp op) r) (F : OpOk G r f) (ha : PE X a (tO G W ma)) (hb : PE X b (tO G W mb)) (hm : behindInMarks op b = false := by first | rfl | exact nomark _) : PT X (.Compare a [op] [b] pos) (tT G W (toT (eOp f ma mb))) := tpt_cmp ho F ha hb hm
theorem ch {op op' : CmpOp} {r r' : R2} {f f' : D → D → Option BR} {a b c : Expr} {pos : Pos} {ma mb mc : Gam → Out Ar} (ho : OpR X (compareOp op) r) (ho' : OpR X (compareOp op') r') (F : OpOk G r f) (F' : OpOk G r' f') (ha : PE X a (tO G W ma)) (hb : PE X b (tO G W mb)) (hc : PE X c (tO G W mc)) (hm : lastMarks [op, op'] [b, c] = false := by rfl) : PE X (.Compare a [op, op'] [b, c] pos) (tE G W (eChain f f' ma mb mc)) := tpe_chain ho ho' F F' ha hb hc hm
theorem chT {op op' : CmpOp} {r r' : R2} {f f' : D → D → Option BR} {a b c : Expr} {pos : Pos} {ma mb mc : Gam → Out Ar} (ho : OpR X (compareOp op) r) (ho' : OpR X (compareOp op') r') (F : OpOk G r f) (F' : OpOk G r' f') (ha : PE X a (tO G W ma)) (hb : PE X b (tO G W mb)) (hc : PE X c (tO G W mc)) (hm : lastMarks [op, op'] [b, c] = false := by rfl) : PT X (.Compare a [op, op'] [b, c] pos) (tT G W (toT (eChain f f' ma mb mc))) := tpt_chain ho ho' F F' ha hb hc hm
theorem tv {e : Expr} {m : Gam → Out R} (h : PE X e (tE G W m)) (he : ∀ whole, isTrue e X.env whole = (do let v ← whole; standAt e.pos; holding [v] (truthy v)) := by intro _; rfl) : PT X e (tT G W (toT m)) := tpt_val h he
theorem stv (i : Nat) {x : Str} {e : Expr} {pos pos' : Pos} {m : Gam → Out R} (hN : X.N.Nodup) (he : PE X e (tE G W m)) (hi : X.N[i]? = some x := by rfl) (hx : Loc X.env.scope x := by first | exact Or.inl rfl | exact Or.inr rfl) (hs : swapsWith e (some (.Name x pos')) pos.line X.env = pure false := by rfl) (hf : X.fn x = true ∨ X.env.scope.names.lookup x = some .local := by first | exact Or.inl rfl | exact Or.inr rfl) :
    PS X (.Assign [.Name x pos'] e pos) (tS G W (sSet i m)) := tps_set hN hi hx he hs hf
theorem sx {e : Expr} {pos : Pos} {m : Gam → Out R} (he : PE X e (tE G W m)) (hs : swapsWith e none pos.line X.env = pure false := by rfl) : PS X (.Expr e pos) (tS G W (sExpr m)) := tps_expr he hs
theorem gn (i : Nat) {x : Str} {pos : Pos} (hN : X.N.Nodup) (hi : X.N[i]? = some x := by rfl) (hx : Loc X.env.scope x := by first | exact Or.inl rfl | exact Or.inr rfl) (hf : X.fn x = true ∨ X.env.scope.names.lookup x = some .local := by first | exact Or.inl rfl | exact Or.inr rfl) : PG X (.Name x pos) (tgt G [i] (gNm i)) := tpg_name hN hi hx hf
theorem gc {S S' : List Nat} {e : Expr} {es : List Expr} {f : D → Gam → Option Gam} {g : List D → Gam → Option Gam} (h1 : PG X e (tgt G S f)) (h2 : PGs X es (tgts G S' g)) (hs : (assignEach (e :: es) X.env).map (·.2) = assign e X.env :: (assignEach es X.env).map (·.2) := by rfl) : PGs X (e :: es) (tgts G (S ++ S') (gsCons f g)) := tpgs_cons h1 h2 hs
theorem gt {S : List Nat} {es : List Expr} {kk n : Nat} {pos : Pos} {f : List D → Gam → Option Gam} (hK : G.K = X.K) (hc : X.calm = true) (h : PGs X es (tgts G S f)) (hn : (assignEach es X.env).length = n := by rfl) (hst : (assignEach es X.env).findIdx? (·.1) = none := by rfl) : PG X (.Tuple es kk pos) (tgt G S (gTp n f)) := tpg_tup hK hc h hn hst
theorem fr {S : List Nat} {tg iter : Expr} {body : List Stmt} {pos : Pos} {mi : Gam → Out (List D)} {f : D → Gam → Option Gam} {b : Gam → OutS} (hp : PassesOwn (model X.prog X.w) X.A X.env X.xe) (hc : X.calm = true) (hi : PI X tg iter (tI G W mi)) (hg : PG X tg (tgt G S f)) (hb : PSs X body (tS G W b))
    (hs : ∀ x, foldedSetIterable iter X.env x = pure x := by intro _; rfl) : PS X (.For tg iter body [] pos) (tS G W (sFor mi f b)) := tps_for hp hc hi hg hb hs
theorem r1 {tg a : Expr} {ms : Gam → Out (List Ar)} {p pos : Pos} (hm : X.mg "range" = none) (ha : PA X [a] (tA G W ms)) (hg : Gl X "range" := by rfl) (hs : starEach [a] X.env = [(false, eval a X.env)] := by rfl) : PI X tg (.Call (.Name "range" p) [a] [] pos) (tI G W (mRng1 ms)) := tpi_range1 hg hm ha hs
theorem r2 {tg a b : Expr} {ms : Gam → Out (List Ar)} {p pos : Pos} (hm : X.mg "range" = none) (ha : PA X [a, b] (tA G W ms)) (hg : Gl X "range" := by rfl) (hs : starEach [a, b] X.env = [(false, eval a X.env), (false, eval b X.env)] := by rfl) (hs2 : starEach [b] X.env = [(false, eval b X.env)] := by rfl) : PI X tg (.Call (.Name "range" p) [a, b] [] pos) (tI G W (mRng2 ms)) := tpi_range2 hg hm ha hs hs2
theorem zp {e e2 : Expr} {ms : Gam → Out (List Ar)} {p pos tpos : Pos} {elts : List Expr} {kk : Nat} (hK : G.K = X.K) (hm : X.mg "zip" = none) (ha : PA X [e, e2] (tA G W ms)) (hg : Gl X "zip" := by rfl)
    (hs : starEach [e, e2] X.env = (false, eval e X.env) :: starEach [e2] X.env := by rfl) (hpl : (backTo pos (starEach [e2] X.env)).any (·.1) = false := by rfl) : PI X (.Tuple elts kk tpos) (.Call (.Name "zip" p) [e, e2] [] pos) (tI G W (mZip ms)) := tpi_zip hK hg hm ha hs hpl
theorem en {e : Expr} {ms : Gam → Out (List Ar)} {p pos tpos : Pos} {elts : List Expr} {kk : Nat} (hK : G.K = X.K) (hm : X.mg "enumerate" = none) (ha : PA X [e] (tA G W ms)) (hg : Gl X "enumerate" := by rfl) (hs : starEach [e] X.env = [(false, eval e X.env)] := by rfl) : PI X (.Tuple elts kk tpos) (.Call (.Name "enumerate" p) [e] [] pos) (tI G W (mEnum ms)) := tpi_enum hK hg hm ha hs
theorem me {id : String} {name : Str} {apos cpos : Pos} {o e : Expr} {es : List Expr} {i : Nat} {r : V → List V → Hp → VK → Prop} {f : List D → List D → Option (D × List D)} {ms : Gam → Out (List Ar)} (slot : Slot "list" name id) (hty : typeOf (.builtin id) = pure (.type "method_descriptor")) (hm : MtR X id r) (F : MethOk G r f)
    (ho : PE X o (tO G W (oSl i))) (ha : PA X (e :: es) (tA G W ms)) (hbase : attributeBase o name X.env (eval o X.env) = eval o X.env := by rfl)
    (hfew : ((backTo cpos (starEach (e :: es) X.env)).all (fun x => !x.1) && (backToKw cpos (keywordEach [] X.env)).all (fun x => x.1.isSome)
      && decide ((e :: es).length + ([] : List Keyword).length + (if ([] : List Keyword).isEmpty then 0 else 1) < 30)) = true := by rfl)
    (hline : (apos.endLine == cpos.line) = true := by rfl) (hs : starEach (e :: es) X.env = (false, eval e X.env) :: starEach es X.env := by rfl) (hplain : (backTo cpos (starEach es X.env)).any (·.1) = false := by rfl) :
    PE X (.Call (.Attribute o name apos) (e :: es) [] cpos) (tE G W (eMeth i f ms)) := tpe_meth slot hty hm F ho ha hbase hfew hline hs hplain
theorem si {x : Nat} {o i e : Expr} {pos pos2 : Pos} {me mi : Gam → Out Ar} (ho : PE X o (tO G W (oSl x))) (hi : PE X i (tO G W mi)) (he : PE X e (tO G W me))
    (ha : ∀ v, assign (.Subscript o i pos2) X.env v = (do
      let ov ← holding [v] (eval o X.env)
      let iv ← holding [v, ov] (eval i X.env)
      standAt pos2
      holding [v, ov, iv] (setItem ov iv v)
      release [v, ov, iv] []) := by intro _; rfl) (hs : swapsWithSole [.Subscript o i pos2] e pos.line X.env = pure false := by rfl) (hw : swappedStores [.Subscript o i pos2] e X.env = pure none := by rfl)
    (h1 : (assignEach [.Subscript o i pos2] X.env).map (·.2) = [assign (.Subscript o i pos2) X.env] := by rfl) : PS X (.Assign [.Subscript o i pos2] e pos) (tS G W (sSetIx x me mi)) := tps_setIx ho hi he ha hs hw h1
theorem sa {S : List Nat} {tg e : Expr} {pos : Pos} {m : Gam → Out Ar} {f : D → Gam → Option Gam} (he : PE X e (tO G W m)) (hg : PG X tg (tgt G S f)) (hs : swapsWithSole [tg] e pos.line X.env = pure false := by rfl) (hw : swappedStores [tg] e X.env = pure none := by rfl)
    (h1 : (assignEach [tg] X.env).map (·.2) = [assign tg X.env] := by rfl) : PS X (.Assign [tg] e pos) (tS G W (sAsg m f)) := tps_asg he hg hs hw h1
end
end T

-- text T22
set_option Elab.async false
set_option linter.all false
set_option maxRecDepth 100000
set_option maxHeartbeats 4000000
namespace T
open PySem L2 PyProof.Rows
/-! a locked dict, whatever its keys are -/
/-- the i-th pair of the dict u -/
def KVat (H : Hp) (u : HO) (i : Nat) (x v : V) : Prop := match u with
  | .dK kvs => ∃ k, kvs[i]? = some (k, v) ∧ x = kV k
  | .dT kvs => ∃ (k : List Key) (q : Addr), kvs[i]? = some (k, v) ∧ x = .ref q ∧ H q = some (.tup (k.map kV))
  | _ => False
def hoN : HO → Nat
  | .dK kvs => kvs.length
  | .dT kvs => kvs.length
  | _ => 0
def hoB : HO → Bool
  | .dK _ => true
  | .dT _ => true
  | _ => false
theorem pairs_at {P : Program} {w : World} : ∀ {es : List DictEntry} {vs : List (Key × Value)} {i : Nat} {k : Key} {u : Value}, Pairs (mixKind P w) es vs → vs[i]? = some (k, u) → ∃ en, es[i]? = some en ∧ keyIs k en.key = true ∧ en.val = u := by
  intro es vs i k u h e
  have hl := h.length
  have hi : i < es.length := by rw [hl]; exact (List.getElem?_eq_some_iff.mp e).1
  obtain ⟨a, b⟩ := h.get? (e := es[i]) (by simp [hi]) e
  exact ⟨es[i], List.getElem?_eq_getElem hi, a, b⟩
section
variable {X : Cx} {pins : List (Addr × Obj)} {σ : L2.St} {H : Hp} {s : Shared} {d : Addr} {o : Obj} {u : HO}
theorem raw_of (I : Inv X pins σ H s) (h : H d = some (.frz o u)) (hb : hoB u = true) :
    (d == sysModules) = false ∧ ∃ (es : Array DictEntry) (ep : Nat), s.heap.get? d = some o ∧ o.ExactDict ∧ o.data = .dict es ep ∧ es.size = hoN u ∧
      ∀ i, i < hoN u → ∃ (hi : i < es.size) (x v : V), RelV x es[i].key ∧ RelV v es[i].val ∧ KVat H u i x v := by
  cases u with
  | dK kvs =>
    obtain ⟨e1, z, e2, vs, kv, ob, es, ep, e3, e4, e5, e6, e7, e8⟩ := I.hok d _ h
    rw [e1] at e3
    cases e3
    have l1 := e7.length
    have l2 : kvs.length = vs.length := Paired.length kv
    rw [Array.length_toList] at l1
    refine ⟨e2, es, ep, e1, e4, e5, l1.trans l2.symm, fun i hi => ?_⟩
    have hi : i < kvs.length := hi
    obtain ⟨r, hr, rr⟩ := kv_get kv (k := kvs[i].1) (v := kvs[i].2) (List.getElem?_eq_getElem hi)
    obtain ⟨en, g1, g2, g3⟩ := pairs_at e7 hr
    have hie : i < es.size := by omega
    have g1' : es[i] = en := by
      have q : es.toList[i]? = some es[i] := by simp [hie]
      rw [q] at g1
      exact Option.some.inj g1
    refine ⟨hie, kV kvs[i].1, kvs[i].2, ?_, ?_, kvs[i].1, List.getElem?_eq_getElem hi, rfl⟩
    · rw [g1']; exact relV_key g2
    · rw [g1', g3]; exact rr
  | dT kvs =>
    obtain ⟨e1, z, e2, xs, pr, ob, es, ep, e3, e4, e5, e6, e7⟩ := I.hok d _ h
    rw [e1] at e3
    cases e3
    have l1 : es.size = xs.length := size_of_entries e6
    have l2 : kvs.length = xs.length := Paired.length pr
    refine ⟨e2, es, ep, e1, e4, e5, l1.trans l2.symm, fun i hi => ?_⟩
    have hi : i < kvs.length := hi
    obtain ⟨b, hb, q1, q2, q3⟩ := paired_get pr (List.getElem?_eq_getElem hi)
    have g := entry_at e6 i
    rw [hb] at g
    have hie : i < es.size := by omega
    have g1' : es[i] = entryOfKey (tupleKind (mixKind X.prog X.w)) b := by
      rw [Array.getElem?_eq_getElem hie] at g
      exact Option.some.inj g
    refine ⟨hie, .ref b.2.1, kvs[i].2, ?_, ?_, kvs[i].1, b.2.1, List.getElem?_eq_getElem hi, rfl, q2⟩
    · rw [g1']; exact rfl
    · rw [g1']; exact q3
  | _ => cases hb
end
/-- pairs of a locked dict, each in a new tuple -/
def ItP (d : Addr) (o : Obj) (u : HO) : It :=
  ⟨fun i H => H d = some (.frz o u) ∧ i < hoN u, fun i H x H' => ∃ T y v, x = .ref T ∧ H T = none ∧ H' = upd H T (.tup [y, v]) ∧ KVat H u i y v, fun i H => H d = some (.frz o u) ∧ hoN u ≤ i⟩
/-- values of a locked dict -/
def ItV (d : Addr) (o : Obj) (u : HO) : It :=
  ⟨fun i H => H d = some (.frz o u) ∧ i < hoN u, fun i H x H' => H' = H ∧ ∃ y, KVat H u i y x, fun i H => H d = some (.frz o u) ∧ hoN u ≤ i⟩
section
variable {P : Program} {w : World} {K : PySem.W.Frag} {d : Addr} {o : Obj} {es : Array DictEntry} {ep : Nat} {u : HO}
theorem one_mem {a b : Addr} (h : b ∈ [a]) : b = a := by simpa using h
theorem turnP {elts : List Expr} {kk : Nat} {tpos : Pos} (it : Addr) (hb : hoB u = true) (hod : o.data = .dict es ep) :
    Turn P w K (.Tuple elts kk tpos) (ItP d o u) [it] it (fun i h => ∃ ok ov, IsItemIter h it d i es.size ep ok ov) where
  mem := List.mem_singleton.mpr rfl
  obj := fun i h st b hb => by
    obtain ⟨ok, ov, e⟩ := st
    rw [one_mem hb]
    exact ⟨_, e, fun v z => nomatch z⟩
  keep := fun i h h' ⟨ok, ov, e⟩ k => ⟨ok, ov, k it (List.mem_singleton.mpr rfl) _ e⟩
  self := fun A i s Q E ⟨_, _, e⟩ h => PySem.W.kcp_self e h
  item := by
    intro X eP ew eK hc i pins s σ H E I hf st ⟨hd, hi⟩
    cases eP; cases ew; cases eK
    obtain ⟨hs, es', ep', g1, g2, g3, g4, g5⟩ := raw_of I hd hb
    obtain ⟨rfl, rfl⟩ := dict_ep hod g3
    obtain ⟨hie, x, v, rx, rv, kv⟩ := g5 i hi
    obtain ⟨ok, ov, he⟩ := st
    have lt : it < s.heap.objs.size := Heap.lt_size he
    refine wpAny_pyNext_items_item_raw he ⟨o, g1, g2, g3⟩ hie fun h1 ho hT hz hk => ⟨_, rfl, wpAny_letOwnedTupleGo_items (s := { s with heap := h1 }) ho fun h2 he2 sb => ?_⟩
    have hT2 : h2.get? s.heap.objs.size = some { cls := .type "tuple", data := .seq #[es'[i].key, es'[i].val] } := (sb.2 _ (Nat.ne_of_gt lt)).trans hT
    have fr : ∀ b ob, b ∉ [it] → s.heap.get? b = some ob → h2.get? b = some ob := fun b ob nb e => by
      have nb : b ≠ it := fun z => nb (List.mem_singleton.mpr z)
      exact (sb.2 b nb).trans (hk b ob nb e)
    refine ⟨.ref s.heap.objs.size, upd H s.heap.objs.size (.tup [x, v]), I.turnedNew (t' := s.toks) (ch := [it]) fr hf (Nat.le_refl _) ?_, rfl, ⟨_, x, v, rfl, I.hok.fresh (Nat.le_refl _), rfl, kv⟩, ⟨_, _, he2⟩, fun b hb => ?_⟩
    · exact ⟨show 2 ≤ sizeLine by decide, [es'[i].key, es'[i].val], .cons rx (.cons rv .nil), ⟨_, hT2, rfl, _, rfl⟩⟩
    · cases one_mem hb
      rw [upd_ne (Nat.ne_of_lt lt)]
      exact (hf it (List.mem_singleton.mpr rfl)).1
  done := by
    intro X eP ew eK hc i pins s σ H E I hf ⟨ok, ov, he⟩ ⟨hd, hi⟩
    cases eP; cases ew; cases eK
    obtain ⟨f0, f1, f2, f3, f4, f5⟩ := hf it (List.mem_singleton.mpr rfl)
    obtain ⟨hs, es', ep', g1, g2, g3, g4, g5⟩ := raw_of I hd hb
    obtain ⟨rfl, rfl⟩ := dict_ep hod g3
    exact wpAny_pyNext_items_end_raw (I.ok.hd hc) he ⟨o, g1, g2, g3⟩ (by omega) fun h1 eb => ⟨rfl, I.turned (t' := s.toks) (fun b ob n e => eb b ob n e) f0 f1 f3 f4 f5⟩
theorem turnV {tg : Expr} (it : Addr) (hb : hoB u = true) (hod : o.data = .dict es ep) : Turn P w K tg (ItV d o u) [it] it (fun i h => h.IsValIter it d i es.size ep) where
  mem := List.mem_singleton.mpr rfl
  obj := fun i h st b hb => by
    obtain ⟨oi, e, c, dd⟩ := st
    rw [one_mem hb]
    exact ⟨oi, e, fun v z => by rw [dd] at z; cases z⟩
  keep := fun i h h' st k => st.at fun oi e => k it (List.mem_singleton.mpr rfl) oi e
  self := fun A i s Q E st h => wpAny_pyIter_valiter st h
  item := by
    intro X eP ew eK hc i pins s σ H E I hf st ⟨hd, hi⟩
    cases eP; cases ew; cases eK
    obtain ⟨f0, f1, f2, f3, f4, f5⟩ := hf it (List.mem_singleton.mpr rfl)
    obtain ⟨hs, es', ep', g1, g2, g3, g4, g5⟩ := raw_of I hd hb
    obtain ⟨rfl, rfl⟩ := dict_ep hod g3
    obtain ⟨hie, x, v, rx, rv, kv⟩ := g5 i hi
    refine wpAny_pyNext_values_item_raw st ⟨o, g1, g2, g3⟩ hie fun h1 st1 sb => ?_
    obtain ⟨oi, e, c, dd⟩ := id st1
    exact ⟨_, rfl, go_of (s := { s with heap := h1 }) e c dd (by decide) ⟨v, H, I.turned (t' := s.toks) (fun b ob n e => (sb.2 b n).trans e) f0 f1 f3 f4 f5, rv, ⟨rfl, x, kv⟩, st1, fun b hb => (hf b hb).1⟩⟩
  done := by
    intro X eP ew eK hc i pins s σ H E I hf st ⟨hd, hi⟩
    cases eP; cases ew; cases eK
    obtain ⟨f0, f1, f2, f3, f4, f5⟩ := hf it (List.mem_singleton.mpr rfl)
    obtain ⟨hs, es', ep', g1, g2, g3, g4, g5⟩ := raw_of I hd hb
    obtain ⟨rfl, rfl⟩ := dict_ep hod g3
    exact wpAny_pyNext_values_end_raw (I.ok.hd hc) st ⟨o, g1, g2, g3⟩ (by omega) fun h1 eb => ⟨rfl, I.turned (t' := s.toks) (fun b ob n e => eb b ob n e) f0 f1 f3 f4 f5⟩
end
def iLk (mk : Addr → Obj → HO → It) (td : TE) : TI := fun σ H R => td σ H fun x H1 => ∃ d o u, x = .ref d ∧ H1 d = some (.frz o u) ∧ hoB u = true ∧ R (mk d o u) H1
section
variable {X : Cx} {e : Expr} {td : TE} {apos cpos : Pos}
theorem pi_itemsD {elts : List Expr} {kk : Nat} {tpos : Pos} (he : PE X e td) (hbase : attributeBase e "items" X.env (eval e X.env) = eval e X.env) (hline : (apos.endLine == cpos.line) = true) :
    PI X (.Tuple elts kk tpos) (.Call (.Attribute e "items" apos) [] [] cpos) (iLk ItP td) := by
  refine ⟨fun pins s σ H R I h => ?_⟩
  refine wpAny_Call_method (T := "dict") (id := "dict.items") hbase rfl hline F.plainAttrs_dict F.slot_dict_items F.type_dict_items (thn (he.run pins s σ H _ I h) fun r s1 ⟨x, H1, I1, rx, d, o, u, ex, hd, hb, q⟩ => ?_)
  subst ex
  cases (show r = Value.ref d from rx)
  obtain ⟨hs, es, ep, g1, g2, g3, g4, g5⟩ := raw_of I1 hd hb
  have raw : s1.heap.DictRaw d es ep := ⟨o, g1, g2, g3⟩
  refine ⟨raw.typeIs, fun a e => by cases e; exact ⟨o, g1, g2.2.1⟩, ?_⟩
  refine method_meetsIn F.slot_dict_items F.entry_dict_items rfl (PySem.evalArgs_none ⟨rfl, raw.typeIs, F.args_dict_items_1 _, _, meets_dict_items_raw d hs, ⟨es, ep, raw⟩, ?_⟩)
  have I2 : Inv X pins σ H1 { s1 with heap := s1.heap.push { cls := .type "dict_items", data := .fields #[.ref d] } } := I1.kept (t' := s1.toks) fun b ob q => Heap.get?_push_of_some _ q
  exact wpAny_pyIter_items_raw (d := d) ⟨_, Heap.get?_push_size _ rfl, rfl, rfl⟩ (raw.push _) (pi_one (tk := s1.toks) I2 _ (turnP _ hb g3) ⟨.none, .none, Heap.get?_push_size _ rfl⟩ q)
theorem pi_valuesD {tg : Expr} (he : PE X e td) (hbase : attributeBase e "values" X.env (eval e X.env) = eval e X.env) (hline : (apos.endLine == cpos.line) = true) :
    PI X tg (.Call (.Attribute e "values" apos) [] [] cpos) (iLk ItV td) := by
  refine ⟨fun pins s σ H R I h => ?_⟩
  refine wpAny_Call_method (T := "dict") (id := "dict.values") hbase rfl hline F.plainAttrs_dict F.slot_dict_values F.type_dict_values (thn (he.run pins s σ H _ I h) fun r s1 ⟨x, H1, I1, rx, d, o, u, ex, hd, hb, q⟩ => ?_)
  subst ex
  cases (show r = Value.ref d from rx)
  obtain ⟨hs, es, ep, g1, g2, g3, g4, g5⟩ := raw_of I1 hd hb
  have raw : s1.heap.DictRaw d es ep := ⟨o, g1, g2, g3⟩
  refine ⟨raw.typeIs, fun a e => by cases e; exact ⟨o, g1, g2.2.1⟩, ?_⟩
  refine method_meetsIn F.slot_dict_values F.entry_dict_values rfl (PySem.evalArgs_none ⟨rfl, raw.typeIs, F.args_dict_values_1 _, _, meets_dict_values_raw d hs, ⟨es, ep, raw⟩, ?_⟩)
  have I2 : Inv X pins σ H1 { s1 with heap := s1.heap.push { cls := .type "dict_values", data := .fields #[.ref d] } } := I1.kept (t' := s1.toks) fun b ob q => Heap.get?_push_of_some _ q
  exact wpAny_pyIter_values_raw (d := d) ⟨_, Heap.get?_push_size _ rfl, rfl, rfl⟩ (raw.push _) (pi_one (tk := s1.toks) I2 _ (turnV _ hb g3) ⟨_, Heap.get?_push_size _ rfl, rfl, rfl⟩ q)
end
end T

-- text T23
set_option Elab.async false
set_option linter.all false
set_option maxRecDepth 100000
set_option maxHeartbeats 4000000
namespace T
open PySem L2 PyProof.Rows
section
variable {X : Cx} {G : Tab} {W : Wt} {σ : L2.St} {H HF HF' : Hp} {γ : Gam} {E : Ends} {tg : Expr}
theorem hoD_b {t : Bool} {ks : List (List Key)} {xs : List V} : hoB (hoD t ks xs) = true := by cases t <;> rfl
theorem hoD_n {t : Bool} {ks : List (List Key)} {xs : List V} (h : xs.length = ks.length) : hoN (hoD t ks xs) = ks.length := by
  cases t <;> simp [hoD, hoN, h]
/-- a pair of the dict, as data -/
theorem kvat_ok {t : Bool} {ks : List (List Key)} {xs : List V} {i : Nat} {x v : V} (h : KVat H (hoD t ks xs) i x v) : ∃ k, ks[i]? = some k ∧ xs[i]? = some v ∧
    ((t = false ∧ x = kV (kHd k)) ∨ (t = true ∧ ∃ q, x = .ref q ∧ H q = some (.tup (k.map kV)))) := by
  cases t with
  | false =>
    obtain ⟨k, e, ex⟩ := h
    obtain ⟨z1, z2⟩ := zip_at e
    rw [List.getElem?_map] at z1
    obtain ⟨kk, g1, g2⟩ := Option.map_eq_some_iff.mp z1
    exact ⟨kk, g1, z2, .inl ⟨rfl, by rw [g2]; exact ex⟩⟩
  | true =>
    obtain ⟨k, q, e, ex, eq⟩ := h
    obtain ⟨z1, z2⟩ := zip_at e
    exact ⟨k, z1, z2, .inr ⟨rfl, q, ex, eq⟩⟩
def itD (t : Bool) : List (List Key) → List D → List D
  | k :: ks, d :: ds => .tup [kOf t k, d] :: itD t ks ds
  | _, _ => []
theorem itD_length {t : Bool} : ∀ {ks : List (List Key)} {ds : List D}, ks.length = ds.length → (itD t ks ds).length = ks.length
  | [], ds, _ => by cases ds <;> rfl
  | k :: ks, [], h => by cases h
  | k :: ks, d :: ds, h => by
    show (itD t ks ds).length + 1 = ks.length + 1
    rw [itD_length (by simpa using h)]
theorem itD_get {t : Bool} : ∀ {ks : List (List Key)} {ds : List D} {i : Nat} {k : List Key} {d : D}, ks[i]? = some k → ds[i]? = some d → (itD t ks ds)[i]? = some (.tup [kOf t k, d])
  | [], ds, i, k, d, h, _ => by simp at h
  | k :: ks, [], i, _, _, _, h => by simp at h
  | k :: ks, d :: ds, 0, _, _, h, h2 => by simp at h h2; subst h; subst h2; rfl
  | k :: ks, d :: ds, i + 1, _, _, h, h2 => itD_get (ks := ks) (ds := ds) (i := i) (by simpa using h) (by simpa using h2)
theorem wk_itemsD {t : Bool} {ks : List (List Key)} {ds : List D} {a : Addr} {od : Obj} {xs : List V} (h : HF a = some (.frz od (hoD t ks xs))) (l : ks.length = ds.length) (r : RepL G HF ds xs) : Wk G (itD t ks ds) (ItP a od (hoD t ks xs)) HF := by
  intro HF2 H2 m m2
  have lx : xs.length = ks.length := by rw [r.length, l]
  have hn := hoD_n (t := t) lx
  have at2 := m2 _ _ (m _ _ h)
  refine ⟨fun i hi => ⟨⟨at2, by rw [hn]; rw [itD_length l] at hi; exact hi⟩, fun x H' y => ?_⟩, at2, by rw [hn, itD_length l]; exact Nat.le_refl _⟩
  obtain ⟨T, y, v, e1, e2, e3, e4⟩ := y
  obtain ⟨k, g1, g2, g3⟩ := kvat_ok e4
  obtain ⟨d, g4, g5⟩ := r.get' g2
  refine ⟨_, itD_get g1 g4, ?_⟩
  rcases g3 with ⟨rfl, g3⟩ | ⟨rfl, q, g3, g6⟩
  · refine .inr (.inl ⟨T, _, _, e1, e2, e3, rfl, .cons ?_ (.one (Rep.mono m _ _ g5))⟩)
    rw [g3]
    exact kD_rep
  · subst e3
    obtain ⟨HF3, f1, f2, f3, f4⟩ := tup_fz (G := G) m2 g6 kDs_rep
    have nT : HF3 T = none := by
      cases e : HF3 T with
      | none => rfl
      | some u => have := f2 _ _ e; rw [e2] at this; cases this
    refine .inr (.inr ⟨upd HF3 T (.tup [y, v]), f1.trans (sub_upd nT), fun b u e => ?_, fun b nb => ?_, ?_⟩)
    · by_cases hb : b = T
      · subst hb; rw [upd_same] at e ⊢; exact e
      · rw [upd_ne hb] at e ⊢; exact f2 _ _ e
    · have hb : b ≠ T := fun z => nb (z ▸ e2)
      exact ⟨upd_ne hb, (f3 b).imp (fun z => (upd_ne hb).trans z) id⟩
    · rw [e1]
      refine rep_newT nT (.cons ?_ (.one (Rep.mono (m.trans f1) _ _ g5)))
      rw [g3]
      exact f4
theorem wk_valsD {t : Bool} {ks : List (List Key)} {ds : List D} {a : Addr} {od : Obj} {xs : List V} (h : HF a = some (.frz od (hoD t ks xs))) (l : ks.length = ds.length) (r : RepL G HF ds xs) : Wk G ds (ItV a od (hoD t ks xs)) HF := by
  intro HF2 H2 m m2
  have lx : xs.length = ks.length := by rw [r.length, l]
  have hn := hoD_n (t := t) lx
  have at2 := m2 _ _ (m _ _ h)
  refine ⟨fun i hi => ⟨⟨at2, by rw [hn, l]; exact hi⟩, fun x H' ⟨e1, y, e2⟩ => ?_⟩, at2, by rw [hn, l]; exact Nat.le_refl _⟩
  obtain ⟨k, g1, g2, g3⟩ := kvat_ok e2
  obtain ⟨d, g4, g5⟩ := r.get' g2
  exact ⟨d, g4, .inl ⟨e1, Rep.mono m _ _ g5⟩⟩
def mItems (mo : Gam → Out Ar) : Gam → Out (List D) := fun γ => (mo γ).bind fun a γ1 => match a with
  | .d (.dct t ks ds) => .ok (itD t ks ds) γ1
  | _ => .bad
def mVals (mo : Gam → Out Ar) : Gam → Out (List D) := fun γ => (mo γ).bind fun a γ1 => match a with
  | .d (.dct t ks ds) => .ok ds γ1
  | _ => .bad
theorem ti_dct {mk : Addr → Obj → HO → It} {f : Bool → List (List Key) → List D → List D} (hw : ∀ {HF : Hp} {t ks ds a od xs}, HF a = some (.frz od (hoD t ks xs)) → ks.length = ds.length → RepL G HF ds xs → Wk G (f t ks ds) (mk a od (hoD t ks xs)) HF) {mo : Gam → Out Ar} {R : It → Hp → Prop}
    (h : tI G W (fun γ => (mo γ).bind fun a γ1 => match a with
      | .d (.dct t ks ds) => .ok (f t ks ds) γ1
      | _ => .bad) σ H R) : iLk mk (tO G W mo) σ H R := by
  obtain ⟨HF, γ, k, p⟩ := h
  refine ⟨HF, γ, k, post_bind (r1 := rO G) p fun a γ1 v H1 HF1 k1 s1 r1 p1 => ?_⟩
  cases a with
  | sl i => exact p1.elim
  | d d =>
    cases d with
    | dct t ks ds =>
      have r2 : Rep G HF1 (.dct t ks ds) v := r1
      unfold Rep at r2
      obtain ⟨a, od, xs, e, h1, l, w, rl⟩ := r2
      exact ⟨a, od, _, e, k1.sub _ _ h1, hoD_b, p1 _ H1 HF1 k1 s1 (hw h1 l rl)⟩
    | _ => exact p1.elim
theorem it {e : Expr} {apos cpos tpos : Pos} {elts : List Expr} {kk : Nat} {mo : Gam → Out Ar} (he : PE X e (tO G W mo)) (hbase : attributeBase e "items" X.env (eval e X.env) = eval e X.env := by rfl) (hline : (apos.endLine == cpos.line) = true := by rfl) :
    PI X (.Tuple elts kk tpos) (.Call (.Attribute e "items" apos) [] [] cpos) (tI G W (mItems mo)) := ⟨fun pins s σ H R I h => (pi_itemsD he hbase hline).run pins s σ H R I (ti_dct (f := itD) wk_itemsD h)⟩
theorem va {e : Expr} {apos cpos : Pos} {mo : Gam → Out Ar} (he : PE X e (tO G W mo)) (hbase : attributeBase e "values" X.env (eval e X.env) = eval e X.env := by rfl) (hline : (apos.endLine == cpos.line) = true := by rfl) :
    PI X tg (.Call (.Attribute e "values" apos) [] [] cpos) (tI G W (mVals mo)) := ⟨fun pins s σ H R I h => (pi_valuesD he hbase hline).run pins s σ H R I (ti_dct (f := fun _ _ ds => ds) wk_valsD h)⟩
end
end T

-- text T24
set_option Elab.async false
set_option linter.all false
set_option maxRecDepth 100000
set_option maxHeartbeats 4000000
namespace T
open PySem L2 PyProof.Rows
/-! keys of dicts -/
def keyEq : Key → Key → Bool
  | .inl a, .inl b => a == b
  | .inr a, .inr b => a == b
  | _, _ => false
def keysEq : List Key → List Key → Bool
  | [], [] => true
  | a :: as, b :: bs => keyEq a b && keysEq as bs
  | _, _ => false
theorem keyEq_iff {a b : Key} : keyEq a b = true ↔ a = b := by
  cases a <;> cases b <;> simp [keyEq]
theorem keysEq_iff : ∀ {a b : List Key}, keysEq a b = true ↔ a = b
  | [], [] => by simp [keysEq]
  | [], _ :: _ => by simp [keysEq]
  | _ :: _, [] => by simp [keysEq]
  | a :: as, b :: bs => by
    unfold keysEq
    rw [Bool.and_eq_true_iff, keyEq_iff, keysEq_iff, List.cons.injEq]
def keyD : D → Option Key
  | .int i => some (.inl i)
  | .str x => some (.inr x)
  | _ => none
def keysD : List D → Option (List Key)
  | [] => some []
  | d :: ds => match keyD d with
    | some k => (match keysD ds with
      | some ks => some (k :: ks)
      | none => none)
    | none => none
def dKey (t : Bool) (d : D) : Option (List Key) := match t with
  | true => (match d with
    | .tup ds => keysD ds
    | _ => none)
  | false => (match keyD d with
    | some k => some [k]
    | none => none)
theorem keyD_some {d : D} {k : Key} (h : keyD d = some k) : d = kD k := by
  unfold keyD at h
  split at h <;> cases h <;> rfl
theorem keysD_some : ∀ {ds : List D} {ks : List Key}, keysD ds = some ks → ds = ks.map kD
  | [], ks, h => by cases h; rfl
  | d :: ds, ks, h => by
    unfold keysD at h
    split at h
    · rename_i k e
      split at h
      · rename_i ks' e2
        cases h
        rw [keyD_some e, keysD_some e2]
        rfl
      · cases h
    · cases h
theorem keyD_kD (k : Key) : keyD (kD k) = some k := by cases k <;> rfl
theorem keysD_kD : ∀ ks : List Key, keysD (ks.map kD) = some ks
  | [] => rfl
  | k :: ks => by
    show keysD (kD k :: ks.map kD) = _
    unfold keysD
    rw [keyD_kD, keysD_kD ks]
def getK {α : Type} : List (List Key) → List α → List Key → Option α
  | k :: ks, d :: ds, q => if keysEq k q = true then some d else getK ks ds q
  | _, _, _ => none
def setK {α : Type} : List (List Key) → List α → List Key → α → List α
  | k :: ks, d :: ds, q, y => (if keysEq k q = true then y else d) :: setK ks ds q y
  | _, ds, _, _ => ds
def hasK (ks : List (List Key)) (q : List Key) : Bool := ks.any fun k => keysEq k q
theorem setK_length {α : Type} {q : List Key} {y : α} : ∀ {ks : List (List Key)} {ds : List α}, (setK ks ds q y).length = ds.length
  | [], ds => by cases ds <;> rfl
  | k :: ks, [] => rfl
  | k :: ks, d :: ds => by show (setK ks ds q y).length + 1 = ds.length + 1; rw [setK_length]
/-- a dict with one key stored -/
def putD (t : Bool) (ks : List (List Key)) (ds : List D) (q : List Key) (d : D) : D :=
  if hasK ks q = true then .dct t ks (setK ks ds q d) else .dct t (ks ++ [q]) (ds ++ [d])
section
variable {G : Tab} {σ : L2.St} {H HF HF' : Hp} {γ : Gam}
theorem RepL.setK {q : List Key} {y : D} {v : V} (r : Rep G HF y v) : ∀ {ks : List (List Key)} {ds : List D} {xs : List V}, RepL G HF ds xs → RepL G HF (setK ks ds q y) (setK ks xs q v)
  | [], ds, xs, h => by cases ds <;> cases xs <;> exact h
  | k :: ks, [], xs, h => by unfold RepL at h; subst h; exact .nil
  | k :: ks, d :: ds, xs, h => by
    unfold RepL at h
    obtain ⟨w, ws, rfl, r1, r2⟩ := h
    show RepL G HF ((if keysEq k q = true then y else d) :: T.setK ks ds q y) ((if keysEq k q = true then v else w) :: T.setK ks ws q v)
    refine .cons ?_ (RepL.setK r r2)
    split
    · exact r
    · exact r1
theorem getK_rep {q : List Key} : ∀ {ks : List (List Key)} {ds : List D} {xs : List V}, RepL G HF ds xs → (getK ks ds q = none → getK ks xs q = none) ∧ ∀ d, getK ks ds q = some d → ∃ v, getK ks xs q = some v ∧ Rep G HF d v
  | [], ds, xs, h => ⟨fun _ => by cases xs <;> rfl, fun d e => by cases ds <;> cases e⟩
  | k :: ks, [], xs, h => by
    unfold RepL at h
    subst h
    exact ⟨fun _ => rfl, fun d e => by cases e⟩
  | k :: ks, d :: ds, xs, h => by
    unfold RepL at h
    obtain ⟨w, ws, rfl, r1, r2⟩ := h
    unfold getK
    split
    · exact ⟨fun e => (by cases e), fun d' e => by cases e; exact ⟨w, rfl, r1⟩⟩
    · exact getK_rep r2
/-! the layer's own words -/
theorem valV_zip {q : List Key} : ∀ {ks : List (List Key)} {xs : List V}, valV (ks.zip xs) q = getK ks xs q
  | [], xs => by cases xs <;> rfl
  | k :: ks, [] => rfl
  | k :: ks, x :: xs => by
    show valV ((k, x) :: ks.zip xs) q = getK (k :: ks) (x :: xs) q
    unfold getK
    by_cases e : k = q
    · rw [valV_pos e, if_pos (keysEq_iff.mpr e)]
    · rw [valV_neg e, if_neg (fun z => e (keysEq_iff.mp z))]
      exact valV_zip
theorem wfK_cons {k : List Key} {ks : List (List Key)} (w : wfK false (k :: ks) = true) : (∃ a, k = [a]) ∧ wfK false ks = true := by
  unfold wfK at w ⊢
  simp only [Bool.false_or, List.all_cons, Bool.and_eq_true] at w
  refine ⟨?_, by simpa using w.2⟩
  obtain ⟨w, _⟩ := w
  split at w
  · exact ⟨_, rfl⟩
  · cases w
theorem valV_zip1 {a : Key} : ∀ {ks : List (List Key)} {xs : List V}, wfK false ks = true → valV ((ks.map kHd).zip xs) a = getK ks xs [a]
  | [], xs, _ => by cases xs <;> rfl
  | k :: ks, [], _ => rfl
  | k :: ks, x :: xs, w => by
    obtain ⟨⟨b, rfl⟩, w⟩ := wfK_cons w
    show valV ((b, x) :: (ks.map kHd).zip xs) a = getK ([b] :: ks) (x :: xs) [a]
    unfold getK
    by_cases e : b = a
    · rw [valV_pos e, if_pos (keysEq_iff.mpr (by rw [e]))]
    · rw [valV_neg e, if_neg (fun z => e (by have := keysEq_iff.mp z; simpa using this))]
      exact valV_zip1 w
theorem any_zip {q : List Key} : ∀ {ks : List (List Key)} {xs : List V}, ks.length = xs.length → ((ks.zip xs).any fun kv => decide (kv.1 = q)) = hasK ks q
  | [], xs, _ => by cases xs <;> rfl
  | k :: ks, [], h => by cases h
  | k :: ks, x :: xs, h => by
    have ih := any_zip (q := q) (ks := ks) (xs := xs) (by simpa using h)
    unfold hasK at ih ⊢
    rw [List.zip_cons_cons, List.any_cons, List.any_cons, ih]
    congr 1
    rw [Bool.eq_iff_iff, decide_eq_true_iff, keysEq_iff]
theorem any_zip1 {a : Key} : ∀ {ks : List (List Key)} {xs : List V}, wfK false ks = true → ks.length = xs.length → (((ks.map kHd).zip xs).any fun kv => decide (kv.1 = a)) = hasK ks [a]
  | [], xs, _, _ => by cases xs <;> rfl
  | k :: ks, [], _, h => by cases h
  | k :: ks, x :: xs, w, h => by
    obtain ⟨⟨b, rfl⟩, w⟩ := wfK_cons w
    have ih := any_zip1 (a := a) (ks := ks) (xs := xs) w (by simpa using h)
    unfold hasK at ih ⊢
    rw [List.map_cons, List.zip_cons_cons, List.any_cons, List.any_cons, ih]
    congr 1
    rw [Bool.eq_iff_iff, decide_eq_true_iff, keysEq_iff]
    simp [kHd]
theorem map_zip {q : List Key} {y : V} : ∀ {ks : List (List Key)} {xs : List V}, (ks.zip xs).map (fun kv => if kv.1 = q then (kv.1, y) else kv) = ks.zip (setK ks xs q y)
  | [], xs => by cases xs <;> rfl
  | k :: ks, [] => rfl
  | k :: ks, x :: xs => by
    rw [List.zip_cons_cons, List.map_cons, map_zip]
    show _ = (k, if keysEq k q = true then y else x) :: ks.zip (setK ks xs q y)
    by_cases e : k = q
    · rw [if_pos (keysEq_iff.mpr e)]; simp [e]
    · rw [if_neg (fun z => e (keysEq_iff.mp z))]; simp [e]
theorem map_zip1 {a : Key} {y : V} : ∀ {ks : List (List Key)} {xs : List V}, wfK false ks = true → ((ks.map kHd).zip xs).map (fun kv => if kv.1 = a then (kv.1, y) else kv) = (ks.map kHd).zip (setK ks xs [a] y)
  | [], xs, _ => by cases xs <;> rfl
  | k :: ks, [], _ => rfl
  | k :: ks, x :: xs, w => by
    obtain ⟨⟨b, rfl⟩, w2⟩ := wfK_cons w
    rw [List.map_cons, List.zip_cons_cons, List.map_cons, map_zip1 w2]
    show _ = (kHd [b], if keysEq [b] [a] = true then y else x) :: (ks.map kHd).zip (setK ks xs [a] y)
    by_cases e : b = a
    · subst e
      have q : keysEq [b] [b] = true := keysEq_iff.mpr rfl
      simp [kHd, q]
    · have q : keysEq [b] [a] = false := Bool.eq_false_iff.mpr fun z => e (by have := keysEq_iff.mp z; simpa using this)
      simp [kHd, q, e]
/-- a key, as it lies -/
theorem key_lies {t : Bool} {d : D} {q : List Key} {y : V} (e : dKey t d = some q) (s : Sub HF H) (p : Pk G HF H d y) : (t = true ∧ ∃ b, y = .ref b ∧ H b = some (.tup (q.map kV))) ∨ (t = false ∧ ∃ k, q = [k] ∧ y = kV k) := by
  unfold dKey at e
  cases t with
  | true =>
    simp only at e
    split at e
    · rename_i ds
      have ed := keysD_some e
      subst ed
      rcases p with r | ⟨_, _, o⟩
      · unfold Rep at r
        obtain ⟨b, xs, rfl, h, r⟩ := r
        have ex : ∀ {ks : List Key} {xs : List V}, RepL G HF (ks.map kD) xs → xs = ks.map kV := by
          intro ks
          induction ks with
          | nil => intro xs r; unfold RepL at r; exact r
          | cons k ks ih =>
            intro xs r
            rw [List.map_cons] at r
            unfold RepL at r
            obtain ⟨w, ws, rfl, r1, r2⟩ := r
            rw [ih r2, List.map_cons]
            congr 1
            cases k <;> (unfold kD Rep at r1; exact r1)
        rw [ex r] at h
        exact .inl ⟨rfl, b, rfl, s _ _ h⟩
      · exact o.elim
    · cases e
  | false =>
    simp only at e
    split at e
    · rename_i k ek
      cases e
      have ed := keyD_some ek
      subst ed
      refine .inr ⟨rfl, k, rfl, ?_⟩
      cases k with
      | inl i => exact p.int
      | inr x => exact p.str
    · cases e
theorem Pk.dct {t : Bool} {ks : List (List Key)} {ds : List D} {v : V} (s : Sub HF H) (h : Pk G HF H (.dct t ks ds) v) : ∃ a xs, v = .ref a ∧ Rd H a (hoD t ks xs) ∧ ks.length = ds.length ∧ wfK t ks = true ∧ RepL G HF ds xs := by
  rcases h with h | ⟨a, e, xs, h, _, l, w, r⟩
  · unfold Rep at h
    obtain ⟨a, od, xs, e, q, l, w, r⟩ := h
    exact ⟨a, xs, e, .inr ⟨od, s _ _ q⟩, l, w, r⟩
  · exact ⟨a, xs, e, .inl h, l, w, r⟩
/-- what a dict holds at a key -/
theorem dget_of {t : Bool} {ks : List (List Key)} {ds : List D} {a : Addr} {xs : List V} {d : D} {q : List Key} {y : V} (hr : Rd H a (hoD t ks xs)) (w : wfK t ks = true) (e : dKey t d = some q) (s : Sub HF H) (p : Pk G HF H d y) : DGet H a y (getK ks xs q) := by
  rcases key_lies e s p with ⟨rfl, b, rfl, hb⟩ | ⟨rfl, k, rfl, rfl⟩
  · exact .inr ⟨_, q, b, hr, rfl, hb, valV_zip.symm⟩
  · exact .inl ⟨_, k, hr, rfl, (valV_zip1 w).symm⟩
/-- the heap behind a store -/
theorem dput_of {t : Bool} {ks : List (List Key)} {ds : List D} {a : Addr} {xs : List V} {d : D} {q : List Key} {y v : V} (hr : H a = some (hoD t ks xs)) (l : ks.length = xs.length) (hl : xs.length < sizeLine) (w : wfK t ks = true) (e : dKey t d = some q) (s : Sub HF H) (p : Pk G HF H d y) :
    DPut H a y v (upd H a (if hasK ks q = true then hoD t ks (setK ks xs q v) else hoD t (ks ++ [q]) (xs ++ [v]))) := by
  rcases key_lies e s p with ⟨rfl, b, rfl, hb⟩ | ⟨rfl, k, rfl, rfl⟩
  · refine .inr ⟨_, q, b, hr, rfl, hb, by rw [List.length_zip]; omega, ?_⟩
    unfold putK
    rw [any_zip l]
    congr 1
    split
    · rw [map_zip]; rfl
    · show HO.dT _ = HO.dT _
      rw [List.zip_append l]
      rfl
  · refine .inl ⟨_, k, hr, rfl, by rw [List.length_zip, List.length_map]; omega, ?_⟩
    unfold putK
    rw [any_zip1 w l]
    congr 1
    split
    · rw [map_zip1 w]; rfl
    · show HO.dK _ = HO.dK _
      rw [List.map_append, List.zip_append (by rw [List.length_map]; exact l)]
      rfl
theorem wfK_snoc {t : Bool} {ks : List (List Key)} {d : D} {q : List Key} (w : wfK t ks = true) (e : dKey t d = some q) : wfK t (ks ++ [q]) = true := by
  unfold wfK at w ⊢
  cases t with
  | true => rfl
  | false =>
    rw [Bool.false_or] at w ⊢
    rw [List.all_append, w]
    unfold dKey at e
    simp only at e
    split at e
    · cases e; rfl
    · cases e
theorem hoD_put {t : Bool} {ks : List (List Key)} {ds : List D} {a : Addr} {xs : List V} {d dv : D} {q : List Key} {v : V} (hf : HF a = none) (l : ks.length = ds.length) (w : wfK t ks = true) (e : dKey t d = some q) (r : RepL G HF ds xs) (rv : Rep G HF dv v) :
    OwnRep G HF (upd H a (if hasK ks q = true then hoD t ks (setK ks xs q v) else hoD t (ks ++ [q]) (xs ++ [v]))) (putD t ks ds q dv) a := by
  unfold putD
  split
  · exact ⟨_, upd_same, hf, by rw [setK_length]; exact l, w, RepL.setK rv r⟩
  · exact ⟨_, upd_same, hf, by simp [l], wfK_snoc w e, RepL.append r (.one rv)⟩
end
end T

-- text T25
set_option Elab.async false
set_option linter.all false
set_option maxRecDepth 100000
set_option maxHeartbeats 4000000
namespace T
open PySem L2 PyProof.Rows
/-! low: subscripts, in, == of an empty dict, dict(..) -/
section
variable {X : Cx}
def rIxD : R2 := fun x y H Q => ∃ a v, x = .ref a ∧ DGet H a y (some v) ∧ Q v H
theorem ix_dict (hu : X.A.units + 1 < cLine) : IxR X rIxD := by
  intro value slice pins s σ H x y v u Q I rx ry h hs
  obtain ⟨a, z, rfl, g, q⟩ := h
  cases (show v = Value.ref a from rx)
  have hT := dict_typeIs I g
  unfold subscriptTail
  refine wpAny_bind ?_
  rw [getitemInPython_of_ne hT.not_modules]
  refine wpAny_bind (wpAny_specialOf hT PySem.F.slot_dict_getitem.lookup ?_)
  have fin : wpAny (model X.prog X.w) X.A (subscripted slice false (.ref a) u) (fun r s3 => wpAny (model X.prog X.w) X.A (letTemporaryGo value (.ref a) r >>= fun _ => pure r) (EP X pins σ Q) X.xe s3) X.xe s := by
    rw [hs]
    exact wpAny_operating (d_getItem hu I g ry fun w' s3 I3 rw' => wpAny_bind (wpAny_letTemporaryGo (wpAny_pure ⟨z, H, I3, rw', q⟩)))
  first
    | exact wpAny_pure (wpAny_bind fin)
    | exact wpAny_bind (wpAny_pure (wpAny_bind fin))
    | exact wpAny_bind fin
def rInD (neg : Bool) : R2 := fun x y H Q => ∃ a o, y = .ref a ∧ DGet H a x o ∧ Q (.bl (if neg = true then !o.isSome else o.isSome)) H
theorem op_inD (hu : X.A.units + 1 < cLine) : OpR X (compareOp .In) (rInD false) := by
  intro pins s σ H x y v u Q I rx ry h
  obtain ⟨a, o, rfl, g, q⟩ := h
  cases (show u = Value.ref a from ry)
  exact d_in hu I g rx fun s' I' => ⟨.bl o.isSome, H, I', rfl, q⟩
theorem op_notInD (hu : X.A.units + 1 < cLine) : OpR X (compareOp .NotIn) (rInD true) := by
  intro pins s σ H x y v u Q I rx ry h
  obtain ⟨a, o, rfl, g, q⟩ := h
  cases (show u = Value.ref a from ry)
  exact d_notIn hu I g rx fun s' I' => ⟨.bl (!o.isSome), H, I', rfl, q⟩
def rSetD : V → V → V → Hp → (Hp → Prop) → Prop := fun o i v H Q => ∃ a H', o = .ref a ∧ DPut H a i v H' ∧ Q H'
theorem set_dict (hu : X.A.units + 1 < cLine) : PSet X rSetD := by
  intro pins s σ H o i v ov iv u Q I ro ri rv h
  obtain ⟨a, H', rfl, g, q⟩ := h
  cases (show ov = Value.ref a from ro)
  exact d_setItem hu I g ri rv fun s' I' => ⟨H', I', q⟩
theorem PSet.or {t t' : TSet} (h : PSet X t) (h' : PSet X t') : PSet X (fun o i v H Q => t o i v H Q ∨ t' o i v H Q) := by
  intro pins s σ H o i v ov iv u Q I ro ri rv q
  rcases q with q | q
  · exact h pins s σ H o i v ov iv u Q I ro ri rv q
  · exact h' pins s σ H o i v ov iv u Q I ro ri rv q
end
section
variable {prog : Program} {w : World} {A : Around} {E : Value → Shared → Prop} {s : Shared}
theorem same_raw {nm : String} {a b : Addr} {ea eb : Array DictEntry} {pa pb : Nat} {Q : Bool → Shared → Prop} (ha : (a == sysModules) = false) (hb : (b == sysModules) = false) (da : s.heap.DictRaw a ea pa) (db : s.heap.DictRaw b eb pb) (hz : ea.size = 0 ∨ eb.size = 0)
    (h : Q (ea.size == 0 && eb.size == 0) s) : wpAny (model prog w) A (Builtin.Dict.samePairs nm a b) Q E s := by
  obtain ⟨oa, g1, _, g2⟩ := da
  obtain ⟨ob, g3, _, g4⟩ := db
  have na : ¬ (a == sysModules) = true := by rw [ha]; exact Bool.false_ne_true
  have nb : ¬ (b == sysModules) = true := by rw [hb]; exact Bool.false_ne_true
  unfold Builtin.Dict.samePairs Builtin.Dict.showsAll
  rw [if_neg na, if_neg nb]
  refine wpAny_bind (wpAny_pure (wpAny_bind (wpAny_pure (wpAny_bind (wpAny_dictEntries g1 g2 ?_)))))
  dsimp only
  refine wpAny_bind (wpAny_dictEntries g3 g4 ?_)
  by_cases e : ea.size = eb.size
  · have z1 : ea.size = 0 := by omega
    have z2 : eb.size = 0 := by omega
    rw [if_neg (by rw [e]; simp)]
    refine wpAny_bind (wpAny_dictEpoch g1 g2 (wpAny_bind ?_))
    rw [Std.Legacy.Range.forIn_eq_forIn_range']
    simp only [z1, Std.Legacy.Range.size, Nat.sub_zero, Nat.add_sub_cancel, Nat.div_one]
    rw [z1, z2] at h
    refine wpAny_forIn_list _ (fun rest q s' => s' = s ∧ q = (none, ()) ∧ rest = []) _ ?_ ?_ _ _ ⟨rfl, rfl, rfl⟩
    · rintro x rest q s' ⟨_, _, z⟩
      cases z
    · rintro q s' ⟨rfl, rfl, _⟩
      exact wpAny_pure h
  · rw [if_pos (by simpa using e)]
    have hb : (ea.size == 0 && eb.size == 0) = false := by
      rw [Bool.and_eq_false_iff]
      rcases hz with z | z
      · exact .inr (beq_eq_false_iff_ne.mpr (by omega))
      · exact .inl (beq_eq_false_iff_ne.mpr (by omega))
    rw [hb] at h
    exact wpAny_bind (wpAny_rule (wpAny_pure h))
theorem eq_raw {a b : Addr} {ea eb : Array DictEntry} {pa pb : Nat} {Q : Value → Shared → Prop} (ha : (a == sysModules) = false) (hb : (b == sysModules) = false) (da : s.heap.DictRaw a ea pa) (db : s.heap.DictRaw b eb pb) (hz : ea.size = 0 ∨ eb.size = 0) (hu : A.units < cLine)
    (h : Q (.bool (ea.size == 0 && eb.size == 0)) s) : wpAny (model prog w) A (compareOp .Eq (.ref a) (.ref b)) Q E s := by
  refine wpAny_richCompare_same_room (op := .Eq) da.typeIs db.typeIs PySem.F.slot_dict_eq (wpAny_call_entry PySem.F.slot_dict_eq da.typeIs PySem.F.entry_dict_eq ?_ (PySem.F.args_dict_eq_2 _ _)) hu
  refine wpAny_bind (m := Builtin.Dict.dictSlotArgs "__eq__" ⟨[.ref a, .ref b], []⟩) ?_
  unfold Builtin.Dict.dictSlotArgs
  refine wpAny_bind (wpAny_notOrdered_dict da.typeIs (wpAny_pure (a := (Value.ref a, Value.ref b)) ?_))
  refine wpAny_bind (wpAny_isInstance (T := "dict") db.typeIs PySem.F.sub_dict_dict ?_)
  simp only [Bool.not_true, Bool.false_eq_true, if_false]
  refine wpAny_bind (wpAny_pure (wpAny_bind (wpAny_pure (wpAny_bind (same_raw ha hb da db hz (wpAny_pure ⟨_, rfl, (fun x => nomatch x), ?_⟩))))))
  simpa using h
theorem ne_raw {a b : Addr} {ea eb : Array DictEntry} {pa pb : Nat} {Q : Value → Shared → Prop} (ha : (a == sysModules) = false) (hb : (b == sysModules) = false) (da : s.heap.DictRaw a ea pa) (db : s.heap.DictRaw b eb pb) (hz : ea.size = 0 ∨ eb.size = 0) (hu : A.units < cLine)
    (h : Q (.bool (!(ea.size == 0 && eb.size == 0))) s) : wpAny (model prog w) A (compareOp .NotEq (.ref a) (.ref b)) Q E s := by
  refine wpAny_richCompare_same_room (op := .NotEq) da.typeIs db.typeIs PySem.F.slot_dict_ne (wpAny_call_entry PySem.F.slot_dict_ne da.typeIs PySem.F.entry_dict_ne ?_ (PySem.F.args_dict_ne_2 _ _)) hu
  refine wpAny_bind (m := Builtin.Dict.dictSlotArgs "__ne__" ⟨[.ref a, .ref b], []⟩) ?_
  unfold Builtin.Dict.dictSlotArgs
  refine wpAny_bind (wpAny_notOrdered_dict da.typeIs (wpAny_pure (a := (Value.ref a, Value.ref b)) ?_))
  refine wpAny_bind (wpAny_isInstance (T := "dict") db.typeIs PySem.F.sub_dict_dict ?_)
  simp only [Bool.not_true, Bool.false_eq_true, if_false]
  refine wpAny_bind (wpAny_pure (wpAny_bind (wpAny_pure (wpAny_bind (same_raw ha hb da db hz (wpAny_pure ⟨_, rfl, (fun x => nomatch x), ?_⟩))))))
  simpa using h
/-- dict(x), by what update does -/
theorem call_dict_upd {a : Addr} {Q : Value → Shared → Prop}
    (upd : ∀ s1 : Shared, s1 = { s with heap := s.heap.push { cls := .type "dict", data := .dict #[] } } →
      wpAny (model prog w) A.in1.in1 (Builtin.Dict.updateFrom "dict.__init__" s.heap.objs.size (.ref a) [] .none)
        (fun fin s' => match fin with | .done f => wants (fun r s2 => r = .none ∧ Q (.ref s.heap.objs.size) s2) E (.ok f) s' | .again c' => c'.quiet = true ∧ codeAny (model prog w) A.in1 c' (wants (fun r s2 => r = .none ∧ Q (.ref s.heap.objs.size) s2) E) s')
        (fun e s' => wants (fun r s2 => r = .none ∧ Q (.ref s.heap.objs.size) s2) E (.error e) s') s1) :
    wpAny (model prog w) A (call (.type "dict") [.ref a]) Q E s := by
  refine callType_codes (Q₁ := fun obj s1 => obj = .ref s.heap.objs.size ∧ s1 = { s with heap := s.heap.push { cls := .type "dict", data := .dict #[] } }) F.kt_called_dict (F.kt_typeCall_dict_1 _) F.entry_dict_init (kt_code_dict_new _ ⟨rfl, rfl⟩) ?_
  rintro obj s1 ⟨rfl, rfl⟩
  have hT : Shared.TypeIs { s with heap := s.heap.push { cls := .type "dict", data := .dict #[] } } (.ref s.heap.objs.size) "dict" := ⟨_, Heap.get?_push_size _ rfl, rfl⟩
  refine ⟨hT, F.args_dict_init_2 _ _, ?_⟩
  unfold Builtin.«dict.__init__»
  refine wpAny_bind ?_
  unfold Builtin.Dict.selfAndRest
  exact wpAny_bind (wpAny_notOrdered_dict hT (wpAny_pure (a := (s.heap.objs.size, [Value.ref a])) (upd _ rfl)))
end
section
variable {X : Cx} {pins : List (Addr × Obj)} {σ : L2.St} {H : Hp} {s : Shared} {d : Addr} {u : HO}
theorem raw_rd (I : Inv X pins σ H s) (h : Rd H d u) (hb : hoB u = true) : (d == sysModules) = false ∧ ∃ (es : Array DictEntry) (ep : Nat), s.heap.DictRaw d es ep ∧ es.size = hoN u := by
  rcases h with h | ⟨o, h⟩
  · cases u with
    | dK kvs =>
      obtain ⟨z, hd, vs, rel, dd⟩ := dk_of I.hok h
      obtain ⟨es, ep, g, l, _⟩ := dd.raw
      exact ⟨hd, es, ep, g, by rw [l, ← rel.length]; rfl⟩
    | dT kvs =>
      obtain ⟨z, hd, xs, rel, dd⟩ := dt_of I.hok h
      obtain ⟨es, ep, g, l, _⟩ := dd.raw
      exact ⟨hd, es, ep, g, by rw [l, ← Paired.length rel]; rfl⟩
    | _ => cases hb
  · obtain ⟨hd, es, ep, g1, g2, g3, g4, _⟩ := raw_of I h hb
    exact ⟨hd, es, ep, ⟨o, g1, g2, g3⟩, g4⟩
def rEq0 (neg : Bool) : R2 := fun x y H Q => ∃ a b u v, x = .ref a ∧ y = .ref b ∧ Rd H a u ∧ Rd H b v ∧ hoB u = true ∧ hoB v = true ∧ (hoN u = 0 ∨ hoN v = 0) ∧ Q (.bl (if neg = true then !(hoN u == 0 && hoN v == 0) else hoN u == 0 && hoN v == 0)) H
end
theorem op_eq0 {X : Cx} (hu : X.A.units < cLine) : OpR X (compareOp .Eq) (rEq0 false) := by
  intro pins s σ H x y v u Q I rx ry h
  obtain ⟨a, b, ua, ub, rfl, rfl, ra, rb, ba, bb, z, q⟩ := h
  cases (show v = Value.ref a from rx)
  cases (show u = Value.ref b from ry)
  obtain ⟨h1, e1, p1, g1, l1⟩ := raw_rd I ra ba
  obtain ⟨h2, e2, p2, g2, l2⟩ := raw_rd I rb bb
  rw [← l1, ← l2] at z q
  exact eq_raw h1 h2 g1 g2 z hu ⟨.bl (e1.size == 0 && e2.size == 0), H, I, rfl, q⟩
theorem op_ne0 {X : Cx} (hu : X.A.units < cLine) : OpR X (compareOp .NotEq) (rEq0 true) := by
  intro pins s σ H x y v u Q I rx ry h
  obtain ⟨a, b, ua, ub, rfl, rfl, ra, rb, ba, bb, z, q⟩ := h
  cases (show v = Value.ref a from rx)
  cases (show u = Value.ref b from ry)
  obtain ⟨h1, e1, p1, g1, l1⟩ := raw_rd I ra ba
  obtain ⟨h2, e2, p2, g2, l2⟩ := raw_rd I rb bb
  rw [← l1, ← l2] at z q
  exact ne_raw h1 h2 g1 g2 z hu ⟨.bl (!(e1.size == 0 && e2.size == 0)), H, I, rfl, q⟩
end T

-- text T26
set_option Elab.async false
set_option linter.all false
set_option maxRecDepth 100000
set_option maxHeartbeats 4000000
namespace T
open PySem L2 PyProof.Rows
/-! dict(pairs), dict(d) -/
def addK {α : Type} (p : List (List Key) × List α) (q : List Key) (y : α) : List (List Key) × List α := if hasK p.1 q = true then (p.1, setK p.1 p.2 q y) else (p.1 ++ [q], p.2 ++ [y])
def addAll {α : Type} (p : List (List Key) × List α) (kvs : List (List Key × α)) : List (List Key) × List α := kvs.foldl (fun acc kv => addK acc kv.1 kv.2) p
theorem zip_put {ks : List (List Key)} {xs : List V} {q : List Key} {v : V} (l : ks.length = xs.length) : putK (ks.zip xs) q v = (addK (ks, xs) q v).1.zip (addK (ks, xs) q v).2 := by
  unfold putK addK
  rw [any_zip l]
  split
  · rw [map_zip]
  · rw [List.zip_append l]; rfl
theorem zip_put1 {ks : List (List Key)} {xs : List V} {a : Key} {v : V} (w : wfK false ks = true) (l : ks.length = xs.length) : putK ((ks.map kHd).zip xs) a v = ((addK (ks, xs) [a] v).1.map kHd).zip (addK (ks, xs) [a] v).2 := by
  unfold putK addK
  rw [any_zip1 w l]
  split
  · rw [map_zip1 w]
  · show _ = ((ks ++ [[a]]).map kHd).zip (xs ++ [v])
    rw [List.map_append, List.zip_append (by rw [List.length_map]; exact l)]
    rfl
theorem addK_len {α : Type} {p : List (List Key) × List α} {q : List Key} {y : α} (l : p.1.length = p.2.length) : (addK p q y).1.length = (addK p q y).2.length := by
  unfold addK
  split
  · rw [setK_length]; exact l
  · simp [l]
/-- a dict's pairs stored one behind the other -/
def hoM (t : Bool) (kvs : List (List Key × V)) : HO := match t with
  | true => .dT (kvs.foldl (fun acc kv => putK acc kv.1 kv.2) [])
  | false => .dK (mergeK [] (kvs.map fun kv => (kHd kv.1, kv.2)))
theorem addAll_T : ∀ {kvs : List (List Key × V)} {p : List (List Key) × List V}, p.1.length = p.2.length → kvs.foldl (fun acc kv => putK acc kv.1 kv.2) (p.1.zip p.2) = (addAll p kvs).1.zip (addAll p kvs).2 ∧ (addAll p kvs).1.length = (addAll p kvs).2.length
  | [], p, l => ⟨rfl, l⟩
  | (q, v) :: r, p, l => by
    show List.foldl _ (putK (p.1.zip p.2) q v) r = (addAll (addK p q v) r).1.zip (addAll (addK p q v) r).2 ∧ (addAll (addK p q v) r).1.length = (addAll (addK p q v) r).2.length
    rw [zip_put l]
    exact addAll_T (p := addK p q v) (addK_len l)
theorem addK_wf {α : Type} {p : List (List Key) × List α} {a : Key} {y : α} (w : wfK false p.1 = true) : wfK false (addK p [a] y).1 = true := by
  unfold addK
  split
  · exact w
  · unfold wfK at w ⊢
    rw [Bool.false_or] at w ⊢
    rw [List.all_append, w]
    rfl
theorem addAll_K : ∀ {kvs : List (List Key × V)} {p : List (List Key) × List V}, (∀ kv ∈ kvs, ∃ a, kv.1 = [a]) → wfK false p.1 = true → p.1.length = p.2.length →
    mergeK ((p.1.map kHd).zip p.2) (kvs.map fun kv => (kHd kv.1, kv.2)) = ((addAll p kvs).1.map kHd).zip (addAll p kvs).2 ∧ (addAll p kvs).1.length = (addAll p kvs).2.length ∧ wfK false (addAll p kvs).1 = true
  | [], p, _, w, l => ⟨rfl, l, w⟩
  | (q, v) :: r, p, hk, w, l => by
    obtain ⟨a, e⟩ := hk (q, v) (by simp)
    have e : q = [a] := e
    subst e
    have ih := addAll_K (kvs := r) (p := addK p [a] v) (fun kv h => hk kv (by simp [h])) (addK_wf w) (addK_len l)
    show mergeK (putK ((p.1.map kHd).zip p.2) a v) (r.map fun kv => (kHd kv.1, kv.2)) = _ ∧ _
    rw [zip_put1 w l]
    exact ih
theorem hoM_eq {t : Bool} {kvs : List (List Key × V)} (h : t = false → ∀ kv ∈ kvs, ∃ a, kv.1 = [a]) : hoM t kvs = hoD t (addAll ([], []) kvs).1 (addAll ([], []) kvs).2 ∧ wfK t (addAll ([], []) kvs).1 = true := by
  cases t with
  | true => exact ⟨congrArg HO.dT (addAll_T (p := ([], [])) rfl).1, rfl⟩
  | false =>
    obtain ⟨e, _, w⟩ := addAll_K (p := ([], [])) (h rfl) rfl rfl
    exact ⟨congrArg HO.dK e, w⟩
def KeyAt (H : Hp) (t : Bool) (k : List Key) (y : V) : Prop := (t = true ∧ ∃ b, y = .ref b ∧ H b = some (.tup (k.map kV))) ∨ (t = false ∧ ∃ a, k = [a] ∧ y = kV a)
/-- dict(xs), a list of pairs -/
def rDictL (K : PySem.W.Frag) (t : Bool) : List V → Hp → VK → Prop := fun xs H Q => ∃ (a : Addr) (ps : List Addr) (kvs : List (List Key × V)), xs = [.ref a] ∧ SqL K H a (ps.map V.ref) ∧ Paired (fun p kv => ∃ y, H p = some (.tup [y, kv.2]) ∧ KeyAt H t kv.1 y) ps kvs ∧
  ∀ p, H p = none → Q (.ref p) (upd H p (hoM t kvs))
theorem pairsT {X : Cx} {pins : List (Addr × Obj)} {σ : L2.St} {H : Hp} {s : Shared} (I : Inv X pins σ H s) : ∀ {ps : List Addr} {kvs : List (List Key × V)}, Paired (fun p kv => ∃ y, H p = some (.tup [y, kv.2]) ∧ KeyAt H true kv.1 y) ps kvs →
    ∃ prs : List (List Key × Addr × Value), KT H kvs prs ∧ prs.length = ps.length ∧ ∀ (j : Nat) (q : List Key × Addr × Value), prs[j]? = some q → ∃ b : Addr, ps[j]? = some b ∧ IsTup s.heap b #[.ref q.2.1, q.2.2] ∧ H q.2.1 = some (.tup (q.1.map kV))
  | _, _, .nil => ⟨[], .nil, rfl, fun j q e => by simp at e⟩
  | _, _, .cons (a := p) (b := kv) h t => by
    obtain ⟨prs, r, hl, hp⟩ := pairsT I t
    obtain ⟨y, e, k⟩ := h
    rcases k with ⟨_, b, rfl, hb⟩ | ⟨z, _⟩
    · obtain ⟨its, rv, ht, _⟩ := I.tuple (SqT.of e)
      obtain ⟨u, z, ei, ru, rz⟩ := vals2 rv
      subst ei
      cases (show u = Value.ref b from ru)
      refine ⟨(kv.1, b, z) :: prs, .cons ⟨rfl, hb, rz⟩ r, by rw [List.length_cons, List.length_cons, hl], fun j q e => ?_⟩
      cases j with
      | zero =>
        cases Option.some.inj e
        exact ⟨p, rfl, ht, hb⟩
      | succ j =>
        obtain ⟨c, e1, e2⟩ := hp j q (by simpa using e)
        exact ⟨c, by simpa using e1, e2⟩
    · cases z
theorem KT.putAll {H : Hp} : ∀ {kvs acc : List (List Key × V)} {ps xs : List (List Key × Addr × Value)}, KT H kvs ps → KT H acc xs → KT H (kvs.foldl (fun acc kv => putK acc kv.1 kv.2) acc) (storedAllH xs ps)
  | _, _, _, _, .nil, r => r
  | _, _, _, _, .cons (a := kv) (b := q) h t, r => by
    obtain ⟨e1, e2, e3⟩ := h
    have := KT.put r kv.1 e2 e3
    rw [e1] at this
    rw [List.foldl_cons, e1]
    show KT H _ (storedAllH (storedH _ q.1 q.2.1 q.2.2) _)
    exact KT.putAll t this
theorem len_putAll : ∀ {kvs acc : List (List Key × V)}, (kvs.foldl (fun acc kv => putK acc kv.1 kv.2) acc).length ≤ acc.length + kvs.length
  | [], acc => Nat.le_refl _
  | kv :: r, acc => by
    have h1 := len_putAll (kvs := r) (acc := putK acc kv.1 kv.2)
    have h2 := length_putK acc kv.1 kv.2
    rw [List.foldl_cons, List.length_cons]
    omega
section
variable {X : Cx}
theorem call_dictL (hc : X.calm = true) (hu : X.A.units + 2 < cLine) (t : Bool) : CallR X (.type "dict") (rDictL X.K t) := by
  cases t with
  | false =>
    intro pins s σ H xs us Q I r q
    obtain ⟨a, ps, kvs, e, hq, hp, q⟩ := q
    refine call_dictP hc pins s σ H xs us Q I r ⟨a, ps, (kvs.map fun (kv : List Key × V) => (kHd kv.1, kv.2) : List (Key × V)), e, hq, ?_, by exact q⟩
    clear q hq e
    induction hp with
    | nil => exact .nil
    | cons h t ih =>
      obtain ⟨y, e, k⟩ := h
      rcases k with ⟨z, _⟩ | ⟨_, b, e1, e2⟩
      · cases z
      · rw [e2] at e
        rw [List.map_cons]
        refine .cons ?_ ih
        simp only [e1]
        exact SqT.of e
  | true =>
    intro pins s σ H xs us Q I r q
    obtain ⟨a, ps, kvs, ex, hq, hp, q⟩ := q
    subst ex
    obtain ⟨u, eu, rx⟩ := vals1 r
    subst eu
    cases rx
    obtain ⟨its, rv, pl, hz⟩ := I.list hq
    have ei := refs_at rv
    subst ei
    rw [List.length_map] at hz
    obtain ⟨prs, rel, hl, hpr⟩ := pairsT I hp
    obtain ⟨o, n, ho, hcl, hd, hdat⟩ := pl
    refine call_dict_pairsH (knd := tupleKind (mixKind X.prog X.w)) (ps := prs) (PairArg.list a (ps.map Value.ref).toArray (fun j => ps.getD j 0) (prs.map fun p => (Value.ref p.2.1, p.2.2))) (I.ok.hd hc) (show X.A.in1.in1.units < cLine from hu) ⟨⟨o, n, ho, hcl, hd, hdat⟩, by simp [hl], fun j k v e => ?_⟩
      ⟨by simp, fun i k v e => ?_⟩ (fun h' hk x hx => ?_) (by simp [hl]; exact hz) fun h' tk hd' hk => ?_
    · rw [List.getElem?_map] at e
      obtain ⟨x, e1, e2⟩ := Option.map_eq_some_iff.mp e
      cases e2
      obtain ⟨b, f1, f2, _⟩ := hpr j x e1
      have fb : ps.getD j 0 = b := by rw [List.getD_eq_getElem?_getD, f1]; rfl
      show (List.map Value.ref ps).toArray[j]? = some (Value.ref (ps.getD j 0)) ∧ PairAt s.heap (ps.getD j 0) _ _
      rw [fb]
      exact ⟨by simp [f1], .inl ((show s.heap.IsTuple b _ from f2))⟩
    · have e : (prs.map fun p => (Value.ref p.2.1, p.2.2))[i]? = some (k, v) := e
      rw [List.getElem?_map] at e
      obtain ⟨x, e1, e2⟩ := Option.map_eq_some_iff.mp e
      cases e2
      exact ⟨x.1, x.2.1, e1, rfl⟩
    · obtain ⟨j, e⟩ := List.getElem?_of_mem hx
      obtain ⟨b, _, _, f3⟩ := hpr j x e
      have I' : HOk X.prog X.w H s.heap := I.hok
      have k0 := key_of I' f3
      have lt : x.2.1 < s.heap.objs.size := I.hok.lt f3
      exact key_of (P := X.prog) (w := X.w) (H := H) (h := s.heap) I' f3 |> fun z => by
        obtain ⟨its', rv', ob, g1, g2⟩ := z
        exact ⟨its', rv', ob, hk _ _ (Nat.ne_of_lt lt) (by simp) g1, g2⟩
    · have hm : (s.heap.objs.size == sysModules) = false := beq_eq_false_iff_ne.mpr (Nat.ne_of_gt I.big)
      have nw := I.hok.fresh (Nat.le_refl s.heap.objs.size)
      have kt := KT.putAll rel (.nil : KT H [] [])
      refine ⟨.ref s.heap.objs.size, upd H s.heap.objs.size (hoM true kvs), I.laid (t' := tk) (fun b ob e => hk b ob (by simp) e) (Nat.le_refl _) ?_, rfl, q _ nw⟩
      obtain ⟨od, es, ep, g1, g2, g3, g4, _, g5⟩ := hd'
      refine ⟨?_, hm, _, kt.keeps fun b ys e => ?_, od, es, ep, g1, g2, g3, g4, g5⟩
      · refine Nat.le_trans (len_putAll (acc := [])) ?_
        have l1 : ps.length = kvs.length := Paired.length hp
        rw [List.length_nil]
        omega
      · rw [upd_ne (ne_of_none e nw)]
        exact e
end
end T

-- text T27
set_option Elab.async false
set_option linter.all false
set_option maxRecDepth 100000
set_option maxHeartbeats 4000000
namespace T
open PySem L2 PyProof.Rows
/-! dict(d): keys of unlike hashes -/
def kHash : List Key → Option (List Int)
  | [] => some []
  | .inl i :: ks => match kHash ks with
    | some hs => some (hashInt i :: hs)
    | none => none
  | .inr _ :: _ => none
def tHash (k : List Key) : Option Int := match kHash k with
  | some hs => some (reduceHash (Builtin.Tuple.tupleHashOf hs))
  | none => none
def tHashes : List (List Key) → Option (List Int)
  | [] => some []
  | k :: ks => match tHash k with
    | some h => (match tHashes ks with
      | some hs => some (h :: hs)
      | none => none)
    | none => none
def hOk (ks : List (List Key)) : Bool := match tHashes ks with
  | some hs => decide hs.Nodup
  | none => false
theorem kHash_ok {P : Program} {w : World} : ∀ {ks : List Key} {hs : List Int}, kHash ks = some hs → ks.map (mixKind P w).hash = hs
  | [], hs, h => by cases h; rfl
  | .inl i :: ks, hs, h => by
    unfold kHash at h
    split at h
    · rename_i hs' e
      cases h
      rw [List.map_cons, kHash_ok e]
      rfl
    · cases h
  | .inr x :: ks, hs, h => by cases h
theorem tHashes_ok {P : Program} {w : World} : ∀ {ks : List (List Key)} {hs : List Int}, tHashes ks = some hs → ks.map (tupleKind (mixKind P w)).hash = hs
  | [], hs, h => by cases h; rfl
  | k :: ks, hs, h => by
    unfold tHashes at h
    split at h
    · rename_i x e
      split at h
      · rename_i xs e2
        cases h
        unfold tHash at e
        split at e
        · rename_i ys e3
          cases e
          rw [List.map_cons, tHashes_ok e2]
          congr 1
          show tupleKeyHash (mixKind P w) k = _
          unfold tupleKeyHash
          rw [kHash_ok e3]
        · cases e
      · cases h
    · cases h
def rDictC (t : Bool) : List V → Hp → VK → Prop := fun vs H Q => ∃ a ks xs, vs = [.ref a] ∧ Rd H a (hoD t ks xs) ∧ ks.length = xs.length ∧ (t = true → hOk ks = true) ∧ ∀ p, H p = none → Q (.ref p) (upd H p (hoD t ks xs))
section
variable {X : Cx}
theorem call_dictC (hc : X.calm = true) (hu : X.A.units + 2 < cLine) (t : Bool) : CallR X (.type "dict") (rDictC t) := by
  intro pins s σ H vs us Q I r q
  obtain ⟨a, ks, xs, e, rd, l, hk, q⟩ := q
  subst e
  obtain ⟨u, eu, rx⟩ := vals1 r
  subst eu
  cases rx
  cases t with
  | false => exact d_copyOf I rd fun p s' n I' => ⟨.ref p, _, I', rfl, q p n⟩
  | true =>
    obtain ⟨z, hd, ys, rel, dd⟩ := dt_rd I.hok rd
    refine call_dict_upd fun s1 e1 => ?_
    have I1 : Inv X pins σ H s1 := by
      subst e1
      exact I.kept (t' := s.toks) fun b ob g => Heap.get?_push_of_some _ g
    obtain ⟨_, _, ys1, rel1, dd1⟩ := dt_rd I1.hok rd
    have new1 : s1.heap.DictOfH (tupleKind (mixKind X.prog X.w)) s.heap.objs.size [] := by
      subst e1
      exact Heap.DictOfH.new s.heap
    have ek : ks = ys1.map (·.1) := by
      have h1 : ∀ {kvs : List (List Key × V)} {ys : List (List Key × Addr × Value)}, KT H kvs ys → kvs.map (·.1) = ys.map (·.1) := by
        intro kvs ys h
        induction h with
        | nil => rfl
        | cons g t ih => rw [List.map_cons, List.map_cons, ih, g.1]
      have h2 := h1 rel1
      rw [List.map_fst_zip (Nat.le_of_eq l)] at h2
      exact h2
    have hn : (ys1.map fun x => (tupleKind (mixKind X.prog X.w)).hash x.1).Nodup := by
      have h0 := hk rfl
      unfold hOk at h0
      split at h0
      · rename_i hs e
        have := tHashes_ok (P := X.prog) (w := X.w) e
        rw [ek, List.map_map] at this
        exact this ▸ of_decide_eq_true h0
      · cases h0
    have hty : ∀ x ∈ ys1, s1.TypeIs (.ref x.2.1) "tuple" := fun x hx => by
      obtain ⟨j, e⟩ := List.getElem?_of_mem hx
      have pg : ∀ {kvs : List (List Key × V)} {ys : List (List Key × Addr × Value)} {j : Nat}, KT H kvs ys → ys[j]? = some x → ∃ kv : List Key × V, H x.2.1 = some (.tup (kv.1.map kV)) := by
        intro kvs ys j h
        induction h generalizing j with
        | nil => intro e; simp at e
        | cons g t ih =>
          intro e
          cases j with
          | zero => simp at e; subst e; exact ⟨_, g.2.1⟩
          | succ j => exact ih (by simpa using e)
      obtain ⟨kv, g2⟩ := pg rel1 e
      obtain ⟨its, _, p, _⟩ := I1.tuple (SqT.of g2)
      obtain ⟨ob, f1, f2, _⟩ := p
      exact ⟨ob, f1, f2⟩
    have ne : s.heap.objs.size ≠ a := by
      obtain ⟨ob, _, _, g, _⟩ := dd
      exact Nat.ne_of_gt (Heap.lt_size g)
    have z1 : ys1.length ≤ sizeLine := by rw [← Paired.length rel1]; exact z
    refine updateFrom_dictH (d := s.heap.objs.size) (kvs := []) .none (show X.A.in1.in1.units < cLine from hu) ne hd new1 dd1 (.inr ⟨hty, hn⟩) (by simpa using z1) fun h' hd' ho' sb => ⟨rfl, ?_⟩
    rw [storedAllH_nil_of_nodup ys1 dd1.nodup] at hd'
    have hm : (s.heap.objs.size == sysModules) = false := beq_eq_false_iff_ne.mpr (Nat.ne_of_gt I.big)
    have nw := I.hok.fresh (Nat.le_refl s.heap.objs.size)
    refine ⟨.ref s.heap.objs.size, upd H s.heap.objs.size (hoD true ks xs), ?_, rfl, q _ nw⟩
    subst e1
    refine I.laid (t' := s.toks) (fun b ob e => (sb.2 b (Nat.ne_of_lt (Heap.lt_size e))).trans (Heap.get?_push_of_some _ e)) (Nat.le_refl _) ?_
    obtain ⟨od, es, ep, g1, g2, g3, g4, _, g5⟩ := hd'
    refine ⟨z, hm, ys1, KT.keeps rel1 fun b zs e => ?_, od, es, ep, g1, g2, g3, g4, g5⟩
    rw [upd_ne (ne_of_none e nw)]
    exact e
end
end T

-- text T28
set_option Elab.async false
set_option linter.all false
set_option maxRecDepth 100000
set_option maxHeartbeats 4000000
namespace T
open PySem L2 PyProof.Rows
section
variable {X : Cx} {G : Tab} {W : Wt} {σ : L2.St} {H HF HF' : Hp} {γ : Gam} {E : Ends}
/-! a[b] -/
def fIxD (a b : D) : Option BR := match a with
  | .dct t ks ds => (match dKey t b with
    | some q => (match getK ks ds q with
      | some d => some (.val d)
      | none => none)
    | none => none)
  | _ => fIx a b
theorem ok_ixD (hK : G.K = X.K) : OpOk G (fun x y H Q => rIx X.K x y H Q ∨ rIxD x y H Q) fIxD := by
  intro H HF x y d1 d2 br Q sub p1 p2 e h
  unfold fIxD at e
  split at e
  · rename_i t ks ds
    split at e
    · rename_i q e1
      split at e
      · rename_i d e2
        cases e
        obtain ⟨a, xs, rfl, rd, l, w, r⟩ := p1.dct sub
        obtain ⟨v, e3, rv⟩ := (getK_rep (q := q) r).2 d e2
        have g := dget_of (ds := ds) rd w e1 sub p2
        rw [e3] at g
        exact .inr ⟨a, v, rfl, g, h v H ⟨rfl, rv⟩⟩
      · cases e
    · cases e
  · exact .inl (ok_ix hK sub p1 p2 e h)
theorem ixd {a b : Expr} {pos : Pos} {ma mb : Gam → Out Ar} (hu : X.A.units + 64 < cLine) (hK : G.K = X.K) (ha : PE X a (tO G W ma)) (hb : PE X b (tO G W mb)) (hs : PlainIx b := by exact fun _ _ => rfl) : PE X (.Subscript a b pos) (tE G W (eOp fIxD ma mb)) :=
  ⟨fun pins s σ H Q I h => (pe_ix (ix_seq.or (ix_dict (by omega))) ha hb hs).run pins s σ H Q I (te_op (ok_ixD hK) h)⟩
/-! in -/
def fInD (neg : Bool) (a b : D) : Option BR := match b with
  | .dct t ks ds => (match dKey t a with
    | some q => some (.val (.bl (if neg = true then !(getK ks ds q).isSome else (getK ks ds q).isSome)))
    | none => none)
  | _ => fIn neg a b
theorem ok_inD (hK : G.K = X.K) (neg : Bool) : OpOk G (fun x y H Q => rIn X.K neg x y H Q ∨ rInD neg x y H Q) (fInD neg) := by
  intro H HF x y d1 d2 br Q sub p1 p2 e h
  unfold fInD at e
  split at e
  · rename_i t ks ds
    split at e
    · rename_i q e1
      cases e
      obtain ⟨a, xs, rfl, rd, l, w, r⟩ := p2.dct sub
      have g := dget_of (ds := ds) rd w e1 sub p1
      have e3 : (getK ks xs q).isSome = (getK ks ds q).isSome := by
        obtain ⟨r1, r2⟩ := getK_rep (q := q) r
        cases e4 : getK ks ds q with
        | none => rw [r1 e4]; rfl
        | some d => obtain ⟨v, e5, _⟩ := r2 d e4; rw [e5]; rfl
      refine .inr ⟨a, _, rfl, g, ?_⟩
      rw [e3]
      exact h _ H ⟨rfl, by unfold Rep; rfl⟩
    · cases e
  · exact .inl (ok_in hK neg sub p1 p2 e h)
theorem op_inA (hu : X.A.units + 64 < cLine) : OpR X (compareOp .In) (fun x y H Q => rIn X.K false x y H Q ∨ rInD false x y H Q) := op_in_seq.or (op_inD (by omega))
theorem op_notInA (hu : X.A.units + 64 < cLine) : OpR X (compareOp .NotIn) (fun x y H Q => rIn X.K true x y H Q ∨ rInD true x y H Q) := op_notIn_seq.or (op_notInD (by omega))
/-! ==, of dicts one of which is empty -/
def fEqD (neg : Bool) (a b : D) : Option BR := match a, b with
  | .dct _ ks _, .dct _ ls _ => (match ks.isEmpty || ls.isEmpty with
    | true => some (.val (.bl (if neg = true then !(ks.isEmpty && ls.isEmpty) else ks.isEmpty && ls.isEmpty)))
    | false => none)
  | a, b => fEq neg a b
theorem emp_n {α : Type} {ks : List α} : (ks.length == 0) = ks.isEmpty := by cases ks <;> rfl
theorem ok_eqD0 (hK : G.K = X.K) (neg : Bool) {rr : R2} (base : OpOk G rr (fEq neg)) : OpOk G (fun x y H Q => rr x y H Q ∨ rEq0 neg x y H Q) (fEqD neg) := by
  intro H HF x y d1 d2 br Q sub p1 p2 e h
  unfold fEqD at e
  split at e
  · rename_i t ks ds t2 ls es
    obtain ⟨a, xs, rfl, rd, l, w, r⟩ := p1.dct sub
    obtain ⟨b, ys, rfl, rd2, l2, w2, r2⟩ := p2.dct sub
    have n1 : hoN (hoD t ks xs) = ks.length := hoD_n (by rw [r.length, l])
    have n2 : hoN (hoD t2 ls ys) = ls.length := hoD_n (by rw [r2.length, l2])
    split at e
    · rename_i z
      cases e
      refine .inr ⟨a, b, _, _, rfl, rfl, rd, rd2, hoD_b, hoD_b, ?_, ?_⟩
      · rw [n1, n2]
        rcases Bool.or_eq_true_iff.mp z with z | z
        · exact .inl (by rw [List.isEmpty_iff.mp z]; rfl)
        · exact .inr (by rw [List.isEmpty_iff.mp z]; rfl)
      · rw [n1, n2, emp_n, emp_n]
        exact h _ H ⟨rfl, by unfold Rep; rfl⟩
    · cases e
  · exact .inl (base sub p1 p2 e h)
theorem ok_eqA (hK : G.K = X.K) : OpOk G (fun x y H Q => rEqD X.K x y H Q ∨ rEq0 false x y H Q) (fEqD false) := ok_eqD0 hK false (ok_eq hK)
theorem ok_neA (hK : G.K = X.K) : OpOk G (fun x y H Q => rNeD X.K x y H Q ∨ rEq0 true x y H Q) (fEqD true) := ok_eqD0 hK true (ok_ne hK)
theorem op_eqA (hr : X.A.units + 64 < cLine) : OpR X (compareOp .Eq) (fun x y H Q => rEqD X.K x y H Q ∨ rEq0 false x y H Q) := (op_eqD hr).or (op_eq0 (by omega))
theorem op_neA (hr : X.A.units + 64 < cLine) : OpR X (compareOp .NotEq) (fun x y H Q => rNeD X.K x y H Q ∨ rEq0 true x y H Q) := (op_neD hr).or (op_ne0 (by omega))
/-! dict(..) -/
def pairsD (t : Bool) : List D → Option (List (List Key × D))
  | [] => some []
  | .tup [k, d] :: r => (match dKey t k with
    | some q => (match pairsD t r with
      | some ps => some ((q, d) :: ps)
      | none => none)
    | none => none)
  | _ :: _ => none
def bDict (t : Bool) : List D → Option BR
  | [.lst ps] => (match pairsD t ps with
    | some kvs => some (.newD t (addAll ([], []) kvs).1 (addAll ([], []) kvs).2)
    | none => none)
  | [.dct t' ks ds] => (match t' == t && (!t || hOk ks) with
    | true => some (.newD t ks ds)
    | false => none)
  | _ => none
theorem addAll_rep : ∀ {kvs : List (List Key × D)} {kws : List (List Key × V)} {ks : List (List Key)} {ds : List D} {xs : List V}, Paired (fun p q => p.1 = q.1 ∧ Rep G HF p.2 q.2) kvs kws → RepL G HF ds xs →
    (addAll (ks, ds) kvs).1 = (addAll (ks, xs) kws).1 ∧ RepL G HF (addAll (ks, ds) kvs).2 (addAll (ks, xs) kws).2
  | _, _, ks, ds, xs, .nil, r => ⟨rfl, r⟩
  | _, _, ks, ds, xs, .cons (a := p) (b := q) h t, r => by
    obtain ⟨e, rq⟩ := h
    show (addAll (addK (ks, ds) p.1 p.2) _).1 = (addAll (addK (ks, xs) q.1 q.2) _).1 ∧ RepL G HF (addAll (addK (ks, ds) p.1 p.2) _).2 (addAll (addK (ks, xs) q.1 q.2) _).2
    rw [← e]
    unfold addK
    by_cases hh : hasK ks p.1 = true
    · rw [if_pos hh, if_pos hh]
      exact addAll_rep t (RepL.setK rq r)
    · rw [if_neg hh, if_neg hh]
      exact addAll_rep t (RepL.append r (.one rq))
theorem addAll_len {α : Type} : ∀ {kvs : List (List Key × α)} {p : List (List Key) × List α}, p.1.length = p.2.length → (addAll p kvs).1.length = (addAll p kvs).2.length
  | [], p, l => l
  | (q, v) :: r, p, l => addAll_len (kvs := r) (p := addK p q v) (addK_len l)
theorem pairsD_rep {t : Bool} (sub : Sub HF H) : ∀ {ps : List D} {kvs : List (List Key × D)} {xs : List V}, pairsD t ps = some kvs → RepL G HF ps xs →
    ∃ (as : List Addr) (kws : List (List Key × V)), xs = as.map V.ref ∧ Paired (fun p kv => ∃ y, H p = some (.tup [y, kv.2]) ∧ KeyAt H t kv.1 y) as kws ∧ Paired (fun p q => p.1 = q.1 ∧ Rep G HF p.2 q.2) kvs kws ∧ (t = false → ∀ kv ∈ kws, ∃ a, kv.1 = [a])
  | [], kvs, xs, e, r => by
    cases e
    unfold RepL at r
    subst r
    exact ⟨[], [], rfl, .nil, .nil, fun _ _ h => by cases h⟩
  | d :: ps, kvs, xs, e, r => by
    unfold pairsD at e
    split at e
    · rename_i h; cases h
    · rename_i k dv r' h
      cases h
      split at e
      · rename_i q e1
        split at e
        · rename_i kv' e2
          cases e
          unfold RepL at r
          obtain ⟨v, vs, rfl, r1, r2⟩ := r
          obtain ⟨as, kws, g1, g2, g3, g4⟩ := pairsD_rep sub e2 r2
          unfold Rep at r1
          obtain ⟨a, ys, rfl, h1, r3⟩ := r1
          unfold RepL at r3
          obtain ⟨y, zs, rfl, r4, r5⟩ := r3
          unfold RepL at r5
          obtain ⟨z, zs', rfl, r6, r7⟩ := r5
          unfold RepL at r7
          subst r7
          have kl := key_lies e1 sub (.inl r4)
          refine ⟨a :: as, (q, z) :: kws, by rw [g1]; rfl, .cons ⟨y, sub _ _ h1, kl⟩ g2, .cons ⟨rfl, r6⟩ g3, fun ht kv hkv => ?_⟩
          rcases List.mem_cons.mp hkv with rfl | hkv
          · rcases kl with ⟨z1, _⟩ | ⟨_, b, z2, _⟩
            · rw [ht] at z1; cases z1
            · exact ⟨b, z2⟩
          · exact g4 ht kv hkv
        · cases e
      · cases e
    · cases e
theorem ok_dict (hK : G.K = X.K) (t : Bool) : CallOk G (fun xs H Q => rDictL X.K t xs H Q ∨ rDictC t xs H Q) (bDict t) := by
  intro H HF xs ds br Q sub p e h
  unfold bDict at e
  split at e
  · rename_i ps
    obtain ⟨v, rfl, q⟩ := pks_one p
    split at e
    · rename_i kvs e1
      cases e
      obtain ⟨a, ys, rfl, h1, r⟩ := q.lst sub
      obtain ⟨as, kws, rfl, g2, g3, g4⟩ := pairsD_rep sub e1 r
      obtain ⟨f1, f2⟩ := addAll_rep (ks := []) g3 .nil
      obtain ⟨m1, m2⟩ := hoM_eq (t := t) g4
      refine .inl ⟨a, as, kws, rfl, SqL.of h1, g2, fun l n => h _ _ ⟨l, (addAll ([], []) kws).2, rfl, n, ?_, addAll_len rfl, ?_, f2⟩⟩
      · rw [m1, f1]
      · rw [f1]; exact m2
    · cases e
  · rename_i t' ks ds
    obtain ⟨v, rfl, q⟩ := pks_one p
    split at e
    · rename_i z
      cases e
      obtain ⟨z1, z2⟩ := Bool.and_eq_true_iff.mp z
      have z1 : t' = t := by simpa using z1
      subst z1
      obtain ⟨a, ys, rfl, rd, l, w, r⟩ := q.dct sub
      refine .inr ⟨a, ks, ys, rfl, rd, by rw [r.length, l], fun e => ?_, fun l' n => h _ _ ⟨l', ys, rfl, n, rfl, l, w, r⟩⟩
      subst e
      simpa using z2
    · cases e
  · cases e
theorem call_dictA (hc : X.calm = true) (hu : X.A.units + 64 < cLine) (t : Bool) : CallR X (.type "dict") (fun xs H Q => rDictL X.K t xs H Q ∨ rDictC t xs H Q) := by
  intro pins s σ H xs us Q I r q
  rcases q with q | q
  · exact call_dictL hc (by omega) t pins s σ H xs us Q I r q
  · exact call_dictC hc (by omega) t pins s σ H xs us Q I r q
end
end T

-- text T29
set_option Elab.async false
set_option linter.all false
set_option maxRecDepth 100000
set_option maxHeartbeats 4000000
namespace T
open PySem L2 PyProof.Rows
section
variable {X : Cx} {G : Tab} {W : Wt} {σ : L2.St} {H HF HF' : Hp} {γ : Gam} {E : Ends}
/-! d.get(k), d.get(k, x) -/
def dctOf : Option D → Option (Bool × List (List Key) × List D)
  | some (.dct t ks ds) => some (t, ks, ds)
  | _ => none
theorem dctOf_some {o : Option D} {t : Bool} {ks : List (List Key)} {ds : List D} (h : dctOf o = some (t, ks, ds)) : o = some (.dct t ks ds) := by
  unfold dctOf at h
  split at h
  · cases h; rfl
  · cases h
theorem isD_of {a : Addr} {t : Bool} {ks : List (List Key)} {xs : List V} (rd : Rd H a (hoD t ks xs)) : IsD H a := by
  cases t with
  | false => exact .inl ⟨_, rd⟩
  | true => exact .inr ⟨_, rd⟩
def eGet2 (mo mk mx : Gam → Out Ar) : Gam → Out R := fun γ => (mo γ).bind fun a γ1 => match dctOf (look γ1 a) with
  | some _ => (mk γ1).bind fun b γ2 => (mx γ2).bind fun c γ3 => (match dctOf (look γ3 a) with
    | some (t, ks, ds) => (match look γ3 b with
      | some kd => (match dKey t kd with
        | some q => (match c with
          | .d x => .ok (.fz ((getK ks ds q).getD x)) γ3
          | .sl _ => .bad)
        | none => .bad)
      | none => .bad)
    | none => .bad)
  | none => .bad
theorem te_get2 {mo mk mx : Gam → Out Ar} {Q : VK} (h : tE G W (eGet2 mo mk mx) σ H Q) : tDGet2 (tO G W mo) (tO G W mk) (tO G W mx) σ H Q := by
  obtain ⟨HF, γ, k, p⟩ := h
  refine ⟨HF, γ, k, post_bind (r1 := rO G) p fun a γ1 v H1 HF1 k1 s1 r1 p1 => ?_⟩
  have p1 := post_from later_E s1 p1
  split at p1
  · rename_i z e0
    obtain ⟨t0, ks0, ds0⟩ := z
    obtain ⟨ad, xs0, rfl, rd0, _⟩ := (look_pk k1 r1 (dctOf_some e0)).dct k1.sub
    refine ⟨ad, rfl, isD_of rd0, HF1, γ1, k1, post_bind (r1 := rO G) p1 fun b γ2 y H2 HF2 k2 s2 r2 p2 => ?_⟩
    refine ⟨HF2, γ2, k2, post_bind (r1 := rO G) (post_from later_E s2 p2) fun c γ3 z H3 HF3 k3 s3 r3 p3 => ?_⟩
    have p3 := post_from later_E s3 p3
    split at p3
    · rename_i t ks ds e1
      split at p3
      · rename_i kd e2
        split at p3
        · rename_i q e3
          split at p3
          · rename_i x
            obtain ⟨ad', xs, ea, rd, l, w, r⟩ := (look_pk k3 (ArOk.mono (s2.mono.trans s3.mono) r1) (dctOf_some e1)).dct k3.sub
            cases ea
            have g := dget_of (ds := ds) rd w e3 k3.sub (look_pk k3 (ArOk.mono s3.mono r2) e2)
            refine ⟨_, g, p3 _ H3 HF3 k3 .refl ?_⟩
            obtain ⟨f1, f2⟩ := getK_rep (q := q) r
            cases e4 : getK ks ds q with
            | none => rw [f1 e4]; exact r3
            | some d =>
              obtain ⟨v, e5, rv⟩ := f2 d e4
              rw [e5]
              exact rv
          · exact p3.elim
        · exact p3.elim
      · exact p3.elim
    · exact p3.elim
  · exact p1.elim
def eGet1 (mo mk : Gam → Out Ar) : Gam → Out R := fun γ => (mo γ).bind fun a γ1 => match dctOf (look γ1 a) with
  | some _ => (mk γ1).bind fun b γ2 => (match dctOf (look γ2 a) with
    | some (t, ks, ds) => (match look γ2 b with
      | some kd => (match dKey t kd with
        | some q => .ok (.fz ((getK ks ds q).getD .non)) γ2
        | none => .bad)
      | none => .bad)
    | none => .bad)
  | none => .bad
theorem te_get1 {mo mk : Gam → Out Ar} {Q : VK} (h : tE G W (eGet1 mo mk) σ H Q) : tDGet1 (tO G W mo) (tO G W mk) σ H Q := by
  obtain ⟨HF, γ, k, p⟩ := h
  refine ⟨HF, γ, k, post_bind (r1 := rO G) p fun a γ1 v H1 HF1 k1 s1 r1 p1 => ?_⟩
  have p1 := post_from later_E s1 p1
  split at p1
  · rename_i z e0
    obtain ⟨t0, ks0, ds0⟩ := z
    obtain ⟨ad, xs0, rfl, rd0, _⟩ := (look_pk k1 r1 (dctOf_some e0)).dct k1.sub
    refine ⟨ad, rfl, isD_of rd0, HF1, γ1, k1, post_bind (r1 := rO G) p1 fun b γ3 y H3 HF3 k3 s3 r3 p3 => ?_⟩
    have p3 := post_from later_E s3 p3
    split at p3
    · rename_i t ks ds e1
      split at p3
      · rename_i kd e2
        split at p3
        · rename_i q e3
          obtain ⟨ad', xs, ea, rd, l, w, r⟩ := (look_pk k3 (ArOk.mono s3.mono r1) (dctOf_some e1)).dct k3.sub
          cases ea
          have g := dget_of (ds := ds) rd w e3 k3.sub (look_pk k3 r3 e2)
          refine ⟨_, g, p3 _ H3 HF3 k3 .refl ?_⟩
          obtain ⟨f1, f2⟩ := getK_rep (q := q) r
          cases e4 : getK ks ds q with
          | none => rw [f1 e4]; exact flat_rep (G := G) (HF := HF3) (d := .non) (v := .non) rfl
          | some d =>
            obtain ⟨v, e5, rv⟩ := f2 d e4
            rw [e5]
            exact rv
        · exact p3.elim
      · exact p3.elim
    · exact p3.elim
  · exact p1.elim
theorem gt2 {o e f : Expr} {apos cpos : Pos} {mo mk mx : Gam → Out Ar} (hu : X.A.units + 64 < cLine) (ho : PE X o (tO G W mo)) (he : PE X e (tO G W mk)) (hf : PE X f (tO G W mx)) (m : M2 X o "get" apos e f cpos := by exact ⟨rfl, rfl, rfl, rfl⟩) : PE X (.Call (.Attribute o "get" apos) [e, f] [] cpos) (tE G W (eGet2 mo mk mx)) :=
  ⟨fun pins s σ H Q I h => (pe_dget2 (by omega) ho he hf m).run pins s σ H Q I (te_get2 h)⟩
theorem gt1 {o e : Expr} {apos cpos : Pos} {mo mk : Gam → Out Ar} (hu : X.A.units + 64 < cLine) (ho : PE X o (tO G W mo)) (he : PE X e (tO G W mk)) (m : M1 X o "get" apos e cpos := by exact ⟨rfl, rfl, rfl, rfl⟩) : PE X (.Call (.Attribute o "get" apos) [e] [] cpos) (tE G W (eGet1 mo mk)) :=
  ⟨fun pins s σ H Q I h => (pe_dget1 (by omega) ho he m).run pins s σ H Q I (te_get1 h)⟩
/-! x[i] = v of a list or a dict in slot x -/
def Sl.dat : Sl → Option D
  | .own d => some d
  | .io d => some d
  | _ => none
def Sl.put : Sl → D → Sl
  | .own _, d => .own d
  | .io _, d => .io d
  | s, _ => s
theorem Sl.dat_some {s : Sl} {d : D} (h : s.dat = some d) : s = .own d ∨ s = .io d := by
  unfold Sl.dat at h
  split at h <;> cases h
  · exact .inl rfl
  · exact .inr rfl
theorem own_dat (k : Ok G σ H HF γ) {i : Nat} {s : Sl} {d : D} (e : γ[i]? = some s) (h : s.dat = some d) : ∃ a, σ[i]? = some (some (.ref a)) ∧ OwnAt σ γ i a ∧ OwnRep G HF H d a := by
  have z := k.sl i s e
  rcases Sl.dat_some h with rfl | rfl
  · obtain ⟨a, ea, r⟩ := z
    exact ⟨a, join_eq ea, ownAt_of e rfl ea, r⟩
  · obtain ⟨a, ea, r⟩ := z
    exact ⟨a, join_eq ea, ownAt_of e rfl ea, r⟩
theorem own_putW (k : Ok G σ H HF γ) {i : Nat} {s : Sl} {d d2 : D} {a : Addr} {w : HO} (e : γ[i]? = some s) (h : s.dat = some d) (o : OwnAt σ γ i a) (r : OwnRep G HF (upd H a w) d2 a) :
    Ok G σ (upd H a w) HF (γ.set i (s.put d2)) ∧ Stp σ γ H HF σ (γ.set i (s.put d2)) (upd H a w) HF := by
  obtain ⟨u, ea, na⟩ := k.own o
  have hl : i < γ.length := (List.getElem?_eq_some_iff.mp e).1
  have sow : s.owns = true := by rcases Sl.dat_some h with rfl | rfl <;> rfl
  have pio : (s.put d2).isIo = s.isIo := by rcases Sl.dat_some h with rfl | rfl <;> rfl
  have ow : ∀ {j b}, OwnAt σ (γ.set i (s.put d2)) j b → OwnAt σ γ j b := fun {j b} q => by
    obtain ⟨⟨t, et, w⟩, q⟩ := q
    rcases getE_set et with ⟨rfl, _, _⟩ | ⟨_, et⟩
    · exact ⟨⟨s, e, sow⟩, q⟩
    · exact ⟨⟨t, et, w⟩, q⟩
  refine ⟨⟨k.subT.move (fun b v q => ?_) (Sub.refl _) (fun q _ ps eq => ⟨upd_ne fun z => k.ntb o ps (z ▸ eq), id⟩), by rw [List.length_set]; exact k.len, fun j t et => ?_, fun j l b h1 h2 => k.dis j l b (ow h1) (ow h2)⟩, ⟨Sub.refl _, fun b nb nw => ⟨.inl (upd_ne fun z => nw i (by rw [z]; exact o)), .inl rfl⟩, fun j b q => .inl ⟨j, ow q⟩, fun j t et w => ?_⟩⟩
  · rw [upd_ne (fun z => by rw [z, na] at q; cases q)]
    exact k.sub _ _ q
  · rcases getE_set et with ⟨rfl, rfl, _⟩ | ⟨n, et⟩
    · have q := o.2
      rcases Sl.dat_some h with rfl | rfl
      · exact ⟨a, by rw [q]; rfl, r⟩
      · exact ⟨a, by rw [q]; rfl, r⟩
    · refine (k.sl j t et).keep (Sub.refl _) fun b w q => ?_
      have ob := ownAt_of et w q
      exact ⟨upd_ne fun z => n (k.dis _ _ _ (by rw [← z]; exact ob) o), (k.own ob).elim fun _ z => z.2⟩
  · by_cases n : j = i
    · subst n
      rw [e] at et; cases et
      exact ⟨⟨_, List.getElem?_set_self hl, by rw [pio]; exact w⟩, rfl⟩
    · exact ⟨⟨t, by rw [List.getElem?_set_ne (Ne.symm n)]; exact et, w⟩, rfl⟩
/-- what a store makes of a list or a dict -/
def setD : D → D → D → Option D
  | .lst ds, i, d => (match i with
    | .int i => (match ixN ds.length i with
      | some j => some (.lst (ds.set j d))
      | none => none)
    | _ => none)
  | .dct t ks ds, k, d => (match dKey t k with
    | some q => (match fitN (ds.length + 1) with
      | true => some (putD t ks ds q d)
      | false => none)
    | none => none)
  | _, _, _ => none
def rSetA : V → V → V → Hp → (Hp → Prop) → Prop := fun o i v H Q => rSetL o i v H Q ∨ rSetD o i v H Q
theorem set_any (hu : X.A.units + 64 < cLine) : PSet X rSetA := PSet.or set_list (set_dict (by omega))
theorem setD_ok (sub : Sub HF H) {a : Addr} {d d2 i v : D} {x y : V} {Q : Hp → Prop} (o : OwnRep G HF H d a) (e : setD d i v = some d2) (pi : Pk G HF H i x) (rv : Rep G HF v y) (h : ∀ w, OwnRep G HF (upd H a w) d2 a → Q (upd H a w)) : rSetA (.ref a) x y H Q := by
  cases d with
  | lst ds =>
    cases i with
    | int j =>
      unfold setD at e
      simp only at e
      split at e
      · rename_i n en
        cases e
        obtain ⟨xs, e1, e2, r⟩ := o
        exact .inl ⟨a, xs, j, n, rfl, pi.int, e1, by rw [r.length]; exact en, h _ ⟨_, upd_same, e2, RepL.set' n r rv⟩⟩
      · cases e
    | _ => cases e
  | dct t ks ds =>
    unfold setD at e
    simp only at e
    split at e
    · rename_i q eq
      split at e
      · rename_i f
        cases e
        obtain ⟨xs, e1, e2, l, w, r⟩ := o
        have lx : ks.length = xs.length := by rw [r.length, l]
        exact .inr ⟨a, _, rfl, dput_of (ds := ds) e1 lx (by rw [r.length]; exact Nat.lt_of_succ_le (fitN_ok f)) w eq sub pi, h _ (hoD_put (a := a) e2 l w eq r rv)⟩
      · cases e
    · cases e
  | _ => cases e
def sPut (x : Nat) (me mi : Gam → Out Ar) : Gam → OutS := fun γ => (me γ).toS fun a γ1 => match a with
  | .sl _ => .bad
  | .d v => (match γ1[x]? with
    | some s0 => (match s0.dat with
      | some _ => (mi γ1).toS fun b γ2 => (match look γ2 b with
        | some i => (match γ2[x]? with
          | some s => (match s.dat with
            | some d => (match setD d i v with
              | some d2 => .nx (γ2.set x (s.put d2))
              | none => .bad)
            | none => .bad)
          | none => .bad)
        | none => .bad)
      | none => .bad)
    | none => .bad)
theorem ts_put {x : Nat} {me mi : Gam → Out Ar} (h : tS G W (sPut x me mi) E σ H) : tAsg (tO G W me) (gSub (tO G W (oSl x)) (tO G W mi) rSetA) E σ H := by
  obtain ⟨HF, γ, k, p⟩ := h
  refine ⟨HF, γ, k, postS_bind (r1 := rO G) p fun a γ1 v H1 HF1 k1 s1 r1 p1 => ?_⟩
  cases a with
  | sl i => exact p1.elim
  | d d =>
  simp only at p1
  have rd : Rep G HF1 d v := r1
  have p1 := postS_from s1 p1
  cases e0 : γ1[x]? with
  | none => rw [e0] at p1; exact p1.elim
  | some s0 =>
  rw [e0] at p1
  simp only at p1
  cases l0 : s0.dat with
  | none => rw [l0] at p1; exact p1.elim
  | some ds0 =>
  rw [l0] at p1
  simp only at p1
  obtain ⟨a, q0, o0, _⟩ := own_dat k1 e0 l0
  have eo : oSl x γ1 = .ok (.sl x) γ1 := by
    unfold oSl
    rw [e0]
    rcases Sl.dat_some l0 with rfl | rfl <;> rfl
  refine ⟨HF1, γ1, k1, ?_⟩
  rw [eo]
  intro w H2 HF2 k2 s2 rv
  have rv' : σ[x]? = some (some w) := rv
  rw [q0] at rv'
  cases rv'
  refine ⟨HF2, γ1, k2, postS_bind (r1 := rO G) (postS_from s2 p1) fun b γ2 u H3 HF3 k3 s3 r3 p3 => ?_⟩
  have p3 := postS_from s3 p3
  split at p3
  · rename_i i el
    split at p3
    · rename_i s e2
      split at p3
      · rename_i ds e3
        split at p3
        · rename_i d2 ej
          obtain ⟨a2, q2, o2, rl⟩ := own_dat k3 e2 e3
          rw [q0] at q2
          cases q2
          refine setD_ok k3.sub rl ej (look_pk k3 r3 el) (Rep.mono (s2.mono.trans s3.mono) _ _ rd) fun w r => ?_
          obtain ⟨k4, s4⟩ := own_putW k3 e2 e3 o2 r
          exact p3 σ _ HF3 k4 s4
        · exact p3.elim
      · exact p3.elim
    · exact p3.elim
  · exact p3.elim
theorem pu {x : Nat} {o i e : Expr} {pos pos2 : Pos} {me mi : Gam → Out Ar} (hu : X.A.units + 64 < cLine) (ho : PE X o (tO G W (oSl x))) (hi : PE X i (tO G W mi)) (he : PE X e (tO G W me))
    (ha : ∀ v, assign (.Subscript o i pos2) X.env v = (do
      let ov ← holding [v] (eval o X.env)
      let iv ← holding [v, ov] (eval i X.env)
      standAt pos2
      holding [v, ov, iv] (setItem ov iv v)
      release [v, ov, iv] []) := by intro _; rfl) (hs : swapsWithSole [.Subscript o i pos2] e pos.line X.env = pure false := by rfl) (hw : swappedStores [.Subscript o i pos2] e X.env = pure none := by rfl)
    (h1 : (assignEach [.Subscript o i pos2] X.env).map (·.2) = [assign (.Subscript o i pos2) X.env] := by rfl) : PS X (.Assign [.Subscript o i pos2] e pos) (tS G W (sPut x me mi)) :=
  ⟨fun pins s σ H D I h => (ps_asg he (pg_sub ho hi (set_any hu) ha) hs hw h1).run pins s σ H D I (ts_put h)⟩
end
end T

-- text T30
set_option Elab.async false
set_option linter.all false
set_option maxRecDepth 100000
set_option maxHeartbeats 4000000
namespace T
open PySem L2 PyProof.Rows
/-! a display of one pair -/
def tDisp1 (t : Bool) (tk tv : TE) : TE := fun σ H Q => ∀ p, H p = none → tk σ (upd H p (hoD t [] [])) fun x H1 => tv σ H1 fun y H2 => H2 p = some (hoD t [] []) ∧ ∃ k, KeyAt H2 t k x ∧ Q (.ref p) (upd H2 p (hoD t [k] [y]))
theorem pe_disp1 {X : Cx} {pos : Pos} {k v : Expr} {tk tv : TE} (hu : X.A.units < cLine) (t : Bool) (hk : PE X k tk) (hv : PE X v tv) : PE X (.Dict [some k] [v] pos) (tDisp1 t tk tv) := by
  refine ⟨fun pins s σ H Q I q => ?_⟩
  have hn := I.hok.fresh (Nat.le_refl s.heap.objs.size)
  cases t with
  | false =>
    have I1 := I.laid (a := s.heap.objs.size) (o := .dK []) (h' := s.heap.push { cls := .type "dict", data := .dict #[] }) (t' := s.toks) (fun _ _ q => Heap.get?_push_of_some _ q) (Nat.le_refl _) (dk_empty s.heap I.big)
    refine wpAny_Dict_walk (knd := mixKind X.prog X.w) rfl rfl (by simp) (by show 1 ≤ 15; decide) ?_
    refine pairTrees_cons_walk (thn (hk.run pins _ σ _ _ I1 (q _ hn)) fun u s1 ⟨x, H1, I2, rx, q1⟩ => thn (hv.run pins s1 σ H1 _ I2 q1) fun w s2 ⟨y, H2, I3, ry, e, k, ka, q2⟩ => pairTrees_nil_walk ?_)
    rcases ka with ⟨z, _⟩ | ⟨_, a, rfl, rfl⟩
    · cases z
    · have e : H2 s.heap.objs.size = some (.dK []) := e
      obtain ⟨z, hd, vs0, r0, dd⟩ := dk_of I3.hok e
      cases r0
      refine ⟨[(a, w)], ⟨kV_is rx, rfl, True.intro⟩, dd, fun h' dd' hs => ⟨.ref s.heap.objs.size, _, ?_, rfl, q2⟩⟩
      have he : ∃ q, h'.get? s.heap.objs.size = some q := let ⟨q, _, _, hq, _⟩ := dd'; ⟨q, hq⟩
      exact d_write I3 (by rw [e]; exact True.intro) hs he (dk_new (by show 1 ≤ sizeLine; decide) hd (.cons ⟨rfl, ry⟩ .nil) dd')
  | true =>
    have I1 := I.laid (a := s.heap.objs.size) (o := .dT []) (h' := s.heap.push { cls := .type "dict", data := .dict #[] }) (t' := s.toks) (fun _ _ q => Heap.get?_push_of_some _ q) (Nat.le_refl _) (dt_empty s.heap I.big)
    have ne : pairTrees [some k] [v] X.env pos ≠ [] := by simp [pairTrees]
    rw [arm_eval_Dict, zip_pairTrees [some k] [v] X.env pos rfl rfl, dictDisplay_pairs _ ne (by show 1 < 17; decide)]
    refine wpAny_bind (wpAny_standAt (wpAny_bind (wpAny_subDictH (knd := tupleKind (mixKind X.prog X.w)) (Q := fun d s' => wpAny (model X.prog X.w) X.A (pure (Value.ref d)) (EP X pins σ Q) X.xe s') hu (by show 1 ≤ 15; decide) ?_)))
    refine pairTrees_cons_walk (thn (hk.run pins _ σ _ _ I1 (q _ hn)) fun u s1 ⟨x, H1, I2, rx, q1⟩ => thn (hv.run pins s1 σ H1 _ I2 q1) fun w s2 ⟨y, H2, I3, ry, e, k, ka, q2⟩ => pairTrees_nil_walk ?_)
    rcases ka with ⟨_, b, rfl, hb⟩ | ⟨z, _⟩
    · cases (show u = Value.ref b from rx)
      have e : H2 s.heap.objs.size = some (.dT []) := e
      obtain ⟨z, hd, ys, rel, dd⟩ := dt_of I3.hok e
      cases rel
      refine ⟨[(k, b, w)], ⟨rfl, rfl, key_of I3.hok hb, True.intro⟩, dd, fun h' tk' dk hs => wpAny_pure ⟨.ref s.heap.objs.size, _, ?_, rfl, q2⟩⟩
      obtain ⟨od, es, ep, g1, g2, g3, g4, _, g5⟩ := dk
      refine d_write I3 (by rw [e]; exact True.intro) hs ⟨od, g1⟩ ⟨by show 1 ≤ sizeLine; decide, hd, [(k, b, w)], .cons ⟨rfl, ?_, ry⟩ .nil, od, es, ep, g1, g2, g3, g4, g5⟩
      rw [upd_ne (ne_of hb e (fun z => nomatch z))]
      exact hb
    · cases z
section
variable {X : Cx} {G : Tab} {W : Wt} {σ : L2.St} {H HF HF' : Hp} {γ : Gam} {E : Ends}
/-- the parts of a thing that is being made: what is left is told from the start of all -/
theorem post_bind2 {α β α' β' : Type} {r1 : RelK α β} {r2 : RelK α' β'} {γ0 : Gam} {H0 HF0 : Hp} {Q1 : β → Hp → Prop} {Q : β' → Hp → Prop} {f : α → Gam → Out α'} (s0 : Stp σ γ0 H0 HF0 σ γ H HF) : ∀ {o : Out α}, post r2 G W σ γ0 H0 HF0 Q (o.bind f) →
    (∀ a γ1 b1 H1 HF1, Ok G σ H1 HF1 γ1 → Stp σ γ H HF σ γ1 H1 HF1 → r1 σ γ H γ1 H1 HF1 a b1 → post r2 G W σ γ0 H0 HF0 Q (f a γ1) → Q1 b1 H1) → post r1 G W σ γ H HF Q1 o
  | .ok a γ1, h, k => fun b H1 HF1 h1 h2 h3 => k a γ1 b H1 HF1 h1 h2 h3 h
  | .er x γ1, h, _ => fun c d H' HF' k1 k2 k3 => h c d H' HF' k1 (s0.trans k2) k3
  | .bad, h, _ => h
def eDisp1 (t : Bool) (mk mv : Gam → Out Ar) : Gam → Out R := fun γ => (mk γ).bind fun a γ1 => (mv γ1).bind fun b γ2 => match look γ2 a with
  | some kd => (match dKey t kd with
    | some q => (match b with
      | .d v => .ok (.own (.dct t [q] [v])) γ2
      | .sl _ => .bad)
    | none => .bad)
  | none => .bad
theorem te_disp1 {t : Bool} {mk mv : Gam → Out Ar} {Q : VK} (h : tE G W (eDisp1 t mk mv) σ H Q) : tDisp1 t (tO G W mk) (tO G W mv) σ H Q := by
  obtain ⟨HF, γ, k, p⟩ := h
  intro P n
  have ls : Stp σ γ H HF σ γ (upd H P (hoD t [] [])) HF := Stp.laid n
  refine ⟨HF, γ, k.laid n, post_bind2 (r1 := rO G) ls p fun a γ1 x H1 HF1 k1 s1 r1 p1 => ?_⟩
  refine ⟨HF1, γ1, k1, post_bind2 (r1 := rO G) (ls.trans s1) p1 fun b γ2 y H2 HF2 k2 s2 r2 p2 => ?_⟩
  have s3 := s1.trans s2
  have nt : ¬ NT (upd H P (hoD t [] []) P) := by
    rintro ⟨ys, z⟩
    rw [upd_same] at z
    cases t <;> cases z
  have no : ∀ i, ¬ OwnAt σ γ i P := fun i z => by
    obtain ⟨u, e, _⟩ := k.own z
    rw [n] at e; cases e
  obtain ⟨f1, f2⟩ := s3.frame P (by rw [upd_same]; simp) no
  rw [upd_same] at f1
  have f1 := f1.eq (by intro ps z; cases t <;> cases z)
  have f2 : HF2 P = none := (or_nt f2 nt).trans (k.hf_none n)
  have no2 : ∀ j, ¬ OwnAt σ γ2 j P := fun j z => by
    rcases s3.own j P z with ⟨i, z⟩ | z
    · exact no i z
    · rw [upd_same] at z; cases z
  refine ⟨f1, ?_⟩
  split at p2
  · rename_i kd e1
    split at p2
    · rename_i q e2
      split at p2
      · rename_i v
        refine ⟨q, key_lies e2 k2.sub (look_pk k2 (ArOk.mono s2.mono r1) e1), ?_⟩
        have s5 := ls.trans s3
        have w : wfK t [q] = true := wfK_snoc (t := t) (ks := []) (d := kd) (q := q) (by cases t <;> rfl) e2
        refine p2 (.ref P) (upd H2 P (hoD t [q] [y])) HF2 (k2.put f2 no2 (by intro ps z; rw [f1] at z; cases t <;> cases z)) ⟨s5.mono, fun b nb w => ?_, s5.own, s5.io⟩ ⟨P, rfl, ⟨[y], upd_same, f2, rfl, w, .one r2⟩, no2, .inl n⟩
        obtain ⟨g1, g2⟩ := s5.frame b nb w
        exact ⟨by rw [upd_ne (a := P) (b := b) (fun z => nb (by rw [z]; exact n))]; exact g1, g2⟩
      · exact p2.elim
    · exact p2.elim
  · exact p2.elim
theorem di1 {pos : Pos} {k v : Expr} {mk mv : Gam → Out Ar} (hu : X.A.units + 64 < cLine) (t : Bool) (hk : PE X k (tO G W mk)) (hv : PE X v (tO G W mv)) : PE X (.Dict [some k] [v] pos) (tE G W (eDisp1 t mk mv)) :=
  ⟨fun pins s σ H Q I h => (pe_disp1 (by omega) t hk hv).run pins s σ H Q I (te_disp1 h)⟩
end
end T

-- text T31
set_option Elab.async false
set_option linter.all false
set_option maxRecDepth 100000
set_option maxHeartbeats 4000000
namespace T
open PySem L2 PyProof.Rows
/-! orders by places -/
/-- a strict order of which any two unlike ones stand in one way -/
structure Sto {α : Type} (lt : α → α → Bool) : Prop where
  irr : ∀ x, lt x x = false
  tr : ∀ x y z, lt x y = true → lt y z = true → lt x z = true
  tot : ∀ x y, x = y ∨ lt x y = true ∨ lt y x = true
def lexW {α : Type} [DecidableEq α] (lt : α → α → Bool) : List α → List α → Bool
  | [], [] => false
  | [], _ :: _ => true
  | _ :: _, [] => false
  | a :: as, b :: bs => if a = b then lexW lt as bs else lt a b
theorem sto_int : Sto (fun a b : Int => decide (a < b)) where
  irr := fun x => decide_eq_false (Int.lt_irrefl x)
  tr := fun x y z h1 h2 => decide_eq_true (Int.lt_trans (of_decide_eq_true h1) (of_decide_eq_true h2))
  tot := fun x y => by
    rcases Int.lt_trichotomy x y with h | h | h
    · exact .inr (.inl (decide_eq_true h))
    · exact .inl h
    · exact .inr (.inr (decide_eq_true h))
section
variable {α : Type} [DecidableEq α] {lt : α → α → Bool}
theorem Sto.ne (O : Sto lt) {x y : α} (h : lt x y = true) : x ≠ y := fun e => by
  subst e
  rw [O.irr] at h
  cases h
theorem lexW_irr (O : Sto lt) : ∀ x : List α, lexW lt x x = false
  | [] => rfl
  | a :: as => by
    unfold lexW
    rw [if_pos rfl]
    exact lexW_irr O as
theorem lexW_tr (O : Sto lt) : ∀ x y z : List α, lexW lt x y = true → lexW lt y z = true → lexW lt x z = true
  | [], [], z, h, _ => by cases h
  | [], _ :: _, [], _, h => by cases h
  | [], _ :: _, _ :: _, _, _ => rfl
  | _ :: _, [], z, h, _ => by cases h
  | a :: as, b :: bs, [], _, h => by cases h
  | a :: as, b :: bs, c :: cs, h1, h2 => by
    unfold lexW at h1 h2 ⊢
    by_cases e1 : a = b
    · rw [if_pos e1] at h1
      by_cases e2 : b = c
      · rw [if_pos e2] at h2
        rw [if_pos (e1.trans e2)]
        exact lexW_tr O as bs cs h1 h2
      · rw [if_neg e2] at h2
        rw [if_neg (fun z => e2 (e1.symm.trans z)), e1]
        exact h2
    · rw [if_neg e1] at h1
      by_cases e2 : b = c
      · rw [if_neg (fun z => e1 (z.trans e2.symm)), ← e2]
        exact h1
      · rw [if_neg e2] at h2
        have h3 := O.tr _ _ _ h1 h2
        rw [if_neg (O.ne h3)]
        exact h3
theorem lexW_tot (O : Sto lt) : ∀ x y : List α, x = y ∨ lexW lt x y = true ∨ lexW lt y x = true
  | [], [] => .inl rfl
  | [], _ :: _ => .inr (.inl rfl)
  | _ :: _, [] => .inr (.inr rfl)
  | a :: as, b :: bs => by
    by_cases e : a = b
    · subst e
      unfold lexW
      rw [if_pos rfl, if_pos rfl]
      rcases lexW_tot O as bs with h | h | h
      · exact .inl (by rw [h])
      · exact .inr (.inl h)
      · exact .inr (.inr h)
    · unfold lexW
      rw [if_neg e, if_neg (Ne.symm e)]
      rcases O.tot a b with h | h | h
      · exact absurd h e
      · exact .inr (.inl h)
      · exact .inr (.inr h)
theorem Sto.lex (O : Sto lt) : Sto (lexW lt) := ⟨lexW_irr O, lexW_tr O, lexW_tot O⟩
theorem Sto.swo {β : Type} (O : Sto lt) (k : β → α) : SrtO.Swo fun x y => lt (k x) (k y) := by
  refine ⟨fun x y h => ?_, fun x y z h1 h2 => ?_⟩
  · cases e : lt (k y) (k x) with
    | false => rfl
    | true =>
      have := O.tr _ _ _ h e
      rw [O.irr] at this
      cases this
  · cases e : lt (k z) (k x) with
    | false => rfl
    | true =>
      rcases O.tot (k y) (k z) with h | h | h
      · rw [← h, h1] at e; cases e
      · have := O.tr _ _ _ h e
        rw [this] at h1; cases h1
      · rw [h] at h2; cases h2
/-! insertion sort -/
def insW (lt : α → α → Bool) (x : α) : List α → List α
  | [] => [x]
  | y :: ys => match lt y x with
    | true => y :: insW lt x ys
    | false => x :: y :: ys
def srtW (lt : α → α → Bool) : List α → List α
  | [] => []
  | x :: xs => insW lt x (srtW lt xs)
theorem insW_perm (x : α) : ∀ ys, (insW lt x ys).Perm (x :: ys)
  | [] => .refl _
  | y :: ys => by
    unfold insW
    split
    · exact ((insW_perm x ys).cons y).trans (.swap x y ys)
    · exact .refl _
theorem srtW_perm : ∀ xs : List α, (srtW lt xs).Perm xs
  | [] => .refl _
  | x :: xs => (insW_perm x (srtW lt xs)).trans ((srtW_perm xs).cons x)
theorem insW_sorted (O : Sto lt) (x : α) : ∀ ys : List α, SrtO.Srtd lt ys → SrtO.Srtd lt (insW lt x ys)
  | [], _ => SrtO.srtd_one x
  | y :: ys, h => by
    obtain ⟨h1, h2⟩ := List.pairwise_cons.mp h
    have S := O.swo (id : α → α)
    unfold insW
    split
    · rename_i e
      refine List.pairwise_cons.mpr ⟨fun z hz => ?_, insW_sorted O x ys h2⟩
      rcases List.mem_cons.mp ((insW_perm x ys).mem_iff.mp hz) with rfl | hz
      · cases q : lt z y with
        | false => rfl
        | true => have := O.tr _ _ _ e q; rw [O.irr] at this; cases this
      · exact h1 z hz
    · rename_i e
      refine List.pairwise_cons.mpr ⟨fun z hz => ?_, h⟩
      rcases List.mem_cons.mp hz with rfl | hz
      · exact e
      · cases q : lt z x with
        | false => rfl
        | true =>
          have h3 := h1 z hz
          rcases O.tot x y with r | r | r
          · rw [r] at q; rw [q] at h3; cases h3
          · have := O.tr _ _ _ q r; rw [this] at h3; cases h3
          · rw [r] at e; cases e
theorem srtW_sorted (O : Sto lt) : ∀ xs : List α, SrtO.Srtd lt (srtW lt xs)
  | [] => .nil
  | x :: xs => insW_sorted O x _ (srtW_sorted O xs)
theorem srtW_uniq (O : Sto lt) : ∀ {l m : List α}, SrtO.Srtd lt l → SrtO.Srtd lt m → l.Perm m → l = m
  | [], m, _, _, p => by
    have := p.length_eq
    cases m with
    | nil => rfl
    | cons _ _ => simp at this
  | a :: as, [], _, _, p => by have := p.length_eq; simp at this
  | a :: as, b :: bs, h1, h2, p => by
    obtain ⟨h1a, h1b⟩ := List.pairwise_cons.mp h1
    obtain ⟨h2a, h2b⟩ := List.pairwise_cons.mp h2
    have ab : a = b := by
      have m1 : a ∈ b :: bs := p.mem_iff.mp (by simp)
      have m2 : b ∈ a :: as := p.mem_iff.mpr (by simp)
      rcases List.mem_cons.mp m1 with e | m1
      · exact e
      · rcases List.mem_cons.mp m2 with e | m2
        · exact e.symm
        · have q1 := h2a a m1
          have q2 := h1a b m2
          rcases O.tot a b with r | r | r
          · exact r
          · rw [r] at q1; cases q1
          · rw [r] at q2; cases q2
    subst ab
    rw [srtW_uniq O h1b h2b (p.cons_inv)]
end
/-! tuples of ints, and of tuples of ints, compared by the sort -/
abbrev lexI : List Int → List Int → Bool := lexW fun a b : Int => decide (a < b)
abbrev lexII : List (List Int) → List (List Int) → Bool := lexW lexI
theorem lexI_eq : ∀ a b : List Int, HT.lexLt a b = lexI a b
  | [], [] => rfl
  | [], _ :: _ => rfl
  | _ :: _, [] => rfl
  | a :: as, b :: bs => by
    rw [HT.lexLt_cons, lexI_eq as bs]
    rfl
def IsTI (h : Heap) (v : Value) (ns : List Int) : Prop := ∃ a us, v = .ref a ∧ IsTup h a us ∧ IntsAre us.toList ns
def IsTT (h : Heap) (v : Value) (nss : List (List Int)) : Prop := ∃ a us, v = .ref a ∧ IsTup h a us ∧ Paired (IsTI h) us.toList nss
theorem isTup_keep {h h' : Heap} {a : Addr} {us : Array Value} (x : IsTup h a us) (k : ∀ b o, h.get? b = some o → o.cls = .type "tuple" → h'.get? b = some o) : IsTup h' a us := by
  obtain ⟨o, h1, h2, h3⟩ := x
  exact ⟨o, k _ _ h1 h2, h2, h3⟩
theorem IsTI.keep {h h' : Heap} {v : Value} {ns : List Int} (x : IsTI h v ns) (k : ∀ b o, h.get? b = some o → o.cls = .type "tuple" → h'.get? b = some o) : IsTI h' v ns := by
  obtain ⟨a, us, h1, h2, h3⟩ := x
  exact ⟨a, us, h1, isTup_keep h2 k, h3⟩
theorem IsTT.keep {h h' : Heap} {v : Value} {ns : List (List Int)} (x : IsTT h v ns) (k : ∀ b o, h.get? b = some o → o.cls = .type "tuple" → h'.get? b = some o) : IsTT h' v ns := by
  obtain ⟨a, us, h1, h2, h3⟩ := x
  exact ⟨a, us, h1, isTup_keep h2 k, Paired.mapP h3 fun _ _ z => z.keep k⟩
section
variable {prog : Program} {w : World} {A : Around} {s : Shared}
theorem kat_ints {b fin : Bool} {Q : Bool → Shared → Prop} : ∀ {us vs : List Value} {ns ms : List Int} (i : Nat), IntsAre us ns → IntsAre vs ms → fin = decide (us.length < vs.length) → Q (lexI ns ms) s → PySem.W.KatLex prog w A b fin Q (us.zip vs) i s
  | _, _, _, _, i, .nil, .nil, hf, h => by
    subst hf
    exact PySem.W.kat_nil h
  | _, _, _, _, i, .nil, .cons n t r, hf, h => by
    have : fin = true := by rw [hf]; simp
    subst this
    exact PySem.W.kat_nil h
  | _, _, _, _, i, .cons n t r, .nil, hf, h => by
    have : fin = false := by rw [hf]; simp
    subst this
    exact PySem.W.kat_nil h
  | _, _, _, _, i, .cons n t (vs := us) (ns := ns) r, .cons m u (vs := vs) (ns := ms) r', hf, h => by
    refine PySem.W.kat_cons (SeqAt.EqAt.int_int n t m u prog w _ _ (PySem.W.kat_go (fun e => ?_) fun e => ?_))
    · have e : n = m := by simpa using e
      subst e
      refine PySem.W.kat_yes (kat_ints (i + 1) r r' (by rw [hf]; simp) ?_)
      have q : lexI (n :: ns) (n :: ms) = lexI ns ms := by
        show (if n = n then _ else _) = _
        rw [if_pos rfl]
      rw [q] at h
      exact h
    · have e : ¬ n = m := by simpa using e
      have q : lexI (n :: ns) (m :: ms) = decide (n < m) := by
        show (if n = m then _ else _) = _
        rw [if_neg e]
      rw [q] at h
      exact PySem.W.kat_no (TS.oneLt_ints _ h)
theorem kat_tups {fin : Bool} {Q : Bool → Shared → Prop} (hu : A.units < cLine) : ∀ {us vs : List Value} {ns ms : List (List Int)} (i : Nat), Paired (IsTI s.heap) us ns → Paired (IsTI s.heap) vs ms → fin = decide (us.length < vs.length) → Q (lexII ns ms) s → PySem.W.KatLex prog w A false fin Q (us.zip vs) i s
  | _, _, _, _, i, .nil, .nil, hf, h => by
    subst hf
    exact PySem.W.kat_nil h
  | _, _, _, _, i, .nil, .cons r t, hf, h => by
    have : fin = true := by rw [hf]; simp
    subst this
    exact PySem.W.kat_nil h
  | _, _, _, _, i, .cons r t, .nil, hf, h => by
    have : fin = false := by rw [hf]; simp
    subst this
    exact PySem.W.kat_nil h
  | _, _, _, _, i, .cons (b := n) (l₂ := ns) r t, .cons (b := m) (l₂ := ms) r' t', hf, h => by
    obtain ⟨a1, u1, rfl, p1, i1⟩ := r
    obtain ⟨a2, u2, rfl, p2, i2⟩ := r'
    have key : ∀ {a : Addr} {us : Array Value} {ns : List Int}, IsTup s.heap a us → IntsAre us.toList ns → IsTupleKey (intKind prog w) s.heap ns a := by
      intro a us ns p i
      obtain ⟨o, h1, h2, n, h3⟩ := p
      refine ⟨o, us, n, h1, h2, h3, ?_⟩
      generalize us.toList = l at i
      induction i with
      | nil => exact .nil
      | cons n t _ ih => exact .cons (by simp [intKind, Value.isInt]) ih
    refine PySem.W.kat_cons (wpAny_eqBool_tuple (knd := intKind prog w) hu (key p1 i1) (key p2 i2) (PySem.W.kat_go (fun e => ?_) fun e => ?_))
    · have e : n = m := of_decide_eq_true e
      subst e
      refine PySem.W.kat_yes (kat_tups hu (i + 1) t t' (by rw [hf]; simp) ?_)
      have q : lexII (n :: ns) (n :: ms) = lexII ns ms := by
        show (if n = n then _ else _) = _
        rw [if_pos rfl]
      rw [q] at h
      exact h
    · have e : ¬ n = m := of_decide_eq_false e
      have q : lexII (n :: ns) (m :: ms) = lexI n m := by
        show (if n = m then _ else _) = _
        rw [if_neg e]
      rw [q, ← lexI_eq] at h
      exact PySem.W.kat_no (PySem.W.kat_one _ _ (HT.lt_tupInts p1 p2 i1 i2 hu h))
theorem firsts_TI {vs : List Value} {k : Value → List Int} : (∀ v ∈ vs, IsTI s.heap v (k v) ∧ k v ≠ []) → ∃ fs : List Value, PySem.W.KatTups s.heap vs fs ∧ fs.length = vs.length ∧ ∀ f ∈ fs, ∃ i t, f = Value.int i t := by
  induction vs with
  | nil => exact fun _ => ⟨[], PySem.W.KatTups.nil, rfl, fun f h => by cases h⟩
  | cons v vs ih =>
    intro h
    obtain ⟨fs, h1, h2, h3⟩ := ih fun u hu => h u (by simp [hu])
    obtain ⟨⟨a, us, e1, ⟨o, g1, g2, n, g3⟩, ii⟩, ne⟩ := h v (by simp)
    subst e1
    obtain ⟨us⟩ := us
    generalize ek : k (Value.ref a) = ks at ii ne
    cases ii with
    | nil => exact absurd rfl ne
    | cons i t r => exact ⟨.int i t :: fs, PySem.W.KatTups.cons g1 g2 g3 rfl h1, by simp [h2], fun f hf => by
        rcases List.mem_cons.mp hf with rfl | hf
        · exact ⟨i, t, rfl⟩
        · exact h3 f hf⟩
theorem firsts_TT {vs : List Value} {k : Value → List (List Int)} : (∀ v ∈ vs, IsTT s.heap v (k v) ∧ k v ≠ []) → ∃ fs : List Value, PySem.W.KatTups s.heap vs fs ∧ fs.length = vs.length ∧ ∀ f ∈ fs, ∃ b o, f = Value.ref b ∧ s.heap.get? b = some o ∧ o.cls = .type "tuple" := by
  induction vs with
  | nil => exact fun _ => ⟨[], PySem.W.KatTups.nil, rfl, fun f h => by cases h⟩
  | cons v vs ih =>
    intro h
    obtain ⟨fs, h1, h2, h3⟩ := ih fun u hu => h u (by simp [hu])
    obtain ⟨⟨a, us, e1, ⟨o, g1, g2, n, g3⟩, ii⟩, ne⟩ := h v (by simp)
    subst e1
    obtain ⟨us⟩ := us
    generalize ek : k (Value.ref a) = ks at ii ne
    cases ii with
    | nil => exact absurd rfl ne
    | cons r t =>
      obtain ⟨b, ws, rfl, ⟨ob, f1, f2, _⟩, _⟩ := r
      exact ⟨.ref b :: fs, PySem.W.KatTups.cons g1 g2 g3 rfl h1, by simp [h2], fun f hf => by
        rcases List.mem_cons.mp hf with rfl | hf
        · exact ⟨b, ob, rfl, f1, f2⟩
        · exact h3 f hf⟩
theorem sortable_TI {a : Addr} {vs : List Value} {k : Value → List Int} (h0 : 0 < vs.length) (hp : ∀ v ∈ vs, IsTI s.heap v (k v) ∧ k v ≠ []) (ha : ∀ o, s.heap.get? a = some o → o.cls ≠ .type "tuple") : SrtO.SortableO prog w A s a vs fun v u => lexI (k v) (k u) := by
  intro h' keep
  have kp : ∀ b o, s.heap.get? b = some o → o.cls = .type "tuple" → h'.get? b = some o := fun b o e c => keep b o (fun z => by subst z; exact ha o e c) e
  have hp' : ∀ v ∈ vs, IsTI h' v (k v) ∧ k v ≠ [] := fun v hm => ⟨(hp v hm).1.keep kp, (hp v hm).2⟩
  obtain ⟨fs, h1, h2, h3⟩ := firsts_TI (s := { s with heap := h' }) hp'
  refine ⟨tuples' true, fun Q E hq => ?_, fun p q hm hm' => ?_⟩
  · refine PySem.W.kat_kind (T := .type "int") h1 (by omega) (fun f hm => ?_) (by rfl) ?_
    · obtain ⟨x, t, rfl⟩ := h3 f hm
      exact PySem.W.Looks.now
    · have e : (Value.type "int" != Value.type "tuple") = true := by first | decide +kernel | rfl | decide
      rw [e]
      exact hq
  · obtain ⟨⟨a1, u1, e1, ⟨o1, g1, g2, n1, g3⟩, i1⟩, _⟩ := hp' p.1 hm
    obtain ⟨⟨a2, u2, e2, ⟨o2, f1, f2, n2, f3⟩, i2⟩, _⟩ := hp' q.1 hm'
    show wpAny (model prog w) A (keyLt' (tuples' true) p.1 q.1) (fun r s' => s' = { s with heap := h' } ∧ r = lexI (k p.1) (k q.1)) (fun _ _ => False) { s with heap := h' }
    generalize k p.1 = kp at i1 ⊢
    generalize k q.1 = kq at i2 ⊢
    rw [e1, e2]
    refine PySem.W.kat_lt g1 g3 f1 f3 (kat_ints 0 i1 i2 (by simp) ⟨rfl, rfl⟩)
theorem sortable_TT {a : Addr} {vs : List Value} {k : Value → List (List Int)} (hu : A.units < cLine) (h0 : 0 < vs.length) (hp : ∀ v ∈ vs, IsTT s.heap v (k v) ∧ k v ≠ []) (ha : ∀ o, s.heap.get? a = some o → o.cls ≠ .type "tuple") : SrtO.SortableO prog w A s a vs fun v u => lexII (k v) (k u) := by
  intro h' keep
  have kp : ∀ b o, s.heap.get? b = some o → o.cls = .type "tuple" → h'.get? b = some o := fun b o e c => keep b o (fun z => by subst z; exact ha o e c) e
  have hp' : ∀ v ∈ vs, IsTT h' v (k v) ∧ k v ≠ [] := fun v hm => ⟨(hp v hm).1.keep kp, (hp v hm).2⟩
  obtain ⟨fs, h1, h2, h3⟩ := firsts_TT (s := { s with heap := h' }) hp'
  refine ⟨tuples' false, fun Q E hq => ?_, fun p q hm hm' => ?_⟩
  · refine PySem.W.kat_kind (T := .type "tuple") h1 (by omega) (fun f hm => ?_) (by rfl) ?_
    · obtain ⟨b, o, rfl, g1, g2⟩ := h3 f hm
      rw [← g2]
      exact (PySem.W.Looks.ld g1).andThen .now
    · have e : (Value.type "tuple" != Value.type "tuple") = false := by first | decide +kernel | rfl | decide
      rw [e]
      exact hq
  · obtain ⟨⟨a1, u1, e1, ⟨o1, g1, g2, n1, g3⟩, i1⟩, _⟩ := hp' p.1 hm
    obtain ⟨⟨a2, u2, e2, ⟨o2, f1, f2, n2, f3⟩, i2⟩, _⟩ := hp' q.1 hm'
    show wpAny (model prog w) A (keyLt' (tuples' false) p.1 q.1) (fun r s' => s' = { s with heap := h' } ∧ r = lexII (k p.1) (k q.1)) (fun _ _ => False) { s with heap := h' }
    generalize k p.1 = kp at i1 ⊢
    generalize k q.1 = kq at i2 ⊢
    rw [e1, e2]
    refine PySem.W.kat_lt g1 g3 f1 f3 (kat_tups (s := { s with heap := h' }) hu 0 i1 i2 (by simp) ⟨rfl, rfl⟩)
end
end T

-- text T32
set_option Elab.async false
set_option linter.all false
set_option maxRecDepth 100000
set_option maxHeartbeats 4000000
namespace T
open PySem L2 PyProof.Rows
/-- a tuple of these ints stands there -/
def HTI (H : Hp) (x : V) (ns : List Int) : Prop := ∃ a, x = .ref a ∧ H a = some (.tup (ns.map V.int)) ∧ ns ≠ []
def HTT (H : Hp) (x : V) (nss : List (List Int)) : Prop := ∃ a ys, x = .ref a ∧ H a = some (.tup ys) ∧ Paired (fun y ns => ∃ b, y = .ref b ∧ H b = some (.tup (ns.map V.int))) ys nss ∧ nss ≠ []
theorem mapInt_inj : ∀ {a b : List Int}, a.map V.int = b.map V.int → a = b
  | [], [], _ => rfl
  | [], _ :: _, h => by cases h
  | _ :: _, [], h => by cases h
  | a :: as, b :: bs, h => by
    rw [List.map_cons, List.map_cons] at h
    injection h with h1 h2
    injection h1 with h1
    rw [h1, mapInt_inj h2]
theorem HTI.inj {H : Hp} {x : V} {a b : List Int} (h : HTI H x a) (h' : HTI H x b) : a = b := by
  obtain ⟨p, rfl, e, _⟩ := h
  obtain ⟨q, e1, e2, _⟩ := h'
  cases e1
  rw [e] at e2
  injection e2 with e2
  injection e2 with e2
  exact mapInt_inj e2
theorem HTT.inj {H : Hp} {x : V} {a b : List (List Int)} (h : HTT H x a) (h' : HTT H x b) : a = b := by
  obtain ⟨p, ys, rfl, e, r, n1⟩ := h
  obtain ⟨q, zs, e1, e2, r', n2⟩ := h'
  cases e1
  rw [e] at e2
  injection e2 with e2
  injection e2 with e2
  subst e2
  clear e n1 n2
  induction r generalizing b with
  | nil => cases r'; rfl
  | cons g t ih =>
    cases r' with
    | cons g' t' =>
      rw [ih t']
      obtain ⟨c, f1, f2⟩ := g
      obtain ⟨d, f3, f4⟩ := g'
      rw [f1] at f3
      cases f3
      rw [f2] at f4
      injection f4 with f4
      injection f4 with f4
      rw [mapInt_inj f4]
section
variable {X : Cx} {pins : List (Addr × Obj)} {σ : L2.St} {H : Hp} {s : Shared}
theorem HTI.low (I : Inv X pins σ H s) {v : Value} {ns : List Int} (h : HTI H (backV v) ns) (hv : ∃ a, v = .ref a) : IsTI s.heap v ns ∧ ns ≠ [] := by
  obtain ⟨a, rfl⟩ := hv
  obtain ⟨b, e, h1, ne⟩ := h
  cases e
  obtain ⟨its, rv, p, _⟩ := I.tuple (SqT.of h1)
  exact ⟨⟨a, its.toArray, rfl, p, intsAre_of rv⟩, ne⟩
theorem HTT.low (I : Inv X pins σ H s) {v : Value} {ns : List (List Int)} (h : HTT H (backV v) ns) (hv : ∃ a, v = .ref a) : IsTT s.heap v ns ∧ ns ≠ [] := by
  obtain ⟨a, rfl⟩ := hv
  obtain ⟨b, ys, e, h1, r, ne⟩ := h
  cases e
  obtain ⟨its, rv, p, hz⟩ := I.tuple (SqT.of h1)
  refine ⟨⟨a, its.toArray, rfl, p, ?_⟩, ne⟩
  clear h1 p ne hz
  show Paired (IsTI s.heap) its ns
  induction r generalizing its with
  | nil => cases rv; exact .nil
  | cons g t ih =>
    cases rv with
    | cons q t' =>
      obtain ⟨c, rfl, f2⟩ := g
      cases q
      obtain ⟨us, rv2, p2, _⟩ := I.tuple (SqT.of f2)
      exact .cons ⟨c, us.toArray, rfl, p2, intsAre_of rv2⟩ (ih _ t')
/-- what sorting asks of a kind of keys -/
structure SKind (X : Cx) {α : Type} [DecidableEq α] (lt : α → α → Bool) (isH : Hp → V → α → Prop) : Prop where
  O : Sto lt
  ref : ∀ {H x a}, isH H x a → ∃ b, x = V.ref b
  inj : ∀ {H x a b}, isH H x a → isH H x b → a = b
  can : ∀ {pins : List (Addr × Obj)} {σ : L2.St} {H : Hp} {s : Shared} (I : Inv X pins σ H s) (h1 : Heap) (a : Addr) (vs : List Value) (k : Value → α) (tk : Nat), (∀ b o, s.heap.get? b = some o → h1.get? b = some o) → (∀ o, h1.get? a = some o → o.cls ≠ .type "tuple") → 0 < vs.length →
    (∀ v ∈ vs, isH H (backV v) (k v) ∧ ∃ b, v = .ref b) → SrtO.SortableO X.prog X.w X.A.in1.in1 { s with heap := h1, toks := tk } a vs fun v u => lt (k v) (k u)
theorem kTI : SKind X lexI HTI where
  O := sto_int.lex
  ref := fun ⟨b, e, _⟩ => ⟨b, e⟩
  inj := HTI.inj
  can := fun {pins σ H s} I h1 a vs k tk keep ha h0 hv => sortable_TI (s := { s with heap := h1, toks := tk }) h0 (fun v hm => by
    obtain ⟨g1, g2⟩ := hv v hm
    obtain ⟨f1, f2⟩ := g1.low I g2
    exact ⟨f1.keep fun b o e _ => keep b o e, f2⟩) ha
theorem kTT (hu : X.A.units + 2 < cLine) : SKind X lexII HTT where
  O := sto_int.lex.lex
  ref := fun ⟨b, _, e, _⟩ => ⟨b, e⟩
  inj := HTT.inj
  can := fun {pins σ H s} I h1 a vs k tk keep ha h0 hv => sortable_TT (s := { s with heap := h1, toks := tk }) (show X.A.in1.in1.units < cLine from hu) h0 (fun v hm => by
    obtain ⟨g1, g2⟩ := hv v hm
    obtain ⟨f1, f2⟩ := g1.low I g2
    exact ⟨f1.keep fun b o e _ => keep b o e, f2⟩) ha
end
section
variable {X : Cx} {α : Type} [DecidableEq α] [Inhabited α] {lt : α → α → Bool} {isH : Hp → V → α → Prop}
noncomputable def keyBy (isH : Hp → V → α → Prop) (H : Hp) (v : Value) : α := Classical.epsilon fun a => isH H (backV v) a
theorem keyBy_ok (S : SKind X lt isH) {H : Hp} : ∀ {xs : List V} {us : List Value} {kss : List α}, Vals xs us → Paired (isH H) xs kss → us.map (keyBy isH H) = kss ∧ ∀ v ∈ us, isH H (backV v) (keyBy isH H v) ∧ ∃ b, v = .ref b
  | _, _, _, .nil, .nil => ⟨rfl, fun v h => by cases h⟩
  | _, _, _, .cons (b := u) r t, .cons (b := k) g t' => by
    obtain ⟨h1, h2⟩ := keyBy_ok S t t'
    obtain ⟨b, e⟩ := S.ref g
    subst e
    cases r
    have sp : isH H (backV (Value.ref b)) (keyBy isH H (Value.ref b)) := Classical.epsilon_spec (p := fun a => isH H (backV (Value.ref b)) a) ⟨k, g⟩
    refine ⟨by rw [List.map_cons, h1, S.inj sp g], fun v hv => ?_⟩
    rcases List.mem_cons.mp hv with rfl | hv
    · exact ⟨sp, b, rfl⟩
    · exact h2 v hv
theorem paired_out {H : Hp} {k : Value → α} : ∀ {out : List Value}, (∀ v ∈ out, isH H (backV v) (k v)) → Paired (isH H) (out.map backV) (out.map k)
  | [], _ => .nil
  | v :: vs, h => .cons (h v (by simp)) (paired_out fun u hu => h u (by simp [hu]))
/-- sorted(xs) -/
def rSortK (K : PySem.W.Frag) (lt : α → α → Bool) (isH : Hp → V → α → Prop) : List V → Hp → VK → Prop := fun vs H Q => ∃ (a : Addr) (xs : List V) (kss : List α), vs = [V.ref a] ∧ SqL K H a xs ∧ Paired (isH H) xs kss ∧
  ∀ ys p, Paired (isH H) ys (srtW lt kss) → H p = none → Q (.ref p) (upd H p (.lst ys))
theorem cr_sortK (S : SKind X lt isH) : CallR X (.builtin "sorted") (rSortK X.K lt isH) := by
  intro pins s σ H vs us Q I r h
  obtain ⟨a, xs, kss, rfl, hs, hx, q⟩ := h
  obtain ⟨its, rv, hl, hz⟩ := I.list hs
  obtain ⟨u, rfl, ru⟩ := vals1 r
  obtain rfl : u = Value.ref a := ru
  obtain ⟨k1, k2⟩ := keyBy_ok S rv hx
  refine SrtO.sorted_ord (S.O.swo (keyBy isH H)) hl.isList (by rw [← rv.length]; exact hz) (fun h2 h1 a1 ho kk => ?_) fun out h1 h2 => ?_
  · refine S.can I h1 a1 its (keyBy isH H) s.toks (fun b o e => (kk b o e).2) (fun o e => ?_) (by omega) k2
    have e' : some o = some (seqObj "list" its.toArray 0) := e.symm.trans ho
    cases e'
    intro c
    exact absurd (Value.type.inj c) (by decide)
  · have k3 : ∀ v ∈ out, isH H (backV v) (keyBy isH H v) ∧ ∃ b, v = .ref b := fun v hv => k2 v (h2.perm.mem_iff.mp hv)
    have e1 : out.map (keyBy isH H) = srtW lt kss := by
      refine srtW_uniq S.O (List.pairwise_map.mpr h1) (srtW_sorted S.O _) ?_
      rw [← k1]
      exact (h2.perm.map _).trans (srtW_perm _).symm
    obtain ⟨n, hn⟩ := sortedAll_at s.heap its out.toArray
    refine ⟨.ref (s.heap.objs.size + 1), upd H (s.heap.objs.size + 1) (.lst (out.map backV)), I.laid (t' := s.toks) (fun b o e => sortedAll_old e) (Nat.le_succ _) ⟨?_, out, n, vals_back fun v hv => (k3 v hv).2, hn⟩, rfl, q _ _ ?_ (I.hok.fresh (Nat.le_succ _))⟩
    · rw [List.length_map, h2.len, ← rv.length]; exact hz
    · rw [← e1]
      exact paired_out fun v hv => (k3 v hv).1
/-- sorted(d), the keys -/
def rSortD : List V → Hp → VK → Prop := fun vs H Q => ∃ (a : Addr) (kvs : List (List Key × V)) (kss : List (List Int)), vs = [V.ref a] ∧ Rd H a (.dT kvs) ∧ kvs.map (·.1) = kss.map (fun ks => ks.map Sum.inl) ∧ (∀ ks ∈ kss, ks ≠ []) ∧
  ∀ ys p, Paired (HTI H) ys (srtW lexI kss) → H p = none → Q (.ref p) (upd H p (.lst ys))
theorem cr_sortD (hc : X.calm = true) : CallR X (.builtin "sorted") rSortD := by
  intro pins s σ H vs us Q I r h
  obtain ⟨a, kvs, kss, rfl, rd, ek, ne, q⟩ := h
  obtain ⟨u, rfl, ru⟩ := vals1 r
  obtain rfl : u = Value.ref a := ru
  obtain ⟨z, hd, ys, rel, dd⟩ := dt_rd I.hok rd
  obtain ⟨es, ep, raw, hn, at_⟩ := dd.raw
  have hl : kvs.length = ys.length := Paired.length rel
  have S : SKind X lexI HTI := kTI
  refine Calls.call_function_entry kind_sorted plain_sorted entry_sorted (args_sorted1 _) ?_
  unfold Builtin.«sorted»
  refine wpAny_bind (m := checkCount "sorted" 1 1 _) (wpAny_pure ?_)
  refine wpAny_bind (PySem.W.kdu_collect (A := X.A.in1) (KdlSrc.rawDict hd) (I.ok.hd hc) raw (by rw [hn]; omega) fun h1 tk acc keep hacc => ?_)
  have la : acc.toList.length = kvs.length := by rw [Array.length_toList, hacc.1, hn, hl]
  -- the keys, as they came
  have it : ∃ xs : List V, Vals xs acc.toList ∧ Paired (HTI H) xs kss := by
    have g : ∀ (kvs : List (List Key × V)) (ys : List (List Key × Addr × Value)) (kss : List (List Int)) (vs : List Value), KT H kvs ys → kvs.map (·.1) = kss.map (fun ks => ks.map Sum.inl) → (∀ ks ∈ kss, ks ≠ []) → vs.length = ys.length → (∀ (j : Nat) y, ys[j]? = some y → vs[j]? = some (.ref y.2.1)) → ∃ xs : List V, Vals xs vs ∧ Paired (HTI H) xs kss := by
      intro kvs ys kss vs h
      induction h generalizing kss vs with
      | nil =>
        intro e _ l _
        have : kss = [] := by
          cases kss with
          | nil => rfl
          | cons _ _ => cases e
        subst this
        have : vs = [] := List.length_eq_zero_iff.mp (by simpa using l)
        subst this
        exact ⟨[], .nil, .nil⟩
      | @cons p y kvs ys g t ih =>
        intro e ne l at_
        cases kss with
        | nil => cases e
        | cons ks kss =>
          rw [List.map_cons, List.map_cons] at e
          injection e with e1 e2
          cases vs with
          | nil => simp at l
          | cons v vs =>
            have e0 := at_ 0 y rfl
            simp at e0
            subst e0
            obtain ⟨xs, f1, f2⟩ := ih kss vs e2 (fun k hk => ne k (by simp [hk])) (by simpa using l) fun j y' e => by
              have := at_ (j + 1) y' (by simpa using e)
              simpa using this
            refine ⟨.ref y.2.1 :: xs, .cons rfl f1, .cons ⟨y.2.1, rfl, ?_, ne ks (by simp)⟩ f2⟩
            rw [g.2.1, e1, List.map_map]
            rfl
    refine g kvs ys kss acc.toList rel ek ne (by rw [la, hl]) fun j y e => ?_
    have hj : j < es.size := by rw [hn]; exact (List.getElem?_eq_some_iff.mp e).1
    obtain ⟨y', g1, g2, _⟩ := at_ j hj
    rw [e] at g1
    cases g1
    have hj2 : j < acc.toList.length := by rw [Array.length_toList, hacc.1]; exact hj
    obtain ⟨v, ev⟩ : ∃ v, acc.toList[j]? = some v := ⟨_, List.getElem?_eq_getElem hj2⟩
    obtain ⟨_, ev2⟩ := hacc.2 j v (by rw [← Array.getElem?_toList]; exact ev)
    rw [ev, ev2, g2]
  obtain ⟨xs, rv, hx⟩ := it
  obtain ⟨k1, k2⟩ := keyBy_ok S rv hx
  have I1 : Inv X pins σ H { s with heap := h1, toks := tk } := I.kept keep
  have hz : acc.toList.length ≤ sizeLine := by rw [la]; exact z
  refine wpAny_bind (wpAny_newList ?_ hz)
  have hoL : (h1.push (seqObj "list" acc.toList.toArray 0)).get? h1.objs.size = some (seqObj "list" acc.toList.toArray 0) := Heap.get?_push_size _ rfl
  show wpAny _ _ _ _ _ { s with heap := h1.push (seqObj "list" acc.toList.toArray 0), toks := tk }
  refine wpAny_bind (wpAny_holding (wpAny_call_entry slot_list_sort ⟨_, hoL, rfl⟩ entry_list_sort
    (SrtO.list_sort_ord (S.O.swo (keyBy HTI H)) (s := { s with heap := h1.push (seqObj "list" acc.toList.toArray 0), toks := tk }) hoL hz (fun h2 => ?_) fun out h3 h4 => ⟨_, rfl, ?_⟩) (args_list_sort _)))
  · refine S.can I _ _ acc.toList (keyBy HTI H) tk (fun b o e => Heap.get?_push_of_some _ (keep b o e)) (fun o e => ?_) (by omega) k2
    have e' : some o = some (seqObj "list" acc.toList.toArray 0) := e.symm.trans hoL
    cases e'
    intro c
    exact absurd (Value.type.inj c) (by decide)
  · refine wpAny_pure ⟨_, rfl, ?_⟩
    have k3 : ∀ v ∈ out, HTI H (backV v) (keyBy HTI H v) ∧ ∃ b, v = .ref b := fun v hv => k2 v (h4.perm.mem_iff.mp hv)
    have e1 : out.map (keyBy HTI H) = srtW lexI kss := by
      refine srtW_uniq S.O (List.pairwise_map.mpr h3) (srtW_sorted S.O _) ?_
      rw [← k1]
      exact (h4.perm.map _).trans (srtW_perm _).symm
    obtain ⟨n, hn⟩ := sortedHeap_at (vs := acc.toList) (out := out.toArray) hoL
    refine ⟨.ref h1.objs.size, upd H h1.objs.size (.lst (out.map backV)), I1.laid (t' := tk) (fun b o e => ?_) (Nat.le_refl _) ⟨?_, out, n, vals_back fun v hv => (k3 v hv).2, hn⟩, rfl, q _ _ ?_ (I1.hok.fresh (Nat.le_refl _))⟩
    · have hb : b < h1.objs.size := Heap.lt_size e
      rw [sortedHeap_old (Nat.ne_of_lt hb) (by rw [size_push']; exact Nat.lt_succ_of_lt hb)]
      exact Heap.get?_push_of_some _ e
    · rw [List.length_map, h4.len]; exact hz
    · rw [← e1]
      exact paired_out fun v hv => (k3 v hv).1
end
end T

-- text T33
set_option Elab.async false
set_option linter.all false
set_option maxRecDepth 100000
set_option maxHeartbeats 4000000
namespace T
open PySem L2 PyProof.Rows
/-! dict comprehensions, keys of either kind -/
theorem put_set {X : Cx} {pins : List (Addr × Obj)} {σ : L2.St} {H H2 : Hp} {s : Shared} {E : Value → Shared → Prop} {D : Addr} {y v : V} {u r : Value} {Q : Unit → Shared → Prop} (hu : X.A.units < cLine) (I : Inv X pins σ H s) (g : DPut H D y v H2)
    (ry : RelV y u) (rv : RelV v r) (h : ∀ s', Inv X pins σ H2 s' → Q () s') : wpAny (model X.prog X.w) X.A (dictSet D u r) Q E s := by
  rcases g with ⟨kvs, k, e, rfl, l, rfl⟩ | ⟨kvs, k, b, e, rfl, eb, l, rfl⟩
  · exact d_dictSet I e l ry rv h
  · cases (show u = Value.ref b from ry)
    obtain ⟨z, hd, xs, rel, dd⟩ := dt_of I.hok e
    have lx := Paired.length rel
    have lp := length_putK kvs k v
    refine wpAny_dictSet_heap (hsz := by omega) (knd := tupleKind (mixKind X.prog X.w)) hu (key_of I.hok eb) dd fun h' dd' sb => h _ ?_
    obtain ⟨q, es, ep, g1, g2, g3, g4, _, g5⟩ := dd'
    refine d_write I (by rw [e]; exact True.intro) sb ⟨q, g1⟩ ⟨by omega, hd, _, (rel.put k eb rv).keeps fun c ys ec => ?_, q, es, ep, g1, g2, g3, g4, g5⟩
    rw [upd_ne (ne_of ec e (fun z => nomatch z))]
    exact ec
def tDcA (t : Bool) (wi : TI) (g : TG) (tt : TT) (tk tv : TE) (vs : List Nat) : TE := fun σ H Q => wi σ H fun J H1 => ∀ D, H1 D = none → ∃ W : Nat → Nat → Hp → Prop, (∃ m, W 0 m (upd H1 D (hoD t [] []))) ∧ ∀ i m H, W i m H →
  (J.stop i H ∧ Q (.ref D) H) ∨ (J.go i H ∧ ∃ Nx : Hp → Prop, (∀ H', Nx H' → ∃ m', m' < m ∧ W (i + 1) m' H') ∧ ∀ x H', J.yld i H x H' → g x (wipe σ vs) H' fun σ2 H2 => wipe σ2 vs = wipe σ vs ∧ tt σ2 H2 fun b H3 =>
    if b = true then tk σ2 H3 fun y H4 => tv σ2 H4 fun z H5 => ∃ H6, DPut H5 D y z H6 ∧ Nx H6 else Nx H3)
section
variable {X : Cx}
theorem pe_dcA {kx vx tg iter : Expr} {ifs : List Expr} {scope : Scope} {own : List (Str × Nat)} {pos : Pos} {wi : TI} {g : TG} {tt : TT} {tk tv : TE} (t : Bool) (calm : X.calm = true) (hu : X.A.units < cLine) (nd : X.N.Nodup) (hi : PI X tg iter wi) (ok : BlkOk X.N X.env.scope scope own)
    (hg : ∀ (s : Shared) (H : Hp) (C : Addr) (cl : List (Str × Addr)) (fp : List Addr), PG (X.blk s H scope (compEnvC scope cl C X.env) fp) tg g) (ht : ∀ (s : Shared) (H : Hp) (C : Addr) (cl : List (Str × Addr)) (fp : List Addr), PTs (X.blk s H scope (compEnvC scope cl C X.env) fp) ifs tt)
    (hk : ∀ (s : Shared) (H : Hp) (C : Addr) (cl : List (Str × Addr)) (fp : List Addr), PE (X.blk s H scope (compEnvC scope cl C X.env) fp) kx tk) (he : ∀ (s : Shared) (H : Hp) (C : Addr) (cl : List (Str × Addr)) (fp : List Addr), PE (X.blk s H scope (compEnvC scope cl C X.env) fp) vx tv)
    (fold : ∀ x, foldedSetIterable iter X.env x = pure x) : PE X (.DictComp kx vx [⟨tg, iter, ifs, 0⟩] scope pos) (tDcA t wi g tt tk tv (own.map (·.2))) := by
  refine ⟨fun pins s σ H Q I h => ?_⟩
  rw [arm_eval_DictComp]
  have clo : ∀ y ∈ scope.names, y.2 = .free → ∃ c, X.env.cells.lookup y.1 = some c := fun y hy e => (ok.free y hy e).elim (fun k => I.ok.has _ (.inl k)) fun k => I.ok.has _ (.inr k)
  refine wpAny_comprehension_free rfl fold (closure_ok clo) ok.kind (fun y hy e => by rw [ok.uniq y hy, e]) (thn (hi.run pins s σ H _ I h) fun xv sa hx => thn hx fun itv sb h2 => ?_)
  obtain ⟨it, fp, tn, J, Ha, e, Ia, T, sta, fa, q⟩ := h2
  subst e
  refine wpAny_newObj_type (newEnv_comp ?_)
  -- the new dict
  generalize eD : sb.heap.objs.size = D
  have nD : Ha D = none := Ia.hok.fresh (Nat.le_of_eq eD)
  obtain ⟨W, ⟨m0, w0⟩, turn⟩ := q D nD
  generalize esc : ({ sb with heap := sb.heap.push { cls := .type "dict", data := .dict #[] } } : Shared) = sc
  have Ib : Inv X pins σ (upd Ha D (hoD t [] [])) sc := by
    subst esc
    refine Ia.laid (t' := sb.toks) (fun b o e => Heap.get?_push_of_some _ e) (Nat.le_of_eq eD) ?_
    subst eD
    cases t with
    | true => exact dt_empty sb.heap Ia.big
    | false => exact dk_empty sb.heap Ia.big
  have hsc : sc.heap = sb.heap.push { cls := .type "dict", data := .dict #[] } := by rw [← esc]
  have low : ∀ b ∈ fp, b < sb.heap.objs.size := fun b hb => (T.obj _ _ sta b hb).elim fun o z => Heap.lt_size z.1
  have fb : ∀ b ∈ fp, FpOk X pins (upd Ha D (hoD t [] [])) b ∧ b < sc.heap.objs.size := fun b hb => by
    have lt := low b hb
    refine ⟨⟨?_, (fa b hb).2⟩, by rw [hsc, Heap.size_push]; exact Nat.lt_succ_of_lt lt⟩
    rw [upd_ne (by subst eD; exact Nat.ne_of_lt lt)]
    exact (fa b hb).1
  have stb : tn 0 sc.heap := T.keep _ _ _ sta fun b _ o e => by rw [hsc]; exact Heap.get?_push_of_some _ e
  have Ic := block_start Ib ok nd fb
  generalize eC : sc.heap.objs.size = C at Ic
  generalize ecl : cellsFrom (C + 1) scope.names (cloFrom X.env.cells scope.names []) = cl at Ic
  have pg := hg sc (upd Ha D (hoD t [] [])) C cl fp
  have pt := ht sc (upd Ha D (hoD t [] [])) C cl fp
  have pk := hk sc (upd Ha D (hoD t [] [])) C cl fp
  have pv := he sc (upd Ha D (hoD t [] [])) C cl fp
  have away : ∀ b ∈ fp, (upd Ha D (hoD t [] [])) b = none := fun b hb => (fb b hb).1.1
  show codeAny _ _ (.compStart (.DictComp kx vx [⟨tg, iter, ifs, 0⟩] scope pos) 0 (.ref it) (.ref D) (compEnvC scope cl C X.env)) (compPost (model X.prog X.w) X.A X.xe none (EP X pins σ Q) (.ref D) C)
    { sc with heap := pushCells (sc.heap.push { cls := .type "dict", data := .dict #[] }) scope.names }
  generalize ece : compEnvC scope cl C X.env = ce at Ic pg pt pk pv ⊢
  have cL : ce.locals = C := by subst ece; rfl
  generalize eHb : upd Ha D (hoD t [] []) = Hb at Ib Ic pg pt pk pv w0 away fb
  generalize esd : ({ sc with heap := pushCells (sc.heap.push { cls := .type "dict", data := .dict #[] }) scope.names } : Shared) = sd at Ic
  have std : tn 0 sd.heap := T.keep _ _ _ stb fun b _ o e => by subst esd; exact pushCells_keeps _ _ _ _ (Heap.get?_push_of_some _ e)
  have fpk : ∀ {σ' : L2.St} {H' : Hp} {s' : Shared}, Inv (X.blk sc Hb scope ce fp) [] σ' H' s' → (∀ b ∈ fp, H' b = none) → ∀ b ∈ fp, FpOk (X.blk sc Hb scope ce fp) [] H' b := fun {σ' H' s'} I' hn b hb =>
    ⟨hn b hb, (I'.ok.exf b hb).1, I'.ok.exfs b hb, .inl hb, fun x c e => (I'.ok.exf b hb).2 x c e, fun p hp => absurd (show p ∈ ([] : List (Addr × Obj)) ++ [] from hp) (by simp)⟩
  have lo : codeAny (model X.prog X.w) X.A (.compLoop (.DictComp kx vx [⟨tg, iter, ifs, 0⟩] scope pos) 0 (.ref it) (.ref D) ce) (compPost (model X.prog X.w) X.A X.xe none (EP X pins σ Q) (.ref D) C) sd := by
    refine compLoop_anyD (fun n s' => ∃ i H', Inv (X.blk sc Hb scope ce fp) [] (wipe σ (own.map (·.2))) H' s' ∧ tn i s'.heap ∧ (∀ b ∈ fp, H' b = none) ∧ W i n H') ?_ m0 ⟨0, Hb, Ic, std, away, w0⟩
    rintro n se ⟨i, He, Ie, ste, ne, we⟩
    rcases turn i n He we with ⟨stop, qq⟩ | ⟨go, Nx, hNx, step⟩
    · refine thnF (T.done (X.blk sc Hb scope ce fp) rfl rfl rfl calm i [] se _ He (fun _ _ => False) Ie (fpk Ie ne) ste stop) fun r sf ⟨hr, If⟩ => ?_
      subst hr
      have Ig : Inv X pins σ He sf := Ib.call' (ch := fp) If.os If.base If.hok If.bare fun b hb => ⟨(fb b hb).1.2.2.2.1, (fb b hb).1.2.1, (fb b hb).1.2.2.2.2.1, (fb b hb).1.2.2.2.2.2⟩
      have nC : He C = none := by
        have z : He ce.locals = none := If.free
        rw [cL] at z
        exact z
      obtain ⟨m, hn, _⟩ := If.loc
      have hn : sf.heap.Ns ce.locals m := hn
      rw [cL] at hn
      obtain ⟨f0, f1, f2, f3, f4, f5⟩ := Ib.fpOk (Nat.le_of_eq eC) nC
      exact ⟨m, hn, fun h'' sm => ⟨.ref D, He, Ig.turned (t' := sf.toks) (fun b o hb e => (sm.2 b hb).trans e) nC f1 f3 f4 f5, rfl, qq⟩⟩
    · refine thnF (T.item (X.blk sc Hb scope ce fp) rfl rfl rfl calm i [] se _ He (fun _ _ => False) Ie (fpk Ie ne) ste go) fun r sf ⟨u, hr, hf⟩ => ?_
      subst hr
      refine thnF hf fun _ sg ⟨x, Hg, Ig, rg, yg, stg, ng⟩ => ?_
      have Ig' := Ig.pinned (fpk Ig ng) (T.obj _ _ stg)
      refine thnF (pg.run _ sg _ Hg x u _ Ig' rg (step x Hg yg)) fun _ sh ⟨σh, Hh, Ih, wh, qh⟩ => thnF (pt.run _ sh σh Hh _ Ih qh) fun b si ⟨Hi, Ii, qi⟩ => ?_
      have fin : ∀ {s' : Shared} {H' : Hp}, Inv (X.blk sc Hb scope ce fp) ([] ++ pinsAt fp sg.heap) σh H' s' → Nx H' → ∃ m, m < n ∧ ∃ i H', Inv (X.blk sc Hb scope ce fp) [] (wipe σ (own.map (·.2))) H' s' ∧ tn i s'.heap ∧ (∀ b ∈ fp, H' b = none) ∧ W i m H' := fun {s' H'} I' nx => by
        obtain ⟨m', hm, w'⟩ := hNx H' nx
        have at_ : ∀ b ∈ fp, ∀ o, sg.heap.get? b = some o → s'.heap.get? b = some o ∧ H' b = none := fun b hb o e =>
          (I'.pin (b, o) (List.mem_append_right _ (List.mem_append_right _ (mem_pinsAt hb e)))).elim fun z1 z2 => ⟨z1, z2.1⟩
        have le : (wipe σ (own.map (·.2))).length = σh.length := by rw [← wh, wipe_length]
        refine ⟨m', hm, i + 1, H', (I'.unpinned (pins := [])).weak le (fun j v e => ?_), T.keep _ _ _ stg fun b hb o e => (at_ b hb o e).1, fun b hb => ?_, w'⟩
        · rw [← wh] at e
          exact (wipe_some e).1
        · obtain ⟨o, e, _⟩ := T.obj _ _ stg b hb
          exact (at_ b hb o e).2
      cases b with
      | false =>
        simp only [Bool.false_eq_true, if_false] at qi ⊢
        exact fin Ii qi
      | true =>
        simp only [if_true] at qi ⊢
        refine thnF (pk.run _ si σh Hi _ Ii qi) fun z sj ⟨yk, Hj, Ij, rj, qj⟩ => thnF (pv.run _ sj σh Hj _ Ij qj) fun z2 sk ⟨yv, Hk, Ik, rk, Hl, dp, nx⟩ => ?_
        exact put_set (X := X.blk sc Hb scope ce fp) hu Ik dp rj rk fun sl Il => fin Il nx
  subst esd
  exact codeAny_compStart_dict lo (T.self X.A 0 _ _ _ std lo)
end
end T

-- text T34
set_option Elab.async false
set_option linter.all false
set_option maxRecDepth 100000
set_option maxHeartbeats 4000000
namespace T
open PySem L2 PyProof.Rows
section
variable {X : Cx} {G : Tab} {W : Wt} {σ : L2.St} {H HF HF' : Hp} {γ : Gam} {E : Ends}
/-- the pairs of a dict comprehension from here on -/
def dcGo (t : Bool) (vs : List Nat) (f : D → Gam → Option Gam) (tt : Gam → Out Bool) (mk mv : Gam → Out Ar) : List D → List (List Key) × List D → Gam → Out (List (List Key) × List D)
  | [], p, γ => .ok p γ
  | d :: ds, p, γ => match f d γ with
    | none => .bad
    | some γ1 => (tt γ1).bindN fun b γ2 => match b with
      | true => (mk γ2).bindN fun a γ3 => (mv γ3).bindN fun y γ4 => (match look γ4 a with
        | some kd => (match dKey t kd with
          | some q => (match y with
            | .d v => (match fitN (p.2.length + 1) with
              | true => (match unO vs γ4 with
                | some γ5 => dcGo t vs f tt mk mv ds (addK p q v) γ5
                | none => .bad)
              | false => .bad)
            | .sl _ => .bad)
          | none => .bad)
        | none => .bad)
      | false => (match unO vs γ2 with
        | some γ3 => dcGo t vs f tt mk mv ds p γ3
        | none => .bad)
def eDc (t : Bool) (mi : Gam → Out (List D)) (vs : List Nat) (f : D → Gam → Option Gam) (tt : Gam → Out Bool) (mk mv : Gam → Out Ar) : Gam → Out R := fun γ => (mi γ).bind fun items γ1 => match unO vs γ1 with
  | some γ2 => (dcGo t vs f tt mk mv items ([], []) γ2).bind fun p γ3 => .ok (.own (.dct t p.1 p.2)) γ3
  | none => .bad
/-- the dict at P is being made -/
structure MkD (G : Tab) (σ : L2.St) (γ1 : Gam) (H1 HF1 : Hp) (t : Bool) (P : Addr) (σc : L2.St) (γ : Gam) (H HF : Hp) (p : List (List Key) × List D) : Prop where
  ok : Ok G σc H HF γ
  stp : Stp σ γ1 H1 HF1 σc γ H HF
  acc : ∃ xs, H P = some (hoD t p.1 xs) ∧ RepL G HF p.2 xs
  len : p.1.length = p.2.length
  wf : wfK t p.1 = true
  fz : HF P = none
  no : ∀ j, ¬ OwnAt σc γ j P
theorem hoD_nt {t : Bool} {ks : List (List Key)} {xs : List V} : ¬ NT (some (hoD t ks xs)) := by
  rintro ⟨ys, z⟩
  cases t <;> cases z
theorem MkD.go {t : Bool} {σ σc σ2 : L2.St} {γ1 γ γ4 : Gam} {H1 HF1 H HF H4 HF4 : Hp} {P : Addr} {p : List (List Key) × List D} (m : MkD G σ γ1 H1 HF1 t P σc γ H HF p) (k4 : Ok G σ2 H4 HF4 γ4) (s4 : Stp σc γ H HF σ2 γ4 H4 HF4) : MkD G σ γ1 H1 HF1 t P σ2 γ4 H4 HF4 p := by
  obtain ⟨xs, e1, r1⟩ := m.acc
  obtain ⟨f1, f2⟩ := s4.frame P (by rw [e1]; simp) m.no
  refine ⟨k4, m.stp.trans s4, ⟨xs, (f1.eq (by intro ps z; rw [e1] at z; cases t <;> cases z)).trans e1, RepL.mono s4.mono _ _ r1⟩, m.len, m.wf, (or_nt f2 (by rw [e1]; exact hoD_nt)).trans m.fz, fun j h => ?_⟩
  rcases s4.own j P h with ⟨i, q⟩ | q
  · exact m.no i q
  · rw [e1] at q; cases q
theorem MkD.back {t : Bool} {σ σc σ2 : L2.St} {γ1 γ γ4 γ5 : Gam} {H1 HF1 H HF H4 HF4 : Hp} {P : Addr} {p : List (List Key) × List D} {vs : List Nat} (m : MkD G σ γ1 H1 HF1 t P σc γ H HF p) (a : Agree vs σc σ2) (k4 : Ok G σ2 H4 HF4 γ4) (s4 : Stp σc γ H HF σ2 γ4 H4 HF4) (u : unO vs γ4 = some γ5) :
    MkD G σ γ1 H1 HF1 t P σc γ5 H4 HF4 p := by
  have uu := unO_ok u
  exact m.go (uu.ok (G := G) a.symm k4) (s4.trans (uu.stp a.symm))
/-- one more pair -/
theorem MkD.push {t : Bool} {σ σc : L2.St} {γ1 γ : Gam} {H1 HF1 H HF : Hp} {P : Addr} {p : List (List Key) × List D} {xs : List V} {kd v : D} {q : List Key} {y : V} (m : MkD G σ γ1 H1 HF1 t P σc γ H HF p) (n1 : H1 P = none) (e : H P = some (hoD t p.1 xs)) (rl : RepL G HF p.2 xs) (eq : dKey t kd = some q) (r : Rep G HF v y) :
    MkD G σ γ1 H1 HF1 t P σc γ (upd H P (if hasK p.1 q = true then hoD t p.1 (setK p.1 xs q y) else hoD t (p.1 ++ [q]) (xs ++ [y]))) HF (addK p q v) := by
  refine ⟨m.ok.put m.fz m.no (by intro ps z; rw [e] at z; cases t <;> cases z), ⟨m.stp.mono, fun b nb z => ?_, m.stp.own, m.stp.io⟩, ?_, addK_len m.len, ?_, m.fz, m.no⟩
  · obtain ⟨f1, f2⟩ := m.stp.frame b nb z
    exact ⟨by rw [upd_ne (fun z => nb (by rw [z]; exact n1))]; exact f1, f2⟩
  · unfold addK
    by_cases hh : hasK p.1 q = true
    · rw [if_pos hh, if_pos hh]
      exact ⟨_, upd_same, RepL.setK r rl⟩
    · rw [if_neg hh, if_neg hh]
      exact ⟨_, upd_same, RepL.append rl (.one r)⟩
  · unfold addK
    split
    · exact m.wf
    · exact wfK_snoc m.wf eq
theorem fit_line {n : Nat} (h : fitN (n + 1) = true) : n < sizeLine := Nat.lt_of_succ_le (fitN_ok h)
theorem te_dc {t : Bool} {vs S : List Nat} {mi : Gam → Out (List D)} {f : D → Gam → Option Gam} {tt : Gam → Out Bool} {mk mv : Gam → Out Ar} {Q : VK} (hS : ∀ i ∈ S, i ∈ vs) (h : tE G W (eDc t mi vs f tt mk mv) σ H Q) :
    tDcA t (tI G W mi) (tgt G S f) (tT G Wn tt) (tO G Wn mk) (tO G Wn mv) vs σ H Q := by
  obtain ⟨HF, γ, k, p⟩ := h
  refine ⟨HF, γ, k, post_bind (r1 := rI G) p fun items γ0 J H0 HF0 k0 s0 wk p0 => ?_⟩
  have p0 := post_from later_E s0 p0
  intro P hP
  cases q0 : unO vs γ0 with
  | none => rw [q0] at p0; exact p0.elim
  | some γc =>
  rw [q0] at p0
  simp only at p0
  have u0 := unO_ok q0
  have kc : Ok G σ H0 HF0 γc := u0.ok (G := G) ⟨rfl, fun _ _ => rfl⟩ k0
  have sc0 : Stp σ γ0 H0 HF0 σ γc H0 HF0 := u0.stp ⟨rfl, fun _ _ => rfl⟩
  have noP : ∀ j, ¬ OwnAt σ γc j P := fun j z => by
    obtain ⟨u, e, _⟩ := kc.own z
    rw [hP] at e; cases e
  have m0 : MkD G σ γ0 H0 HF0 t P σ γc (upd H0 P (hoD t [] [])) HF0 ([], []) :=
    ⟨kc.laid hP, sc0.trans (Stp.laid hP), ⟨[], upd_same, .nil⟩, rfl, by cases t <;> rfl, k0.hf_none hP, noP⟩
  refine ⟨fun i m H' => m = items.length - i ∧ i ≤ items.length ∧ ∃ HF' γ' p', MkD G σ γ0 H0 HF0 t P σ γ' H' HF' p' ∧ Sub HF0 HF' ∧ Un vs γ' ∧ post (rE G) G W σ γ0 H0 HF0 Q ((dcGo t vs f tt mk mv (items.drop i) p' γ').bind fun p γ3 => .ok (.own (.dct t p.1 p.2)) γ3), ⟨_, rfl, Nat.zero_le _, HF0, γc, _, m0, Sub.refl _, u0.in_, p0⟩, ?_⟩
  rintro i m H' ⟨rfl, hi, HF', γ', p', mk', sub', un', pp⟩
  obtain ⟨w1, w2⟩ := wk HF' H' sub' mk'.ok.sub
  by_cases hlt : i < items.length
  · refine .inr ⟨(w1 i hlt).1, fun H3 => i + 1 ≤ items.length ∧ ∃ HF3 γ3 p3, MkD G σ γ0 H0 HF0 t P σ γ3 H3 HF3 p3 ∧ Sub HF0 HF3 ∧ Un vs γ3 ∧ post (rE G) G W σ γ0 H0 HF0 Q ((dcGo t vs f tt mk mv (items.drop (i + 1)) p3 γ3).bind fun p γ5 => .ok (.own (.dct t p.1 p.2)) γ5), fun H3 q => ⟨items.length - (i + 1), by omega, rfl, q⟩, fun x H'' y => ?_⟩
    obtain ⟨d, ed, yy⟩ := (w1 i hlt).2 x H'' y
    obtain ⟨HF2, k2, s2, r2⟩ := yld_ok mk'.ok yy
    rw [drop_of hlt ed] at pp
    unfold dcGo at pp
    have uid := un'.id
    have kw : Ok G (wipe σ vs) H'' HF2 γ' := uid.ok (wipe_agree σ vs) k2
    have sw : Stp σ γ' H' HF' (wipe σ vs) γ' H'' HF2 := s2.trans (uid.stp (wipe_agree σ vs))
    refine ⟨HF2, γ', d, kw, r2, ?_⟩
    cases q : f d γ' with
    | none => rw [q] at pp; exact pp.elim
    | some γ2 =>
      rw [q] at pp
      simp only at pp
      intro σ2 k3 s3 ag
      have ag2 : Agree vs σ σ2 := (wipe_agree σ vs).tr (ag.mono hS)
      refine ⟨by rw [wipe_eq ag2], HF2, γ2, k3, ?_⟩
      have sb : Stp σ γ' H' HF' σ2 γ2 H'' HF2 := sw.trans s3
      cases et : tt γ2 with
      | bad => rw [et] at pp; exact pp.elim
      | er x γ3 => rw [et] at pp; exact pp.elim
      | ok b γ3 =>
        rw [et] at pp
        intro b' H3 HF3 k4 s4 eb
        cases eb
        have sc := sb.trans s4
        cases b with
        | false =>
          rw [if_neg (by simp)]
          cases q3 : unO vs γ3 with
          | none => simp only [Out.bindN, q3] at pp; exact pp.elim
          | some γ5 =>
            simp only [Out.bindN, q3] at pp
            exact ⟨hlt, HF3, γ5, p', mk'.back ag2 k4 sc q3, sub'.trans sc.mono, (unO_ok q3).in_, pp⟩
        | true =>
          rw [if_pos rfl]
          refine ⟨HF3, γ3, k4, ?_⟩
          cases ek : mk γ3 with
          | bad => simp only [Out.bindN, ek] at pp; exact pp.elim
          | er x γ4 => simp only [Out.bindN, ek] at pp; exact pp.elim
          | ok a γ4 =>
            simp only [Out.bindN, ek] at pp
            intro y1 H4 HF4 k5 s5 ra
            refine ⟨HF4, γ4, k5, ?_⟩
            cases ev : mv γ4 with
            | bad => simp only [ev] at pp; exact pp.elim
            | er x γ5 => simp only [ev] at pp; exact pp.elim
            | ok yv γ5 =>
              simp only [ev] at pp
              intro v H5 HF5 k6 s6 ry
              have sd := (sc.trans s5).trans s6
              have mg := mk'.go k6 sd
              cases el : look γ5 a with
              | none => simp only [el] at pp; exact pp.elim
              | some kd =>
              simp only [el] at pp
              cases eq : dKey t kd with
              | none => simp only [eq] at pp; exact pp.elim
              | some q =>
              simp only [eq] at pp
              cases yv with
              | sl j => exact pp.elim
              | d yd =>
              simp only at pp
              cases qc : fitN (p'.2.length + 1) with
              | false => simp only [qc] at pp; exact pp.elim
              | true =>
              simp only [qc] at pp
              cases q3 : unO vs γ5 with
              | none => simp only [q3] at pp; exact pp.elim
              | some γ6 =>
              simp only [q3] at pp
              have mb := mk'.back ag2 k6 sd q3
              obtain ⟨xs, e5, rl⟩ := mb.acc
              have lx : p'.1.length = xs.length := by rw [rl.length, mb.len]
              have dp := dput_of (ds := p'.2) (v := v) (HF := HF5) e5 lx (by rw [rl.length]; exact fit_line qc) mb.wf eq k6.sub (look_pk k6 (ArOk.mono s6.mono ra) el)
              exact ⟨_, dp, hlt, HF5, γ6, _, mb.push hP e5 rl eq ry, sub'.trans sd.mono, (unO_ok q3).in_, pp⟩
  · have e : i = items.length := by omega
    subst e
    refine .inl ⟨w2, ?_⟩
    rw [List.drop_length] at pp
    unfold dcGo at pp
    obtain ⟨xs, e5, rl⟩ := mk'.acc
    refine pp (.ref P) H' HF' mk'.ok mk'.stp ⟨P, rfl, ⟨xs, e5, mk'.fz, mk'.len, mk'.wf, rl⟩, mk'.no, .inl hP⟩
theorem dc {kx vx tg iter : Expr} {ifs : List Expr} {scope : Scope} {own : List (Str × Nat)} {pos : Pos} {mi : Gam → Out (List D)} {S : List Nat} {f : D → Gam → Option Gam} {tt : Gam → Out Bool} {mk mv : Gam → Out Ar} (t : Bool) (hu : X.A.units + 64 < cLine) (hc : X.calm = true) (hN : X.N.Nodup) (hi : PI X tg iter (tI G W mi)) (ok : BlkOk X.N X.env.scope scope own)
    (hg : ∀ (s : Shared) (H : Hp) (C : Addr) (cl : List (Str × Addr)) (fp : List Addr), PG (X.blk s H scope (compEnvC scope cl C X.env) fp) tg (tgt G S f)) (ht : ∀ (s : Shared) (H : Hp) (C : Addr) (cl : List (Str × Addr)) (fp : List Addr), PTs (X.blk s H scope (compEnvC scope cl C X.env) fp) ifs (tT G Wn tt))
    (hk : ∀ (s : Shared) (H : Hp) (C : Addr) (cl : List (Str × Addr)) (fp : List Addr), PE (X.blk s H scope (compEnvC scope cl C X.env) fp) kx (tO G Wn mk)) (he : ∀ (s : Shared) (H : Hp) (C : Addr) (cl : List (Str × Addr)) (fp : List Addr), PE (X.blk s H scope (compEnvC scope cl C X.env) fp) vx (tO G Wn mv)) (hs : ∀ x, foldedSetIterable iter X.env x = pure x) (hS : ∀ i ∈ S, i ∈ own.map (·.2)) :
    PE X (.DictComp kx vx [⟨tg, iter, ifs, 0⟩] scope pos) (tE G W (eDc t mi (own.map (·.2)) f tt mk mv)) := ⟨fun pins s σ H Q I h => (pe_dcA t hc (by omega) hN hi ok hg ht hk he hs).run pins s σ H Q I (te_dc hS h)⟩
end
end T

-- text T35
set_option Elab.async false
set_option linter.all false
set_option maxRecDepth 100000
set_option maxHeartbeats 4000000
namespace T
open PySem L2 PyProof.Rows
section
variable {X : Cx} {G : Tab} {W : Wt} {σ : L2.St} {H HF HF' : Hp} {γ : Gam} {E : Ends}
/-! sorted(..) of ints, of tuples of ints, of tuples of those, of a dict -/
def tupI : D → Option (List Int)
  | .tup ds => intsOf ds
  | _ => none
def tupsI : List D → Option (List (List Int))
  | [] => some []
  | d :: ds => match tupI d with
    | some k => (match tupsI ds with
      | some ks => some (k :: ks)
      | none => none)
    | none => none
def tupII : D → Option (List (List Int))
  | .tup ds => tupsI ds
  | _ => none
def tupsII : List D → Option (List (List (List Int)))
  | [] => some []
  | d :: ds => match tupII d with
    | some k => (match tupsII ds with
      | some ks => some (k :: ks)
      | none => none)
    | none => none
def rowI (k : List Int) : D := .tup (k.map .int)
def rowII (k : List (List Int)) : D := .tup (k.map rowI)
def neL {α : Type} (ks : List (List α)) : Bool := ks.all fun k => !k.isEmpty
def keyI1 : List Key → Option (List Int)
  | [] => some []
  | .inl i :: r => (match keyI1 r with
    | some s => some (i :: s)
    | none => none)
  | .inr _ :: _ => none
def keysI1 : List (List Key) → Option (List (List Int))
  | [] => some []
  | k :: ks => match keyI1 k with
    | some s => (match keysI1 ks with
      | some r => some (s :: r)
      | none => none)
    | none => none
def bSortA : List D → Option BR
  | [.dct true ks _] => (match keysI1 ks with
    | some kss => (match neL kss with
      | true => some (.newLF ((srtW lexI kss).map rowI))
      | false => none)
    | none => none)
  | [.lst ds] => (match intsOf ds with
    | some _ => bSorted [.lst ds]
    | none => (match tupsI ds with
      | some kss => (match neL kss with
        | true => some (.newLF ((srtW lexI kss).map rowI))
        | false => none)
      | none => (match tupsII ds with
        | some kss => (match neL kss with
          | true => some (.newLF ((srtW lexII kss).map rowII))
          | false => none)
        | none => none)))
  | ds => bSorted ds
theorem keyI1_ok : ∀ {k : List Key} {s : List Int}, keyI1 k = some s → k = s.map Sum.inl
  | [], s, h => by cases h; rfl
  | .inl i :: r, s, h => by
    unfold keyI1 at h
    split at h
    · rename_i s' e
      cases h
      rw [List.map_cons, ← keyI1_ok e]
    · cases h
  | .inr _ :: _, s, h => by cases h
theorem keysI1_ok : ∀ {ks : List (List Key)} {kss : List (List Int)}, keysI1 ks = some kss → ks = kss.map fun s => s.map Sum.inl
  | [], kss, h => by cases h; rfl
  | k :: ks, kss, h => by
    unfold keysI1 at h
    split at h
    · rename_i s e
      split at h
      · rename_i r e2
        cases h
        rw [List.map_cons, ← keyI1_ok e, ← keysI1_ok e2]
      · cases h
    · cases h
theorem neL_ok {α : Type} {ks : List (List α)} (h : neL ks = true) : ∀ k ∈ ks, k ≠ [] := fun k hk e => by
  have := List.all_eq_true.mp h k hk
  subst e
  cases this
theorem ints_is : ∀ {ds : List D} {k : List Int}, intsOf ds = some k → ds = k.map .int
  | [], k, e => by cases e; rfl
  | .int i :: ds, k, e => by
    unfold intsOf at e
    split at e
    · rename_i js e2
      cases e
      rw [List.map_cons, ints_is e2]
    · cases e
  | .non :: ds, k, e => by cases e
  | .bl _ :: ds, k, e => by cases e
  | .str _ :: ds, k, e => by cases e
  | .tup _ :: ds, k, e => by cases e
  | .lst _ :: ds, k, e => by cases e
  | .dct _ _ _ :: ds, k, e => by cases e
  | .ty _ :: ds, k, e => by cases e
  | .fn _ :: ds, k, e => by cases e
  | .frz _ :: ds, k, e => by cases e
  | .obj _ _ :: ds, k, e => by cases e
theorem ints_rep {ds : List D} {k : List Int} {xs : List V} (e : intsOf ds = some k) (r : RepL G HF ds xs) : xs = k.map V.int ∧ ds = k.map .int := ⟨intsOf_rep e r, ints_is e⟩
theorem tupI_lies {d : D} {k : List Int} {v : V} (s : Sub HF H) (e : tupI d = some k) (r : Rep G HF d v) : (∃ a, v = .ref a ∧ H a = some (.tup (k.map V.int))) := by
  unfold tupI at e
  split at e
  · unfold Rep at r
    obtain ⟨a, xs, rfl, h, r⟩ := r
    obtain ⟨rfl, _⟩ := ints_rep e r
    exact ⟨a, rfl, s _ _ h⟩
  · cases e
theorem tupsI_lies (s : Sub HF H) : ∀ {ds : List D} {kss : List (List Int)} {xs : List V}, tupsI ds = some kss → RepL G HF ds xs → Paired (fun y ns => ∃ b, y = .ref b ∧ H b = some (.tup (ns.map V.int))) xs kss
  | [], kss, xs, e, r => by
    cases e
    unfold RepL at r
    subst r
    exact .nil
  | d :: ds, kss, xs, e, r => by
    unfold tupsI at e
    split at e
    · rename_i k e1
      split at e
      · rename_i ks e2
        cases e
        unfold RepL at r
        obtain ⟨v, vs, rfl, r1, r2⟩ := r
        exact .cons (tupI_lies s e1 r1) (tupsI_lies s e2 r2)
      · cases e
    · cases e
theorem tupsII_lies (s : Sub HF H) : ∀ {ds : List D} {kss : List (List (List Int))} {xs : List V}, tupsII ds = some kss → (∀ k ∈ kss, k ≠ []) → RepL G HF ds xs → Paired (HTT H) xs kss
  | [], kss, xs, e, _, r => by
    cases e
    unfold RepL at r
    subst r
    exact .nil
  | d :: ds, kss, xs, e, ne, r => by
    unfold tupsII at e
    split at e
    · rename_i k e1
      split at e
      · rename_i ks e2
        cases e
        unfold RepL at r
        obtain ⟨v, vs, rfl, r1, r2⟩ := r
        refine .cons ?_ (tupsII_lies s e2 (fun k hk => ne k (by simp [hk])) r2)
        unfold tupII at e1
        split at e1
        · unfold Rep at r1
          obtain ⟨a, ys, rfl, h, r1⟩ := r1
          exact ⟨a, ys, rfl, s _ _ h, tupsI_lies s e1 r1, ne k (by simp)⟩
        · cases e1
      · cases e
    · cases e
/-- a result's items are frozen as they lie -/
theorem ints_out {k : List Int} : RepL G HF (k.map .int) (k.map V.int) := by
  induction k with
  | nil => exact .nil
  | cons i k ih => exact .cons (by unfold Rep; rfl) ih
/-- tuples that stand are frozen, one after the other -/
theorem fz_row {y : V} {ns : List Int} (s : Sub HF H) (h : ∃ b, y = .ref b ∧ H b = some (.tup (ns.map V.int))) : ∃ HF2, Sub HF HF2 ∧ Sub HF2 H ∧ (∀ b, HF2 b = HF b ∨ NT (H b)) ∧ Rep G HF2 (rowI ns) y := by
  obtain ⟨b, rfl, e⟩ := h
  exact tup_fz s e ints_out
theorem or_tr {x y z o : Option HO} (a : x = y ∨ NT o) (b : y = z ∨ NT o) : x = z ∨ NT o := by
  rcases a with a | a
  · rw [a]; exact b
  · exact .inr a
theorem fz_rows : ∀ {ys : List V} {nss : List (List Int)} {HF : Hp}, Sub HF H → Paired (fun y ns => ∃ b, y = .ref b ∧ H b = some (.tup (ns.map V.int))) ys nss → ∃ HF2, Sub HF HF2 ∧ Sub HF2 H ∧ (∀ b, HF2 b = HF b ∨ NT (H b)) ∧ RepL G HF2 (nss.map rowI) ys
  | _, _, HF, s, .nil => ⟨HF, Sub.refl _, s, fun _ => .inl rfl, .nil⟩
  | _, _, HF, s, .cons h t => by
    obtain ⟨HF2, a1, a2, a3, a4⟩ := fz_row (G := G) s h
    obtain ⟨HF3, b1, b2, b3, b4⟩ := fz_rows a2 t
    exact ⟨HF3, a1.trans b1, b2, fun b => or_tr (b3 b) (a3 b), .cons (Rep.mono b1 _ _ a4) b4⟩
theorem fz_rowsII : ∀ {ys : List V} {nss : List (List (List Int))} {HF : Hp}, Sub HF H → Paired (HTT H) ys nss → ∃ HF2, Sub HF HF2 ∧ Sub HF2 H ∧ (∀ b, HF2 b = HF b ∨ NT (H b)) ∧ RepL G HF2 (nss.map rowII) ys
  | _, _, HF, s, .nil => ⟨HF, Sub.refl _, s, fun _ => .inl rfl, .nil⟩
  | _, _, HF, s, .cons h t => by
    obtain ⟨a, zs, rfl, e, r, _⟩ := h
    obtain ⟨HF2, a1, a2, a3, a4⟩ := fz_rows (G := G) s r
    obtain ⟨HF3, b1, b2, b3, b4⟩ := tup_fz (G := G) a2 e a4
    obtain ⟨HF4, c1, c2, c3, c4⟩ := fz_rowsII b2 t
    exact ⟨HF4, (a1.trans b1).trans c1, c2, fun b => or_tr (c3 b) (or_tr (b3 b) (a3 b)), .cons (Rep.mono c1 _ _ b4) c4⟩
def rSortA (K : PySem.W.Frag) : List V → Hp → VK → Prop := fun xs H Q => rSortedI K xs H Q ∨ rSortK K lexI HTI xs H Q ∨ rSortK K lexII HTT xs H Q ∨ rSortD xs H Q
theorem cr_sortA (hc : X.calm = true) (hu : X.A.units + 64 < cLine) : CallR X (.builtin "sorted") (rSortA X.K) := by
  intro pins s σ H xs us Q I r q
  rcases q with q | q | q | q
  · exact cr_sortedI pins s σ H xs us Q I r q
  · exact cr_sortK kTI pins s σ H xs us Q I r q
  · exact cr_sortK (kTT (by omega)) pins s σ H xs us Q I r q
  · exact cr_sortD hc pins s σ H xs us Q I r q
theorem pair_ne : ∀ {xs : List V} {kss : List (List Int)}, Paired (fun y ns => ∃ b, y = .ref b ∧ H b = some (.tup (ns.map V.int))) xs kss → (∀ k ∈ kss, k ≠ []) → Paired (HTI H) xs kss
  | _, _, .nil, _ => .nil
  | _, _, .cons (b := k) ⟨b, e1, e2⟩ t, ne => .cons ⟨b, e1, e2, ne k (by simp)⟩ (pair_ne t fun k' hk => ne k' (by simp [hk]))
theorem pair_lo : ∀ {xs : List V} {kss : List (List Int)}, Paired (HTI H) xs kss → Paired (fun y ns => ∃ b, y = .ref b ∧ H b = some (.tup (ns.map V.int))) xs kss
  | _, _, .nil => .nil
  | _, _, .cons ⟨b, e1, e2, _⟩ t => .cons ⟨b, e1, e2⟩ (pair_lo t)
theorem ok_sortA (hK : G.K = X.K) : CallOk G (rSortA X.K) bSortA := by
  intro H HF xs ds br Q sub p e h
  unfold bSortA at e
  split at e
  · rename_i ks vs
    obtain ⟨v, rfl, q⟩ := pks_one p
    obtain ⟨a, ys, rfl, rd, l, w, r⟩ := q.dct sub
    split at e
    · rename_i kss e1
      split at e
      · rename_i e2
        cases e
        have lx : ks.length = ys.length := by rw [r.length, l]
        refine .inr (.inr (.inr ⟨a, ks.zip ys, kss, rfl, rd, ?_, neL_ok e2, fun zs p g n => ?_⟩))
        · rw [List.map_fst_zip (Nat.le_of_eq lx)]
          exact keysI1_ok e1
        · obtain ⟨HF2, m1, m2, m3, m4⟩ := fz_rows (G := G) sub (pair_lo g)
          exact h _ _ ⟨p, zs, HF2, rfl, n, rfl, m1, m2, m3, m4⟩
      · cases e
    · cases e
  · rename_i ds
    split at e
    · exact .inl (ok_sorted (G := G) sub p e h)
    · obtain ⟨v, rfl, q⟩ := pks_one p
      obtain ⟨a, ys, rfl, h1, r⟩ := q.lst sub
      split at e
      · rename_i kss e1
        split at e
        · rename_i e2
          cases e
          refine .inr (.inl ⟨a, ys, kss, rfl, SqL.of h1, pair_ne (tupsI_lies sub e1 r) (neL_ok e2), fun zs p g n => ?_⟩)
          obtain ⟨HF2, m1, m2, m3, m4⟩ := fz_rows (G := G) sub (pair_lo g)
          exact h _ _ ⟨p, zs, HF2, rfl, n, rfl, m1, m2, m3, m4⟩
        · cases e
      · split at e
        · rename_i kss e1
          split at e
          · rename_i e2
            cases e
            refine .inr (.inr (.inl ⟨a, ys, kss, rfl, SqL.of h1, tupsII_lies sub e1 (neL_ok e2) r, fun zs p g n => ?_⟩))
            obtain ⟨HF2, m1, m2, m3, m4⟩ := fz_rowsII (G := G) sub g
            exact h _ _ ⟨p, zs, HF2, rfl, n, rfl, m1, m2, m3, m4⟩
          · cases e
        · cases e
  · exact .inl (ok_sorted (G := G) sub p e h)
end
end T

-- text T36
set_option Elab.async false
set_option linter.all false
set_option maxRecDepth 100000
set_option maxHeartbeats 4000000
namespace T
open PySem L2 PyProof.Rows
/-! t * 1, t * k of a tuple -/
theorem tuple_mul1 (l : Addr) (items : Array Value) (n : Nat) (dd : Option Addr) (sl : Array (Option Value)) (x : Int) (u : Tok) (c0 : (decide (x < -(2 ^ 63)) || decide (x ≥ 2 ^ 63)) = false) (c1 : (items.isEmpty || x == 1) = true) :
    Meets (Builtin.«tuple.__mul__» ⟨[.ref l, .int x u], []⟩) (fun _ R s => s.heap.get? l = some { cls := .type "tuple", dict := dd, data := .seq items n, slots := sl } ∧ R (.ok (.ret (Value.ref l))) s) :=
  .of_wp fun prog w A R s h => by
    obtain ⟨hp, g, d, tk, os⟩ := s
    obtain ⟨hl, h⟩ := h
    have f1 := AutoSeq1.idx_int
    wp_walk using wpAny_loadPart' hl
    refine wpAny_ite_false (decide_eq_false (by rw [c0]; exact Bool.false_ne_true)) ?_
    wp_walk using wpAny_loadPart' hl
    exact ⟨_, rfl, h⟩
def rRep1 : R2 := fun x y H Q => ∃ l xs, x = .ref l ∧ y = .int 1 ∧ H l = some (.tup xs) ∧ Q (.ref l) H
section
variable {X : Cx} {G : Tab} {W : Wt} {σ : L2.St} {H HF HF' : Hp} {γ : Gam} {E : Ends}
theorem op_rep1 : OpR X (binaryOp .Mult) rRep1 := by
  intro pins s σ H x y v u Q I rx ry h
  obtain ⟨l, xs, rfl, rfl, hT, q⟩ := h
  cases rx
  obtain ⟨t, rfl⟩ := ry
  obtain ⟨its, r, ⟨⟨cls, dd, data, sl⟩, ho, hc, n, hd⟩, hs⟩ := I.tuple (SqT.of hT)
  simp only at hc hd
  subst hc hd
  refine wpAny_binaryOp_repeat_ref (T := "tuple") (U := "int") (by decide) ⟨_, ho, rfl⟩ (fun s' => typeIs_int s' 1 t) noFill_tuple_mul F.fills_int_mul F.slot_int_rmul repeat_tuple F.slot_int_index.lookup
    (call_meets F.slot_int_rmul (typeIs_int s 1 t) F.entry_int_rmul (F.args_int_rmul_2 _ _) (int_rmul_tuple 1 t l its.toArray n dd sl)
      ⟨ho, rfl, ⟨_, ho, rfl⟩, call_meets F.slot_tuple_mul ⟨_, ho, rfl⟩ F.entry_tuple_mul (F.args_tuple_mul_2 _ _) (tuple_mul1 l its.toArray n dd sl 1 t (by decide) (by simp)) ⟨ho, ?_⟩⟩)
  exact ⟨.ref l, H, I, rfl, q⟩
/-! a * b of ints, of a list and an int, of a tuple and an int -/
def repL (n : Nat) (ds : List D) : List D := (List.replicate n ds).flatten
def fMulA (a b : D) : Option BR := match a, b with
  | .lst ds, .int k => (match decide (0 ≤ k) && decide (k < 16777216) && fitN (ds.length * k.toNat) with
    | true => some (.newL (repL k.toNat ds))
    | false => none)
  | .tup ds, .int k => (match decide (k = 1) with
    | true => some (.val (.tup ds))
    | false => (match decide (2 ≤ k) && decide (k ≤ 1000) && Nat.ble ds.length 1000 && !ds.isEmpty with
      | true => some (.newT (repL k.toNat ds))
      | false => none))
  | _, _ => fMul a b
theorem RepL.rep {ds : List D} {xs : List V} (r : RepL G HF ds xs) : ∀ n : Nat, RepL G HF (repL n ds) (List.replicate n xs).flatten
  | 0 => by show RepL G HF [] []; exact .nil
  | n + 1 => by
    unfold repL
    rw [List.replicate_succ, List.replicate_succ, List.flatten_cons, List.flatten_cons]
    exact RepL.append r (RepL.rep r n)
def rMulA (K : PySem.W.Frag) : R2 := fun x y H Q => (L2.rI CMulW fun i j => .int (i * j)) x y H Q ∨ rRep x y H Q ∨ rRepT K x y H Q ∨ rRep1 x y H Q
theorem op_mulA : OpR X (binaryOp .Mult) (rMulA X.K) := op_mulW.or (op_rep.or (op_repT.or op_rep1))
theorem ok_mulA (hK : G.K = X.K) : OpOk G (rMulA X.K) fMulA := by
  intro H HF x y d1 d2 br Q sub p1 p2 e h
  unfold fMulA at e
  split at e
  · rename_i ds k
    obtain ⟨a, xs, rfl, h1, r⟩ := p1.lst sub
    split at e
    · rename_i z
      cases e
      obtain ⟨z1, z3⟩ := Bool.and_eq_true_iff.mp z
      obtain ⟨z1, z2⟩ := Bool.and_eq_true_iff.mp z1
      have z1 := of_decide_eq_true z1
      have z2 := of_decide_eq_true z2
      refine .inr (.inl ⟨a, k, xs, rfl, p2.int, h1, by omega, by omega, by rw [r.length]; exact fitN_ok z3, fun p n => h _ _ ⟨p, _, rfl, n, rfl, RepL.rep r _⟩⟩)
    · cases e
  · rename_i ds k
    split at e
    · rename_i z
      cases e
      have z := of_decide_eq_true z
      subst z
      have rr := p1.tupF
      unfold Rep at rr
      obtain ⟨a, xs, rfl, h1, r⟩ := rr
      refine .inr (.inr (.inr ⟨a, xs, rfl, p2.int, sub _ _ h1, h _ H ⟨rfl, ?_⟩⟩))
      unfold Rep
      exact ⟨a, xs, rfl, h1, r⟩
    · split at e
      · rename_i z
        cases e
        obtain ⟨z1, z4⟩ := Bool.and_eq_true_iff.mp z
        obtain ⟨z1, z3⟩ := Bool.and_eq_true_iff.mp z1
        obtain ⟨z1, z2⟩ := Bool.and_eq_true_iff.mp z1
        have z1 := of_decide_eq_true z1
        have z2 := of_decide_eq_true z2
        obtain ⟨a, xs, rfl, h1, r⟩ := p1.tup sub
        rw [hK] at h1
        refine .inr (.inr (.inl ⟨a, k, xs, rfl, p2.int, h1, ?_, z1, z2, by rw [r.length]; exact Nat.le_of_ble_eq_true z3, fun p n => h _ _ ⟨p, _, rfl, n, rfl, RepL.rep r _⟩⟩))
        rintro rfl
        have := r.length
        cases ds with
        | nil => cases z4
        | cons _ _ => cases this
      · cases e
  · exact .inl (ok_mul (G := G) sub p1 p2 e h)
/-! is, is not, of bools -/
def fIsB (neg : Bool) (a b : D) : Option BR := match a, b with
  | .bl x, .bl y => some (.val (.bl (if neg = true then !(x == y) else x == y)))
  | _, _ => none
theorem op_isB : OpR X (compareOp .Is) (fun x y H Q => ∃ a b, x = .bl a ∧ y = .bl b ∧ Q (.bl (decide (a = b))) H) := op_is_bl
theorem op_isnB : OpR X (compareOp .IsNot) (fun x y H Q => ∃ a b, x = .bl a ∧ y = .bl b ∧ Q (.bl (!decide (a = b))) H) := op_isnot_bl
theorem ok_isB : OpOk G (fun x y H Q => ∃ a b, x = .bl a ∧ y = .bl b ∧ Q (.bl (decide (a = b))) H) (fIsB false) := by
  intro H HF x y d1 d2 br Q sub p1 p2 e h
  unfold fIsB at e
  split at e
  · rename_i a b
    cases e
    refine ⟨a, b, p1.bl, p2.bl, h _ H ⟨rfl, ?_⟩⟩
    unfold Rep
    cases a <;> cases b <;> rfl
  · cases e
theorem ok_isnB : OpOk G (fun x y H Q => ∃ a b, x = .bl a ∧ y = .bl b ∧ Q (.bl (!decide (a = b))) H) (fIsB true) := by
  intro H HF x y d1 d2 br Q sub p1 p2 e h
  unfold fIsB at e
  split at e
  · rename_i a b
    cases e
    refine ⟨a, b, p1.bl, p2.bl, h _ H ⟨rfl, ?_⟩⟩
    unfold Rep
    cases a <;> cases b <;> rfl
  · cases e
/-! a, x[i] = e: names and places of a tuple's items -/
inductive Tk where
  | nm (i : Nat) | sb (x : Nat) (mi : Gam → Out Ar)
/-- x[i] = d, d at hand -/
def putB (x : Nat) (v : D) (mi : Gam → Out Ar) : Gam → OutS := fun γ1 => match γ1[x]? with
  | some s0 => (match s0.dat with
    | some _ => (mi γ1).toS fun b γ2 => (match look γ2 b with
      | some i => (match γ2[x]? with
        | some s => (match s.dat with
          | some d => (match setD d i v with
            | some d2 => .nx (γ2.set x (s.put d2))
            | none => .bad)
          | none => .bad)
        | none => .bad)
      | none => .bad)
    | none => .bad)
  | none => .bad
def stT : Tk → D → Gam → OutS
  | .nm i, d, γ => nxO (stG i (.fz d) γ)
  | .sb x mi, d, γ => putB x d mi γ
def stTs : List Tk → List D → Gam → OutS
  | t :: ts, d :: ds, γ => (match stT t d γ with
    | .nx γ1 => stTs ts ds γ1
    | o => o)
  | [], [], γ => .nx γ
  | _, _, _ => .bad
def sAsgs (m : Gam → Out Ar) (ts : List Tk) : Gam → OutS := fun γ => (m γ).toS fun a γ1 => match a with
  | .d (.tup ds) => stTs ts ds γ1
  | _ => .bad
theorem put_tgt {x : Nat} {mi : Gam → Out Ar} {d : D} {v : V} {H1 HF1 : Hp} {γ1 : Gam} (k1 : Ok G σ H1 HF1 γ1) (rd : Rep G HF1 d v) (p1 : postS G W σ γ1 H1 HF1 E (putB x d mi γ1)) : gSub (tO G W (oSl x)) (tO G W mi) rSetA v σ H1 E.nx := by
  unfold putB at p1
  cases e0 : γ1[x]? with
  | none => rw [e0] at p1; exact p1.elim
  | some s0 =>
  rw [e0] at p1
  simp only at p1
  cases l0 : s0.dat with
  | none => rw [l0] at p1; exact p1.elim
  | some ds0 =>
  rw [l0] at p1
  simp only at p1
  obtain ⟨a, q0, o0, _⟩ := own_dat k1 e0 l0
  have eo : oSl x γ1 = .ok (.sl x) γ1 := by
    unfold oSl
    rw [e0]
    rcases Sl.dat_some l0 with rfl | rfl <;> rfl
  refine ⟨HF1, γ1, k1, ?_⟩
  rw [eo]
  intro w H2 HF2 k2 s2 rv
  have rv' : σ[x]? = some (some w) := rv
  rw [q0] at rv'
  cases rv'
  refine ⟨HF2, γ1, k2, postS_bind (r1 := rO G) (postS_from s2 p1) fun b γ2 u H3 HF3 k3 s3 r3 p3 => ?_⟩
  have p3 := postS_from s3 p3
  split at p3
  · rename_i i el
    split at p3
    · rename_i s e2
      split at p3
      · rename_i ds e3
        split at p3
        · rename_i d2 ej
          obtain ⟨a2, q2, o2, rl⟩ := own_dat k3 e2 e3
          rw [q0] at q2
          cases q2
          refine setD_ok k3.sub rl ej (look_pk k3 r3 el) (Rep.mono (s2.mono.trans s3.mono) _ _ rd) fun w r => ?_
          obtain ⟨k4, s4⟩ := own_putW k3 e2 e3 o2 r
          exact p3 σ _ HF3 k4 s4
        · exact p3.elim
      · exact p3.elim
    · exact p3.elim
  · exact p3.elim
/-- a target, told by what it does -/
def tgk (G : Tab) (W : Wt) (t : Tk) : TG := fun v σ H Q => ∃ HF γ d, Ok G σ H HF γ ∧ Rep G HF d v ∧ postS G W σ γ H HF { nx := Q, rt := fun _ _ => False, bk := fun _ _ => False, ct := fun _ _ => False } (stT t d γ)
def tgks (G : Tab) (W : Wt) (ts : List Tk) : TGs := fun vs σ H Q => ∃ HF γ ds, Ok G σ H HF γ ∧ RepL G HF ds vs ∧ postS G W σ γ H HF { nx := Q, rt := fun _ _ => False, bk := fun _ _ => False, ct := fun _ _ => False } (stTs ts ds γ)
theorem tkn (i : Nat) {x : Str} {pos : Pos} (hN : X.N.Nodup) (hi : X.N[i]? = some x := by rfl) (hx : Loc X.env.scope x := by first | exact Or.inl rfl | exact Or.inr rfl) (hf : X.fn x = true ∨ X.env.scope.names.lookup x = some .local := by first | exact Or.inl rfl | exact Or.inr rfl) : PG X (.Name x pos) (tgk G W (.nm i)) :=
  ⟨fun pins s σ H v u Q I r h => (pg_name hN hi hx hf).run pins s σ H v u Q I r (by
    obtain ⟨HF, γ, d, k, rr, p⟩ := h
    have p : postS G W σ γ H HF { nx := Q, rt := fun _ _ => False, bk := fun _ _ => False, ct := fun _ _ => False } (nxO (stG i (.fz d) γ)) := p
    cases e : stG i (.fz d) γ with
    | none => rw [e] at p; exact p.elim
    | some γ2 =>
      rw [e] at p
      obtain ⟨k2, s2⟩ := store_res (r := .fz d) k .refl rr e
      exact p _ H HF k2 s2)⟩
theorem tks {x : Nat} {o i : Expr} {pos2 : Pos} {mi : Gam → Out Ar} (hu : X.A.units + 64 < cLine) (ho : PE X o (tO G W (oSl x))) (hi : PE X i (tO G W mi))
    (ha : ∀ v, assign (.Subscript o i pos2) X.env v = (do
      let ov ← holding [v] (eval o X.env)
      let iv ← holding [v, ov] (eval i X.env)
      standAt pos2
      holding [v, ov, iv] (setItem ov iv v)
      release [v, ov, iv] []) := by intro _; rfl) : PG X (.Subscript o i pos2) (tgk G W (.sb x mi)) :=
  ⟨fun pins s σ H v u Q I r h => (pg_sub ho hi (set_any hu) ha).run pins s σ H v u Q I r (by
    obtain ⟨HF, γ, d, k, rr, p⟩ := h
    exact put_tgt k rr p)⟩
theorem tknil : PGs X [] (tgks G W []) := ⟨fun pins s σ H vs us Q I r h => pgs_nil.run pins s σ H vs us Q I r (by
  obtain ⟨HF, γ, ds, k, rr, p⟩ := h
  cases ds with
  | cons d ds => exact p.elim
  | nil =>
    unfold RepL at rr
    exact ⟨rr, p σ H HF k .refl⟩)⟩
theorem tkc {t : Tk} {ts : List Tk} {e : Expr} {es : List Expr} (h1 : PG X e (tgk G W t)) (h2 : PGs X es (tgks G W ts)) (hs : (assignEach (e :: es) X.env).map (·.2) = assign e X.env :: (assignEach es X.env).map (·.2) := by rfl) : PGs X (e :: es) (tgks G W (t :: ts)) :=
  ⟨fun pins s σ H vs us Q I r h => (pgs_cons h1 h2 hs).run pins s σ H vs us Q I r (by
    obtain ⟨HF, γ, ds, k, rr, p⟩ := h
    cases ds with
    | nil => exact p.elim
    | cons d ds =>
      unfold RepL at rr
      obtain ⟨v, vr, e, r1, r2⟩ := rr
      refine ⟨v, vr, e, HF, γ, d, k, r1, ?_⟩
      unfold stTs at p
      cases q : stT t d γ with
      | nx γ1 =>
        rw [q] at p
        exact fun σ1 H1 HF1 k1 s1 => ⟨HF1, γ1, ds, k1, RepL.mono s1.mono _ _ r2, postS_from s1 p⟩
      | rt r γ1 => rw [q] at p; exact fun σ' v H' HF' a b c => p σ' v H' HF' a b c
      | bk γ1 => rw [q] at p; exact fun σ' H' HF' a b => p σ' H' HF' a b
      | ct γ1 => rw [q] at p; exact fun σ' H' HF' a b => p σ' H' HF' a b
      | er x γ1 => rw [q] at p; exact p
      | bad => rw [q] at p; exact p.elim)⟩
theorem tkt {ts : List Tk} {es : List Expr} {kk : Nat} {pos : Pos} (hc : X.calm = true) (h : PGs X es (tgks G W ts)) (hn : (assignEach es X.env).length = ts.length := by rfl) (hst : (assignEach es X.env).findIdx? (·.1) = none := by rfl) :
    PG X (.Tuple es kk pos) (fun v σ H Q => ∃ HF γ ds, Ok G σ H HF γ ∧ Rep G HF (.tup ds) v ∧ ds.length = ts.length ∧ postS G W σ γ H HF { nx := Q, rt := fun _ _ => False, bk := fun _ _ => False, ct := fun _ _ => False } (stTs ts ds γ)) :=
  ⟨fun pins s σ H v u Q I r hw => (pg_tup hc h hn hst).run pins s σ H v u Q I r (by
    obtain ⟨HF, γ, ds, k, rr, l, p⟩ := hw
    unfold Rep at rr
    obtain ⟨a, xs, e, h1, rl⟩ := rr
    exact ⟨a, xs, e, SqT.of (k.sub _ _ h1), by rw [rl.length]; exact l, HF, γ, ds, k, rl, p⟩)⟩
theorem stTs_len : ∀ {ts : List Tk} {ds : List D} {γ : Gam}, stTs ts ds γ ≠ .bad → True := fun _ => trivial
/-- the lengths agree wherever it ends -/
def sAsgsL (m : Gam → Out Ar) (ts : List Tk) : Gam → OutS := fun γ => (m γ).toS fun a γ1 => match a with
  | .d (.tup ds) => (match Nat.beq ds.length ts.length with
    | true => stTs ts ds γ1
    | false => .bad)
  | _ => .bad
theorem postS_nx {γ1 : Gam} : ∀ {ts : List Tk} {ds : List D} {γ : Gam} {σ : L2.St} {H HF : Hp}, postS G W σ γ H HF E (stTs ts ds γ1) → (∀ o : OutS, stTs ts ds γ1 = o → match o with | .rt _ _ => False | .bk _ => False | .ct _ => False | _ => True) → postS G W σ γ H HF { nx := E.nx, rt := fun _ _ => False, bk := fun _ _ => False, ct := fun _ _ => False } (stTs ts ds γ1) := by
  intro ts ds γ σ H HF p h
  have h := h _ rfl
  revert p h
  cases stTs ts ds γ1 with
  | nx γ' => exact fun p _ => p
  | er x γ' => exact fun p _ => p
  | bad => exact fun p _ => p
  | rt r γ' => exact fun _ h => h.elim
  | bk γ' => exact fun _ h => h.elim
  | ct γ' => exact fun _ h => h.elim
def plainS : OutS → Prop
  | .rt _ _ => False | .bk _ => False | .ct _ => False | _ => True
theorem toS_plain {α : Type} {o : Out α} {f : α → Gam → OutS} (h : ∀ a γ, plainS (f a γ)) : plainS (o.toS f) := by
  cases o with
  | ok a γ => exact h a γ
  | er x γ => exact trivial
  | bad => exact trivial
theorem stT_plain (t : Tk) (d : D) (γ : Gam) : plainS (stT t d γ) := by
  cases t with
  | nm i =>
    show plainS (nxO (stG i (.fz d) γ))
    unfold nxO
    split <;> exact trivial
  | sb x mi =>
    show plainS (putB x d mi γ)
    unfold putB
    split
    · split
      · refine toS_plain fun b γ2 => ?_
        split
        · split
          · split
            · split <;> exact trivial
            · exact trivial
          · exact trivial
        · exact trivial
      · exact trivial
    · exact trivial
theorem stTs_plain : ∀ (ts : List Tk) (ds : List D) (γ : Gam), plainS (stTs ts ds γ)
  | [], [], γ => trivial
  | [], _ :: _, γ => trivial
  | _ :: _, [], γ => trivial
  | t :: ts, d :: ds, γ => by
    unfold stTs
    have h := stT_plain t d γ
    revert h
    cases stT t d γ with
    | nx γ1 => exact fun _ => stTs_plain ts ds γ1
    | rt r γ1 => exact fun h => h
    | bk γ1 => exact fun h => h
    | ct γ1 => exact fun h => h
    | er x γ1 => exact fun _ => trivial
    | bad => exact fun _ => trivial
theorem tk {ts : List Tk} {tg e : Expr} {pos : Pos} {m : Gam → Out Ar} (he : PE X e (tO G W m))
    (hg : PG X tg (fun v σ H Q => ∃ HF γ ds, Ok G σ H HF γ ∧ Rep G HF (.tup ds) v ∧ ds.length = ts.length ∧ postS G W σ γ H HF { nx := Q, rt := fun _ _ => False, bk := fun _ _ => False, ct := fun _ _ => False } (stTs ts ds γ)))
    (hs : swapsWithSole [tg] e pos.line X.env = pure false := by rfl) (hw : swappedStores [tg] e X.env = pure none := by rfl) (h1 : (assignEach [tg] X.env).map (·.2) = [assign tg X.env] := by rfl) : PS X (.Assign [tg] e pos) (tS G W (sAsgsL m ts)) :=
  ⟨fun pins s σ H D I h => (ps_asg he hg hs hw h1).run pins s σ H D I (by
    obtain ⟨HF, γ, k, p⟩ := h
    refine ⟨HF, γ, k, postS_bind (r1 := rO G) p fun a γ1 v H1 HF1 k1 s1 r1 p1 => ?_⟩
    cases a with
    | sl i => exact p1.elim
    | d d =>
      cases d with
      | tup ds =>
        simp only at p1
        cases hl : Nat.beq ds.length ts.length with
        | false => rw [hl] at p1; exact p1.elim
        | true =>
          rw [hl] at p1
          refine ⟨HF1, γ1, ds, k1, r1, Nat.eq_of_beq_eq_true hl, ?_⟩
          have p2 : postS G W σ γ1 H1 HF1 D (stTs ts ds γ1) := postS_from s1 p1
          refine postS_nx p2 fun o e => ?_
          have := stTs_plain ts ds γ1
          rw [e] at this
          exact this
      | _ => exact p1.elim)⟩
end
end T

-- text T37
set_option Elab.async false
set_option linter.all false
set_option maxRecDepth 100000
set_option maxHeartbeats 4000000
namespace T
open PySem L2 PyProof.Rows
section
variable {X : Cx} {G : Tab} {H HF : Hp}
/-! < of ints, of tuples of ints -/
def fLtA (a b : D) : Option BR := match a, b with
  | .tup xs, .tup ys => (match intsOf xs with
    | some ns => (match intsOf ys with
      | some ms => some (.val (.bl (lexI ns ms)))
      | none => none)
    | none => none)
  | _, _ => fLt a b
theorem op_ltA (hu : X.A.units + 64 < cLine) : OpR X (compareOp .Lt) (fun x y H Q => (L2.rI0 fun i j => .bl (decide (i < j))) x y H Q ∨ rLtT X.K x y H Q) := op_lt.or (op_ltT (by omega))
theorem ok_ltA (hK : G.K = X.K) : OpOk G (fun x y H Q => (L2.rI0 fun i j => .bl (decide (i < j))) x y H Q ∨ rLtT X.K x y H Q) fLtA := by
  intro H HF x y d1 d2 br Q sub p1 p2 e h
  unfold fLtA at e
  split at e
  · rename_i xs ys
    obtain ⟨a, us, rfl, h1, r1⟩ := p1.tup sub
    obtain ⟨b, vs, rfl, h2, r2⟩ := p2.tup sub
    rw [hK] at h1 h2
    split at e
    · rename_i ns e1
      split at e
      · rename_i ms e2
        cases e
        obtain ⟨rfl, _⟩ := ints_rep e1 r1
        obtain ⟨rfl, _⟩ := ints_rep e2 r2
        refine .inr ⟨a, b, ns, ms, rfl, rfl, h1, h2, ?_⟩
        rw [lexI_eq]
        exact h _ H ⟨rfl, by unfold Rep; rfl⟩
      · cases e
    · cases e
  · exact .inl (ok_lt (G := G) sub p1 p2 e h)
end
end T

-- text T38
set_option Elab.async false
set_option linter.all false
set_option maxRecDepth 100000
set_option maxHeartbeats 4000000
namespace T
open PySem L2
section
variable {X : Cx} {G : Tab} {W : Wt} {σ : L2.St} {H HF HF' : Hp} {γ : Gam} {E : Ends}
/-! list(range(n)) -/
def eLstRg1 (m : Gam → Out Ar) : Gam → Out R := fun γ => (m γ).bind fun a γ1 => match look γ1 a with
  | some (.int j) => (match rgB 0 j with
    | true => .ok (.own (.lst (rgD 0 (j - 0).toNat))) γ1
    | false => .bad)
  | _ => .bad
theorem te_lstRg1 {m : Gam → Out Ar} {Q : VK} (h : tE G W (eLstRg1 m) σ H Q) : tLstRg (tRg1 (tO G W m)) σ H Q := by
  obtain ⟨HF, γ, k, p⟩ := h
  refine ⟨HF, γ, k, post_bind (r1 := rO G) p fun a γ1 x H1 HF1 k1 s1 r1 p1 => ?_⟩
  have p2 := post_from later_E s1 p1
  split at p2
  · rename_i j e
    split at p2
    · rename_i hb
      refine ⟨j, (look_pk k1 r1 e).int, rgB_ok hb, fun q n => ?_⟩
      exact br_fin (br := .newL (rgD 0 (j - 0).toNat)) k1 p2 ⟨q, _, rfl, n, rfl, rgD_rep _⟩
    · exact p2.elim
  · exact p2.elim
theorem tpe_lstRg1 {a : Expr} {p p2 pos pos2 : Pos} {m : Gam → Out Ar} (hc : X.calm = true) (hg : Gl X "list") (hm : X.mg "list" = none) (hg2 : Gl X "range") (hm2 : X.mg "range" = none) (ha : PE X a (tO G W m))
    (na : starEach [a] X.env = (false, eval a X.env) :: starEach [] X.env)
    (nc : starEach [.Call (.Name "range" p2) [a] [] pos2] X.env = (false, eval (.Call (.Name "range" p2) [a] [] pos2) X.env) :: starEach [] X.env) :
    PE X (.Call (.Name "list" p) [.Call (.Name "range" p2) [a] [] pos2] [] pos) (tE G W (eLstRg1 m)) :=
  ⟨fun pins s σ H Q I h => (pe_listRg hc hg hm (prg_1 hg2 hm2 ha na) nc).run pins s σ H Q I (te_lstRg1 h)⟩
/-! a, b = (one, other): by unpacking the tuple -/
theorem SqT.own {K : PySem.W.Frag} {H : Hp} {a : Addr} {xs : List V} : SqT K (upd H a (.tup xs)) a xs := SqT.of upd_same
theorem tps_unp2 {i j : Nat} {x y : Str} {a b : Expr} {px py pt : Pos} {kt k2 pt2} {pos : Pos} {m1 m2 : Gam → Out R} (hc : X.calm = true) (hK : G.K = X.K) (hN : X.N.Nodup) (hi : X.N[i]? = some x) (hj : X.N[j]? = some y)
    (hx : Loc X.env.scope x) (hfx : X.fn x = true ∨ X.env.scope.names.lookup x = some .local) (hy : Loc X.env.scope y) (hfy : X.fn y = true ∨ X.env.scope.names.lookup y = some .local) (ha : PE X a (tE G W m1)) (hb : PE X b (tE G W m2))
    (na : starEach [a, b] X.env = (false, eval a X.env) :: starEach [b] X.env) (nb : starEach [b] X.env = (false, eval b X.env) :: starEach [] X.env)
    (hs : swapsWithSole [.Tuple [.Name x px, .Name y py] kt pt] (.Tuple [a, b] k2 pt2) pos.line X.env = pure false) (hw : swappedStores [.Tuple [.Name x px, .Name y py] kt pt] (.Tuple [a, b] k2 pt2) X.env = pure none)
    (h1 : (assignEach [.Tuple [.Name x px, .Name y py] kt pt] X.env).map (·.2) = [assign (.Tuple [.Name x px, .Name y py] kt pt) X.env])
    (hn : (assignEach [.Name x px, .Name y py] X.env).length = 2) (hst : (assignEach [.Name x px, .Name y py] X.env).findIdx? (·.1) = none)
    (g1 : (assignEach [.Name x px, .Name y py] X.env).map (·.2) = assign (.Name x px) X.env :: (assignEach [.Name y py] X.env).map (·.2)) (g2 : (assignEach [.Name y py] X.env).map (·.2) = assign (.Name y py) X.env :: (assignEach [] X.env).map (·.2)) :
    PS X (.Assign [.Tuple [.Name x px, .Name y py] kt pt] (.Tuple [a, b] k2 pt2) pos) (tS G W (sPar2 i j m1 m2)) :=
  ⟨fun pins s σ H D I h => (ps_asg (pe_tup (pa_cons ha (pa_cons hb pa_nil nb) na)) (pg_tup hc (pgs_cons (pg_name hN hi hx hfx) (pgs_cons (pg_name hN hj hy hfy) pgs_nil g2) g1) hn hst) hs hw h1).run pins s σ H D I (by
    obtain ⟨HF, γ, k, p⟩ := h
    refine ⟨HF, γ, k, postS_bind (r1 := rE G) p fun r1 γ1 v1 H1 HF1 k1 s1 q1 p1 => ?_⟩
    refine ⟨HF1, γ1, k1, ?_⟩
    cases em : m2 γ1 with
    | bad => rw [em] at p1; exact p1.elim
    | er x γ2 => rw [em] at p1; exact fun c d H' HF' k' s' rr => p1 c d σ H' HF' k' (s1.trans s') rr
    | ok r2 γ2 =>
    rw [em] at p1
    intro v2 H2 HF2 k2 s2 q2
    refine ⟨(by show 2 ≤ sizeLine; decide), fun q n => ⟨q, [v1, v2], rfl, SqT.of upd_same, rfl, ?_⟩⟩
    refine ⟨v1, [v2], rfl, v2, [], rfl, rfl, ?_⟩
    have k2' : Ok G σ (upd H2 q (.tup [v1, v2])) HF2 γ2 := k2.laid n
    have s2l : Stp σ γ2 H2 HF2 σ γ2 (upd H2 q (.tup [v1, v2])) HF2 := .laid n
    have q1' := ROk2.keep (ROk2.keep q1 s2) s2l
    have ap := apt_of q1 q2
    have q2' := ROk2.keep (ROk2.from s1 q2) s2l
    have p2 : postS G W σ γ H HF D (match stG i r1.sl γ2 with
      | some γ3 => nxO (stG j r2.sl γ3)
      | none => .bad) := p1
    cases e1 : stG i r1.sl γ2 with
    | none => rw [e1] at p2; exact p2.elim
    | some γ3 =>
      rw [e1] at p2
      obtain ⟨k3, s3, ow3⟩ := store_res2 k2' ((s1.trans s2).trans s2l) q1' e1
      cases e2 : stG j r2.sl γ3 with
      | none => simp only [e2] at p2; exact p2.elim
      | some γ4 =>
        simp only [e2] at p2
        obtain ⟨k4, s4, ow4⟩ := store_res2 k3 s3 (ROk2.kept q2' ap ow3) e2
        exact p2 _ _ HF2 k4 s4)⟩
end
end T

-- text T39
set_option Elab.async false
set_option linter.all false
set_option maxRecDepth 100000
set_option maxHeartbeats 4000000
namespace T
open PySem L2
/-! instances of classes with __slots__: made -/
section
variable {P : Program} {w : World} {H : Hp} {h : Heap} {a C dx : Addr}
theorem slH_nn (ha : H a ≠ none) (hd : H dx ≠ none) {b : Addr} (q : H b = none) : SlX.slH H a C dx [] b = none := by
  rw [SlX.slH_ne (fun z => ha (by rw [← z]; exact q)) (fun z => hd (by rw [← z]; exact q))]
  exact q
theorem hok_slot (k : HOk P w H h) (e : H a = some (.ins C dx [])) : HOk P w (SlX.slH H a C dx []) h := by
  obtain ⟨ho, _, ne, hobj, mA, n1, rf, _⟩ := k a _ e
  intro b u q
  by_cases h1 : b = a
  · subst h1
    unfold SlX.slH at q
    rw [upd_same] at q
    cases q
    exact ⟨⟨#[], hobj, SlX.SlR.nil _⟩, ⟨_, hobj⟩, fun g1 g2 ⟨sl, z1, z2⟩ st => ⟨sl, st _ z1, z2⟩⟩
  · by_cases h2 : b = dx
    · subst h2
      unfold SlX.slH at q
      rw [upd_ne ne, upd_same] at q
      cases q
      exact ⟨mA, n1, rf⟩
    · rw [SlX.slH_ne h1 h2] at q
      refine (k b u q).stay (fun c v hc z => z) (fun c z => ?_) fun c xs z => ?_
      · refine (SlX.slH_ne (fun y => ?_) (fun y => ?_)).trans z
        · rw [y, e] at z; cases z
        · rw [y, ho] at z; cases z; exact h1 rfl
      · refine (SlX.slH_ne (fun y => ?_) (fun y => ?_)).trans z
        · rw [y, e] at z; cases z
        · rw [y, ho] at z; cases z
theorem un_slot {fs ex : List Addr} (k : HOk P w H h) (e : H a = some (.ins C dx [])) : L2.Un fs ex H (SlX.slH H a C dx []) h h := by
  obtain ⟨ho, _, ne, _⟩ := k a _ e
  have ha : H a ≠ none := by rw [e]; exact fun z => by cases z
  have hd : H dx ≠ none := by rw [ho]; exact fun z => by cases z
  have same : ∀ b u, H b = some u → u ≠ .ins C dx [] → u ≠ .own a → SlX.slH H a C dx [] b = some u := fun b u q z1 z2 => by
    refine (SlX.slH_ne (fun y => ?_) (fun y => ?_)).trans q
    · rw [y, e] at q; exact z1 (Option.some.inj q).symm
    · rw [y, ho] at q; exact z2 (Option.some.inj q).symm
  exact ⟨fun b o q n _ _ => q, fun b o q n _ _ => ⟨o.slots, q⟩, fun b o q n _ => slH_nn ha hd n, fun b o q _ => ⟨o, q⟩, fun b xs q => same b _ q (fun z => by cases z) (fun z => by cases z), fun b o u q => same b _ q (fun z => by cases z) (fun z => by cases z),
    fun b ps q => ⟨#[], by rw [same b _ q (fun z => by cases z) (fun z => by cases z)]; simp⟩⟩
end
/-- .. as the init of an instance that has just been made -/
def spI (sp : Sp) : Sp := fun vs H Q E => ∃ a C dx r, vs = .ref a :: r ∧ H a = some (.ins C dx []) ∧ sp vs (SlX.slH H a C dx []) Q E
theorem fn_init {P : Program} {w : World} {K : PySem.W.Frag} {mg : Str → Option Value} {base : Heap} {k : Nat} {f : Addr} {fd : FuncData} {ps : List Str} {sp : Sp} (F : FnOk P w K mg base CX0 k f fd ps sp) : FnOk P w K mg base CX0 k f fd ps (spI sp) := by
  refine ⟨fun vs H Q E ⟨a, C, dx, r, _, _, h⟩ => F.len _ _ _ _ h, fun A outer s H args us vs Q E hr he hb hv ⟨a, C, dx, r, ev, ea, hs⟩ => ?_⟩
  obtain ⟨ho, _, ne, _⟩ := he.hok a _ ea
  have ha : H a ≠ none := by rw [ea]; exact fun z => by cases z
  have hd : H dx ≠ none := by rw [ho]; exact fun z => by cases z
  have e2 : Env0 P w K mg base A outer s (SlX.slH H a C dx []) := ⟨he.frames, he.mod, fun b o q => ⟨(he.bs b o q).1, slH_nn ha hd (he.bs b o q).2⟩, he.bsz, he.funs, fun b hb => slH_nn ha hd (he.frf b hb), hok_slot he.hok ea, he.bare⟩
  refine codeAny_mono (F.run A outer s _ args us vs Q E hr e2 hb hv hs) fun r s' q => ?_
  cases r with
  | error e => exact q
  | ok fl =>
    cases fl with
    | ret u =>
      obtain ⟨v, H', h1, h2, h3, h4, h5, h6⟩ := q
      exact ⟨v, H', h1, h2, (un_slot he.hok ea).trans h3, h4, h5, h6⟩
    | next => exact q
    | brk => exact q
    | cont => exact q
section
variable {X : Cx} {G : Tab} {W : Wt} {σ : L2.St} {H HF HF' : Hp} {γ : Gam} {E : Ends}
/-- C(..), C of number c; F: what its init does -/
def eNewC (c n : Nat) (F : Gam → Out R) (ms : Gam → Out (List Ar)) : Gam → Out R := fun γ => (ms γ).bind fun ars γ1 => match dsOf ars with
  | some ds => (match Nat.beq ds.length n with
    | true => (match F (.io (.obj c []) :: ds.map Sl.fz) with
      | .ok (.fz .non) (.io (.obj c' es) :: _) => (match Nat.beq c' c with
        | true => .ok (.own (.obj c es)) γ1
        | false => .bad)
      | _ => .bad)
    | false => .bad)
  | none => .bad
theorem RepL.slots {ds : List D} {xs : List V} (r : RepL G HF ds xs) : ∀ (i : Nat) (s : Sl), (ds.map Sl.fz)[i]? = some s → ∃ d v, s = .fz d ∧ xs[i]? = some v ∧ Rep G HF d v := fun i s e => by
  rw [List.getElem?_map] at e
  cases q : ds[i]? with
  | none => rw [q] at e; cases e
  | some d =>
    rw [q] at e
    obtain ⟨v, ev, rv⟩ := RepL.get r q
    exact ⟨d, v, (Option.some.inj e).symm, ev, rv⟩
theorem te_newC {c n : Nat} {F : Gam → Out R} {ms : Gam → Out (List Ar)} {Q : VK} (h : tE G W (eNewC c n F ms) σ H Q) : tMake (G.fn c) (spI (spT G (n + 1) F)) [] L2.E0 (tA G W ms) σ H Q := by
  obtain ⟨HF, γ, k, p⟩ := h
  refine ⟨HF, γ, k, post_bind (r1 := rA G) p fun ars γ1 vs H1 HF1 k1 s1 r1 p1 => ?_⟩
  intro x dx nx ndx ne
  rw [List.append_nil]
  cases e : dsOf ars with
  | none => rw [e] at p1; exact p1.elim
  | some ds =>
  rw [e] at p1
  simp only at p1
  cases hn : Nat.beq ds.length n with
  | false => rw [hn] at p1; exact p1.elim
  | true =>
  rw [hn] at p1
  simp only at p1
  have rl := dsOf_rep r1 e
  have hx' : upd (upd H1 dx (.own x)) x (.ins (G.fn c) dx []) x = some (.ins (G.fn c) dx []) := upd_same
  have hs : ∀ b, b ≠ x → b ≠ dx → SlX.slH (upd (upd H1 dx (.own x)) x (.ins (G.fn c) dx [])) x (G.fn c) dx [] b = H1 b := fun b b1 b2 => by
    rw [SlX.slH_ne b1 b2, upd_ne b1, upd_ne b2]
  have hsx : SlX.slH (upd (upd H1 dx (.own x)) x (.ins (G.fn c) dx [])) x (G.fn c) dx [] x = some (SlX.SlO x (G.fn c) dx []) := by
    unfold SlX.slH
    exact upd_same
  have hsd : SlX.slH (upd (upd H1 dx (.own x)) x (.ins (G.fn c) dx [])) x (G.fn c) dx [] dx = some (.xd []) := by
    unfold SlX.slH
    rw [upd_ne ne, upd_same]
  have fx : HF1 x = none := k1.hf_none nx
  have fd : HF1 dx = none := k1.hf_none ndx
  have sb : Sub (upd HF1 dx (.xd [])) (SlX.slH (upd (upd H1 dx (.own x)) x (.ins (G.fn c) dx [])) x (G.fn c) dx []) := fun b o q => by
    by_cases z : b = dx
    · subst z
      rw [upd_same] at q
      rw [hsd]
      exact q
    · rw [upd_ne z] at q
      have q1 := k1.sub b o q
      rw [hs b (fun y => by rw [y, nx] at q1; cases q1) z]
      exact q1
  have mn : Sub HF1 (upd HF1 dx (.xd [])) := sub_upd fd
  have own0 : ∀ i b, OwnAt ((V.ref x :: vs).map some) (.io (.obj c []) :: ds.map Sl.fz) i b → i = 0 ∧ b = x := fun i b ⟨⟨s, es, ws⟩, eb⟩ => by
    cases i with
    | zero => simp at eb; exact ⟨rfl, eb.symm⟩
    | succ i =>
      rw [List.getElem?_cons_succ] at es
      obtain ⟨d, v, e1, _⟩ := RepL.slots rl i s es
      rw [e1] at ws
      cases ws
  have hfx : upd HF1 dx (.xd []) x = none := by rw [upd_ne (Ne.symm ne)]; exact fx
  refine ⟨x, G.fn c, dx, vs, rfl, hx', by rw [List.length_cons, rl.length, Nat.eq_of_beq_eq_true hn], upd HF1 dx (.xd []), .io (.obj c []) :: ds.map Sl.fz, ⟨k1.subT.move sb mn (fun q _ ps eq => have n1 : q.1 ≠ x := fun z => by rw [z, nx] at eq; cases eq
    have n2 : q.1 ≠ dx := fun z => by rw [z, ndx] at eq; cases eq
    ⟨hs _ n1 n2, fun e => (upd_ne n2).trans e⟩), ?_, fun i s es => ?_, fun i j b h1 h2 => (own0 i b h1).1.trans (own0 j b h2).1.symm⟩, ?_, ?_⟩
  · rw [List.length_map, List.length_cons, List.length_cons, List.length_map, rl.length]
  · cases i with
    | zero =>
      simp at es
      subst es
      exact ⟨x, rfl, dx, [], hsx, hfx, upd_same, ne, .nil⟩
    | succ i =>
      rw [List.getElem?_cons_succ] at es
      obtain ⟨d, v, e1, ev, rv⟩ := RepL.slots rl i s es
      subst e1
      refine ⟨v, ?_, Rep.mono mn _ _ rv⟩
      rw [List.map_cons, List.getElem?_cons_succ, List.getElem?_map, ev]
      rfl
  · rw [List.all_cons]
    show (true && _) = true
    rw [Bool.true_and, List.all_map]
    exact List.all_eq_true.mpr fun d _ => rfl
  · cases ef : F (.io (.obj c []) :: ds.map Sl.fz) with
    | bad => rw [ef] at p1; exact p1.elim
    | er x as' => rw [ef] at p1; exact p1.elim
    | ok r as' =>
      rw [ef] at p1
      cases r with
      | own d => exact p1.elim
      | fz d =>
      cases d with
      | non =>
        cases as' with
        | nil => exact p1.elim
        | cons s0 rest =>
          cases s0 with
          | io d0 =>
            cases d0 with
            | obj c' es =>
              simp only at p1
              cases hc : Nat.beq c' c with
              | false => rw [hc] at p1; exact p1.elim
              | true =>
                rw [hc] at p1
                have ec := Nat.eq_of_beq_eq_true hc
                subst ec
                intro v H2 HF2 k2 s2 rr
                refine ⟨rr, ?_⟩
                have p2 := post_from later_E s1 p1
                obtain ⟨a, ea, ow⟩ := k2.sl 0 _ rfl
                have eax : x = a := by simp at ea; exact ea
                subst eax
                have keep : ∀ b, H1 b ≠ none → Fr (H1 b) (H2 b) ∧ (HF2 b = HF1 b ∨ NT (H1 b)) := fun b nb => by
                  have b1 : b ≠ x := fun z => nb (by rw [z]; exact nx)
                  have b2 : b ≠ dx := fun z => nb (by rw [z]; exact ndx)
                  have e1 := hs b b1 b2
                  have fr := s2.frame b (by rw [e1]; exact nb) fun i z => b1 (own0 i b z).2
                  rw [e1, upd_ne b2] at fr
                  exact fr
                have own_b : ∀ i b, OwnAt σ γ1 i b → H2 b = H1 b ∧ HF2 b = none := fun i b z => by
                  obtain ⟨u, eu, nu⟩ := k1.own z
                  have q := keep b (by rw [eu]; exact fun y => by cases y)
                  refine ⟨q.1.eq (k1.ntb z), ?_⟩
                  rcases q.2 with q | q
                  · rw [q]; exact nu
                  · exact absurd q (k1.nt z)
                have mono : Sub HF1 HF2 := fun b o q => s2.mono b o (mn b o q)
                refine p2 (.ref x) H2 HF2 (k1.keep k2.subT mono own_b) ⟨mono, fun b nb _ => keep b nb, fun j b z => .inl ⟨j, z⟩, fun i s e w => ⟨⟨s, e, w⟩, rfl⟩⟩ ⟨x, rfl, ow, fun j z => ?_, ?_⟩
                · obtain ⟨u, eu, _⟩ := k1.own z
                  rw [nx] at eu
                  cases eu
                · exact .inl nx
            | _ => exact p1.elim
          | _ => exact p1.elim
      | _ => exact p1.elim
end
end T

-- text T40
set_option Elab.async false
set_option linter.all false
set_option maxRecDepth 100000
set_option maxHeartbeats 4000000
namespace T
open PySem L2
section
variable {X : Cx} {G : Tab} {W : Wt} {σ : L2.St} {H HF HF' : Hp} {γ : Gam} {E : Ends}
/-! instances of classes with __slots__: made, read, stored -/
theorem tpe_newC {k n c : Nat} {f : Addr} {fd : FuncData} {ps : List Str} {F : Gam → Out R} {x : Str} {p pos : Pos} {e : Expr} {es : List Expr} {ms : Gam → Out (List Ar)} (M : L2.Mk X.K (G.fn c) f) (FO : FnOk X.prog X.w X.K X.mg X.base CX0 k f fd ps (spT G (n + 1) F)) (hr : Room (k + 1) X.A) (hg : Gl X x) (hm : X.mg x = some (.ref (G.fn c))) (hb : Binds X.K fd ps [])
    (ha : PA X (e :: es) (tA G W ms)) (hdb : (x == ("__debug__" : Str)) = false) (he : starEach (e :: es) X.env = (false, eval e X.env) :: starEach es X.env) (hpl : (backTo pos (starEach es X.env)).any (·.1) = false) : PE X (.Call (.Name x p) (e :: es) [] pos) (tE G W (eNewC c n F ms)) :=
  ⟨fun pins s σ H Q I h => (pe_make M (fn_init FO) hr hg hm hb .nil L2.pass0 ha hdb he hpl).run pins s σ H Q I (te_newC h)⟩
theorem tpe_newC0 {k c : Nat} {f : Addr} {fd : FuncData} {ps : List Str} {F : Gam → Out R} {x : Str} {p pos : Pos} (M : L2.Mk X.K (G.fn c) f) (FO : FnOk X.prog X.w X.K X.mg X.base CX0 k f fd ps (spT G 1 F)) (hr : Room (k + 1) X.A) (hg : Gl X x) (hm : X.mg x = some (.ref (G.fn c))) (hb : Binds X.K fd ps [])
    (hdb : (x == ("__debug__" : Str)) = false) : PE X (.Call (.Name x p) [] [] pos) (tE G W (eNewC c 0 F aNil)) :=
  ⟨fun pins s σ H Q I h => (pe_make0 M (fn_init FO) hr hg hm hb .nil L2.pass0 hdb).run pins s σ H Q I (ta_nil (te_newC h))⟩
theorem Pk.obj {c : Nat} {ds : List D} {v : V} (s : Sub HF H) (h : Pk G HF H (.obj c ds) v) : ∃ a dx xs, v = .ref a ∧ SlX.Slt H a (G.fn c) dx (xs.map some) ∧ RepL G HF ds xs := by
  rcases h with h | ⟨a, e, dx, xs, h, _, q, m, r⟩
  · unfold Rep at h
    obtain ⟨a, dx, xs, e, q, q2, m, r⟩ := h
    exact ⟨a, dx, xs, e, .inr ⟨s _ _ q, s _ _ q2⟩, r⟩
  · exact ⟨a, dx, xs, e, .inr ⟨h, s _ _ q⟩, r⟩
/-- the variable f of the class of number c stands in slot j -/
structure CSl (K : PySem.W.Frag) (C : Addr) (f : Str) (j : Nat) : Prop where
  cls : SlX.SCls K C
  at_ : ∃ p, SlX.Slot1 K C f p j
/-- e.f -/
def eAt (c j : Nat) (m : Gam → Out Ar) : Gam → Out R := fun γ => (m γ).bind fun a γ1 => match look γ1 a with
  | some (.obj c' ds) => (match Nat.beq c' c with
    | true => (match ds[j]? with
      | some d => .ok (.fz d) γ1
      | none => .bad)
    | false => .bad)
  | _ => .bad
theorem tpe_at {c j : Nat} {f : Str} {e : Expr} {pos : Pos} {m : Gam → Out Ar} (S : CSl X.K (G.fn c) f j) (he : PE X e (tO G W m)) (hb : attributeBase e f X.env (eval e X.env) = eval e X.env := by rfl) : PE X (.Attribute e f pos) (tE G W (eAt c j m)) :=
  ⟨fun pins s σ H Q I h => (SlX.pe_sl he hb).run pins s σ H Q I (by
    obtain ⟨HF, γ, k, p⟩ := h
    refine ⟨HF, γ, k, post_bind (r1 := rO G) p fun a γ1 x H1 HF1 k1 s1 r1 p1 => ?_⟩
    have p2 := post_from later_E s1 p1
    split at p2
    · rename_i c' ds e0
      split at p2
      · rename_i hc
        have ec := Nat.eq_of_beq_eq_true hc
        subst ec
        split at p2
        · rename_i d ed
          obtain ⟨b, dx, xs, ev, sl, rl⟩ := (look_pk k1 r1 e0).obj k1.sub
          obtain ⟨p', t⟩ := S.at_
          obtain ⟨v, ex, rv⟩ := RepL.get rl ed
          exact ⟨b, _, dx, p', _, j, v, ev, sl, S.cls, t, by rw [List.getElem?_map, ex]; rfl, p2 v H1 HF1 k1 .refl rv⟩
        · exact p2.elim
      · exact p2.elim
    · exact p2.elim)⟩
def putAt (j : Nat) (v : D) (ds : List D) : List D := (ds ++ List.replicate (j + 1 - ds.length) D.non).set j v
/-- x.f = e, x a slot -/
def sAt (x c j : Nat) (me : Gam → Out Ar) : Gam → OutS := fun γ => (me γ).toS fun a γ1 => match a with
  | .sl _ => .bad
  | .d v => (match γ1[x]? with
    | some s => (match s.dat with
      | some (.obj c' ds) => (match Nat.beq c' c && Nat.ble j ds.length with
        | true => .nx (γ1.set x (s.put (.obj c (putAt j v ds))))
        | false => .bad)
      | _ => .bad)
    | none => .bad)
theorem put_rep {j : Nat} {v : D} {y : V} {ds : List D} {xs : List V} (r : RepL G HF ds xs) (rv : Rep G HF v y) (hj : j ≤ ds.length) : ∃ ys, SlX.putS j y (xs.map some) = ys.map some ∧ RepL G HF (putAt j v ds) ys := by
  have hl := r.length
  unfold SlX.putS putAt
  rw [List.length_map]
  rcases Nat.lt_or_eq_of_le hj with h | h
  · refine ⟨xs.set j y, ?_, ?_⟩
    · rw [show j + 1 - xs.length = 0 by omega, List.replicate_zero, List.append_nil, List.map_set]
    · rw [show j + 1 - ds.length = 0 by omega, List.replicate_zero, List.append_nil]
      exact RepL.set' j r rv
  · refine ⟨xs ++ [y], ?_, ?_⟩
    · rw [show j + 1 - xs.length = 1 by omega, List.map_append]
      show (List.map some xs ++ [none]).set j (some y) = List.map some xs ++ [some y]
      rw [List.set_append_right _ _ (by rw [List.length_map]; omega), List.length_map, show j - xs.length = 0 by omega]
      rfl
    · rw [show j + 1 - ds.length = 1 by omega]
      show RepL G HF ((ds ++ [D.non]).set j v) (xs ++ [y])
      rw [List.set_append_right _ _ (by omega), show j - ds.length = 0 by omega]
      exact RepL.append r (.one rv)
theorem slH_own {a C dx : Addr} {vs : List (Option V)} (h : H dx = some (.xd [])) : SlX.slH H a C dx vs = upd H a (SlX.SlO a C dx vs) := by
  funext b
  unfold SlX.slH
  by_cases h1 : b = a
  · rw [h1, upd_same, upd_same]
  · rw [upd_ne h1, upd_ne h1]
    by_cases h2 : b = dx
    · rw [h2, upd_same, h]
    · rw [upd_ne h2]
theorem tps_at {x c j : Nat} {f : Str} {o e : Expr} {pos pos2 : Pos} {me : Gam → Out Ar} (S : CSl X.K (G.fn c) f j) (ho : PE X o (tO G W (oSl x))) (he : PE X e (tO G W me)) (hs : swapsWith e (some (.Attribute o f pos2)) pos.line X.env = pure false := by rfl) :
    PS X (.Assign [.Attribute o f pos2] e pos) (tS G W (sAt x c j me)) :=
  ⟨fun pins s σ H D I h => (SlX.ps_sl ho he hs).run pins s σ H D I (by
    obtain ⟨HF, γ, k, p⟩ := h
    refine ⟨HF, γ, k, postS_bind (r1 := rO G) p fun a γ1 v H1 HF1 k1 s1 r1 p1 => ?_⟩
    cases a with
    | sl i => exact p1.elim
    | d d =>
    simp only at p1
    have rd : Rep G HF1 d v := r1
    have p1 := postS_from s1 p1
    cases e0 : γ1[x]? with
    | none => rw [e0] at p1; exact p1.elim
    | some s0 =>
    rw [e0] at p1
    simp only at p1
    cases l0 : s0.dat with
    | none => rw [l0] at p1; exact p1.elim
    | some d0 =>
    rw [l0] at p1
    cases d0 with
    | obj c' ds =>
      simp only at p1
      cases hc : Nat.beq c' c && Nat.ble j ds.length with
      | false => rw [hc] at p1; exact p1.elim
      | true =>
        rw [hc] at p1
        obtain ⟨h1, h2⟩ := Bool.and_eq_true_iff.mp hc
        have ec := Nat.eq_of_beq_eq_true h1
        subst ec
        obtain ⟨a, q0, o0, _⟩ := own_dat k1 e0 l0
        have eo : oSl x γ1 = .ok (.sl x) γ1 := by
          unfold oSl
          rw [e0]
          rcases Sl.dat_some l0 with rfl | rfl <;> rfl
        refine ⟨HF1, γ1, k1, ?_⟩
        rw [eo]
        intro w H2 HF2 k2 s2 rv
        have rv' : σ[x]? = some (some w) := rv
        rw [q0] at rv'
        cases rv'
        obtain ⟨a2, q2, o2, dx, xs, h3, hn, hd, ne, rl⟩ := own_dat k2 e0 l0
        rw [q0] at q2
        cases q2
        obtain ⟨p', t⟩ := S.at_
        obtain ⟨ys, ey, ry⟩ := put_rep rl (Rep.mono s2.mono _ _ rd) (Nat.le_of_ble_eq_true h2)
        refine ⟨a, _, dx, p', xs.map some, j, rfl, .inr ⟨h3, k2.sub _ _ hd⟩, S.cls, t, ?_⟩
        rw [slH_own (k2.sub _ _ hd), ey]
        obtain ⟨k4, s4⟩ := own_putW (d2 := .obj c' (putAt j d ds)) k2 e0 l0 o2 (w := SlX.SlO a (G.fn c') dx (ys.map some)) ⟨dx, ys, upd_same, hn, hd, ne, ry⟩
        exact (postS_from s2 p1) σ _ HF2 k4 s4
    | _ => exact p1.elim)⟩
end
end T

-- text T41
set_option Elab.async false
set_option linter.all false
set_option maxRecDepth 100000
set_option maxHeartbeats 4000000
namespace T
open PySem L2
section
variable {X : Cx} {G : Tab} {W : Wt} {σ : L2.St} {H HF HF' H1 HF1 : Hp} {γ γ1 : Gam} {E : Ends}
/-- a callee that is handed data alone -/
theorem sp_data {n : Nat} {F : Gam → Out R} {ds : List D} {vs : List V} {r : R} {as' : Gam} {Q : VK} (k1 : Ok G σ H1 HF1 γ1) (rl : RepL G HF1 ds vs) (hn : ds.length = n) (ef : F (ds.map Sl.fz) = .ok r as') (p2 : post (rE G) G W σ γ1 H1 HF1 Q (.ok r γ1)) : spT G n F vs H1 Q L2.E0 := by
  have own0 : ∀ i b, ¬ OwnAt (vs.map some) (ds.map Sl.fz) i b := fun i b ⟨⟨s, es, ws⟩, eb⟩ => by
    obtain ⟨d, v, e1, _⟩ := RepL.slots rl i s es
    rw [e1] at ws
    cases ws
  refine ⟨by rw [rl.length]; exact hn, HF1, ds.map Sl.fz, ⟨k1.subT, ?_, fun i s es => ?_, fun i j b h1 _ => absurd h1 (own0 i b)⟩, ?_, ?_⟩
  · rw [List.length_map, List.length_map, rl.length]
  · obtain ⟨d, v, e1, ev, rv⟩ := RepL.slots rl i s es
    subst e1
    refine ⟨v, ?_, rv⟩
    rw [List.getElem?_map, ev]
    rfl
  · rw [List.all_map]
    exact List.all_eq_true.mpr fun d _ => rfl
  · rw [ef]
    intro v H2 HF2 k2 s2 rr
    have own_b : ∀ i b, OwnAt σ γ1 i b → H2 b = H1 b ∧ HF2 b = none := fun i b z => by
      obtain ⟨u, eu, nu⟩ := k1.own z
      have q := s2.frame b (by rw [eu]; exact fun y => by cases y) fun i => own0 i b
      refine ⟨q.1.eq (k1.ntb z), ?_⟩
      rcases q.2 with q | q
      · rw [q]; exact nu
      · exact absurd q (k1.nt z)
    refine p2 v H2 HF2 (k1.keep k2.subT s2.mono own_b) ⟨s2.mono, fun b nb _ => s2.frame b nb fun i => own0 i b, fun j b z => .inl ⟨j, z⟩, fun i s e w => ⟨⟨s, e, w⟩, rfl⟩⟩ ?_
    cases r with
    | fz d => exact rr
    | own d =>
      obtain ⟨a, ea, o, no, w⟩ := rr
      have hn : H1 a = none := by
        rcases w with w | ⟨i, w⟩
        · exact w
        · exact absurd w (own0 i a)
      refine ⟨a, ea, o, fun j q => ?_, .inl hn⟩
      obtain ⟨u, eu, _⟩ := k1.own q
      rw [hn] at eu
      cases eu
/-- the class of number c -/
theorem gC {x : Str} {c : Nat} {pos : Pos} (hm : X.mg x = some (.ref (G.fn c))) (hg : Gl X x := by rfl) (hd : (x == ("__debug__" : Str)) = false := by decide) : PE X (.Name x pos) (tE G W (eC (.fn c))) :=
  ⟨fun pins s σ H Q I hw => (pe_glob (v := .ref (G.fn c)) hg hm rfl hd).run pins s σ H Q I (by
    obtain ⟨HF, γ, k, p⟩ := hw
    exact p _ H HF k .refl (by show Rep G HF (.fn c) _; unfold Rep; rfl))⟩
/-- isinstance(x, C), both of own classes -/
def bIsiC (n c2 : Nat) : List D → Option BR
  | [.obj c _, .fn i] => (match Nat.beq i c2 && Nat.blt c n with
    | true => some (.val (.bl (Nat.beq c c2)))
    | false => none)
  | _ => none
structure CIsi (K : PySem.W.Frag) (fn : Nat → Addr) (c c2 : Nat) : Prop where
  cls : SlX.SCls K (fn c)
  isi : SlX.SIsi K (fn c)
  kit : PySem.W.kitOne K (.ref (fn c)) (.ref (fn c2)) = some (Nat.beq c c2)
theorem ok_isiC {n c2 : Nat} (S : ∀ c, c < n → CIsi X.K G.fn c c2) : CallOk G (SlX.rIsiSl X.K (.ref (G.fn c2))) (bIsiC n c2) := by
  intro H HF xs ds br Q sub p e h
  unfold bIsiC at e
  split at e
  · rename_i c es i
    split at e
    · rename_i hi
      obtain ⟨hi, hb⟩ := Bool.and_eq_true_iff.mp hi
      have hb := blt_of hb
      have ei := Nat.eq_of_beq_eq_true hi
      subst ei
      cases e
      obtain ⟨v, v2, rfl, q, q2⟩ := pks_two p
      obtain ⟨a, dx, xs, ev, sl, rl⟩ := q.obj sub
      subst ev
      have e2 : v2 = .ref (G.fn i) := by
        rcases q2 with q2 | ⟨b, eb, o⟩
        · unfold Rep at q2; exact q2
        · exact o.elim
      subst e2
      exact ⟨a, G.fn c, dx, _, .ref (G.fn i), Nat.beq c i, rfl, rfl, fun w r => r, sl, (S c hb).cls, (S c hb).isi, (S c hb).kit, h _ H ⟨rfl, by unfold Rep; rfl⟩⟩
    · cases e
  · cases e
/-- e.f, a property; F: what its getter does -/
def eProp (c : Nat) (F : Gam → Out R) (m : Gam → Out Ar) : Gam → Out R := fun γ => (m γ).bind fun a γ1 => match a with
  | .d (.obj c' ds) => (match Nat.beq c' c with
    | true => (match F [.fz (.obj c ds)] with
      | .ok r _ => .ok r γ1
      | _ => .bad)
    | false => .bad)
  | _ => .bad
structure CPr (K : PySem.W.Frag) (C : Addr) (f : Str) (g : Addr) : Prop where
  cls : SlX.SCls K C
  ex : ∃ p, PySem.W.findIn K (.ref C) f = some (some (.ref p)) ∧ PySem.W.specialIn K (.ref p) "__get__" = some (some (.builtin "property.__get__")) ∧ PySem.W.takesIn K (.ref p) = some true ∧ ∃ rest, PySem.W.recIn K p "property" = some (.ref g :: rest)
theorem fnR_of {P : Program} {w : World} {K : PySem.W.Frag} {mg : Str → Option Value} {base : Heap} {k : Nat} {f : Addr} {fd : FuncData} {ps : List Str} {sp : Sp} (F : FnOk P w K mg base CX0 k f fd ps sp) (hb : Binds K fd ps []) : FnR P w K mg base CX0 k f sp := (F.raw hb .nil).imp fun vs H Q E h => by
  rw [List.append_nil]
  exact h
theorem tpe_prop {c k : Nat} {g : Addr} {fd : FuncData} {ps : List Str} {F : Gam → Out R} {f : Str} {e : Expr} {pos : Pos} {m : Gam → Out Ar} (S : CPr X.K (G.fn c) f g) (FO : FnOk X.prog X.w X.K X.mg X.base CX0 k g fd ps (spT G 1 F)) (hb : Binds X.K fd ps []) (hr : Room (k + 1) X.A) (he : PE X e (tO G W m)) (hab : attributeBase e f X.env (eval e X.env) = eval e X.env := by rfl) : PE X (.Attribute e f pos) (tE G W (eProp c F m)) := by
  obtain ⟨p, s1, s2, s3, s4⟩ := S.ex
  exact ⟨fun pins s σ H Q I h => (SlX.pe_propSl (E := L2.E0) he S.cls s1 s2 s3 s4 (fnR_of FO hb) hr (fun _ _ _ _ z => z.elim) hab).run pins s σ H Q I (by
    obtain ⟨HF, γ, k, p⟩ := h
    refine ⟨HF, γ, k, post_bind (r1 := rO G) p fun a γ1 x H1 HF1 k1 s1 r1 p1 => ?_⟩
    have p2 := post_from later_E s1 p1
    cases a with
    | sl i => exact p2.elim
    | d d =>
    cases d with
    | obj c' ds =>
      simp only at p2
      cases hc : Nat.beq c' c with
      | false => rw [hc] at p2; exact p2.elim
      | true =>
        rw [hc] at p2
        have ec := Nat.eq_of_beq_eq_true hc
        subst ec
        simp only at p2
        have rx : Rep G HF1 (.obj c' ds) x := r1
        obtain ⟨b, dx, xs, ev, sl, rl⟩ := Pk.obj k1.sub (.inl rx)
        cases ef : F [.fz (.obj c' ds)] with
        | bad => rw [ef] at p2; exact p2.elim
        | er x as' => rw [ef] at p2; exact p2.elim
        | ok r as' =>
          rw [ef] at p2
          subst ev
          exact ⟨b, dx, _, rfl, sl, sp_data (ds := [.obj c' ds]) k1 (.one rx) rfl ef p2⟩
    | _ => exact p2.elim)⟩
/-- e.m(..), e and the arguments as data; F: what the method does -/
def eMethC (c n : Nat) (F : Gam → Out R) (m : Gam → Out Ar) (ms : Gam → Out (List Ar)) : Gam → Out R := fun γ => (m γ).bind fun a γ1 => match a with
  | .d (.obj c' ds) => (match Nat.beq c' c with
    | true => (ms γ1).bind fun ars γ2 => (match dsOf ars with
      | some es => (match Nat.beq es.length n with
        | true => (match F (.fz (.obj c ds) :: es.map Sl.fz) with
          | .ok r _ => .ok r γ2
          | _ => .bad)
        | false => .bad)
      | none => .bad)
    | false => .bad)
  | _ => .bad
theorem te_methC {c n : Nat} {F : Gam → Out R} {m : Gam → Out Ar} {ms : Gam → Out (List Ar)} {Q : VK} (h : tE G W (eMethC c n F m ms) σ H Q) : SlX.tMethSl (G.fn c) (spT G (n + 1) F) L2.E0 (tO G W m) (tA G W ms) σ H Q := by
  obtain ⟨HF, γ, k, p⟩ := h
  refine ⟨HF, γ, k, post_bind (r1 := rO G) p fun a γ1 x H1 HF1 k1 s1 r1 p1 => ?_⟩
  have p2 := post_from later_E s1 p1
  cases a with
  | sl i => exact p2.elim
  | d d =>
  cases d with
  | obj c' ds =>
    simp only at p2
    cases hc : Nat.beq c' c with
    | false => rw [hc] at p2; exact p2.elim
    | true =>
      rw [hc] at p2
      have ec := Nat.eq_of_beq_eq_true hc
      subst ec
      simp only at p2
      have rx : Rep G HF1 (.obj c' ds) x := r1
      obtain ⟨b, dx, xs, ev, sl, rl⟩ := Pk.obj k1.sub (.inl rx)
      refine ⟨b, dx, _, ev, sl, HF1, γ1, k1, post_bind (r1 := rA G) p2 fun ars γ2 vs H2 HF2 k2 s2 r2 p3 => ?_⟩
      have p4 := post_from later_E s2 p3
      cases e : dsOf ars with
      | none => rw [e] at p4; exact p4.elim
      | some es =>
      rw [e] at p4
      simp only at p4
      cases hn : Nat.beq es.length n with
      | false => rw [hn] at p4; exact p4.elim
      | true =>
      rw [hn] at p4
      simp only at p4
      cases ef : F (.fz (.obj c' ds) :: es.map Sl.fz) with
      | bad => rw [ef] at p4; exact p4.elim
      | er x as' => rw [ef] at p4; exact p4.elim
      | ok r as' =>
        rw [ef] at p4
        exact sp_data (ds := .obj c' ds :: es) k2 (.cons (Rep.mono s2.mono _ _ rx) (dsOf_rep r2 e)) (by rw [List.length_cons, Nat.eq_of_beq_eq_true hn]) ef p4
  | _ => exact p2.elim
end
end T

-- text T42
set_option Elab.async false
set_option linter.all false
set_option maxRecDepth 100000
set_option maxHeartbeats 4000000
namespace T
open PySem L2
section
variable {X : Cx} {G : Tab} {W : Wt} {σ : L2.St} {H HF HF' H1 HF1 : Hp} {γ γ1 : Gam} {E : Ends}
theorem tpe_methC {c n k : Nat} {g : Addr} {fd : FuncData} {ps : List Str} {F : Gam → Out R} {o e : Expr} {es : List Expr} {f : Str} {apos pos : Pos} {m : Gam → Out Ar} {ms : Gam → Out (List Ar)} {pl : Sem Bool} (S : SlX.SCls X.K (G.fn c)) (hm : Meth X.K (G.fn c) f g) (FO : FnOk X.prog X.w X.K X.mg X.base CX0 k g fd ps (spT G (n + 1) F)) (hb : Binds X.K fd ps []) (hr : Room k X.A) (ho : PE X o (tO G W m)) (ha : PA X (e :: es) (tA G W ms))
    (hst : starEach (e :: es) X.env = (false, eval e X.env) :: starEach es X.env := by rfl) (hpl : (backTo pos (starEach es X.env)).any (·.1) = false := by rfl)
    (ht : eval (.Call (.Attribute o f apos) (e :: es) [] pos) X.env = (do
      let ov ← eval o X.env
      standAt apos.atName
      let (f, first) ← holding [ov] (getMethod ov f pl)
      callWith pos f first (backTo pos (starEach (e :: es) X.env)) (backToKw pos (keywordEach [] X.env))) := by rfl) :
    PE X (.Call (.Attribute o f apos) (e :: es) [] pos) (tE G W (eMethC c n F m ms)) :=
  ⟨fun pins s σ H Q I h => (SlX.pe_methSl ho S hm (fnR_of FO hb) hr L2.pass0 ha hst hpl ht).run pins s σ H Q I (te_methC h)⟩
/-- a module's name for a built-in function -/
theorem tpe_callG {id : String} {x : Str} {p pos : Pos} {e : Expr} {es : List Expr} {r : List V → Hp → VK → Prop} {f : List D → Option BR} {ms : Gam → Out (List Ar)} (hc : CallR X (.builtin id) r) (F : CallOk G r f) (hm : X.mg x = some (.builtin id)) (ha : PA X (e :: es) (tA G W ms)) (hg : Gl X x := by rfl) (hdb : (x == ("__debug__" : Str)) = false := by decide)
    (he : starEach (e :: es) X.env = (false, eval e X.env) :: starEach es X.env := by rfl) (hpl : (backTo pos (starEach es X.env)).any (·.1) = false := by rfl) : PE X (.Call (.Name x p) (e :: es) [] pos) (tE G W (eCall f ms)) :=
  ⟨fun pins s σ H Q I h => (pe_callBfun hc hg hm ha hdb he hpl).run pins s σ H Q I (te_call F h)⟩
def bGcd : List D → Option BR
  | [.int a, .int b] => some (.val (.int ((Nat.gcd a.natAbs b.natAbs : Nat) : Int)))
  | _ => none
theorem ok_gcd : CallOk G rGcd bGcd := by
  intro H HF xs ds br Q sub p e h
  unfold bGcd at e
  split at e
  · rename_i a b
    cases e
    obtain ⟨v, v2, rfl, q, q2⟩ := pks_two p
    exact ⟨a, b, by rw [q.int, q2.int], h _ H ⟨rfl, by unfold Rep; rfl⟩⟩
  · cases e
def bStrI : List D → Option BR
  | [.int i] => (match Nat.blt i.natAbs.log2 1920 with
    | true => some (.val (.str (toString i)))
    | false => none)
  | _ => none
theorem ok_strI : CallOk G (fun xs H Q => ∃ i, xs = [V.int i] ∧ i.natAbs.log2 < 1920 ∧ Q (.str (toString i)) H) bStrI := by
  intro H HF xs ds br Q sub p e h
  unfold bStrI at e
  split at e
  · rename_i i
    split at e
    · rename_i hb
      cases e
      obtain ⟨v, rfl, q⟩ := pks_one p
      exact ⟨i, by rw [q.int], blt_of hb, h _ H ⟨rfl, by unfold Rep; rfl⟩⟩
    · cases e
  · cases e
/-- x += e, ints -/
def sAugI (i : Nat) (m : Gam → Out Ar) : Gam → OutS := fun γ => match γ[i]? with
  | some (.fz (.int a)) => (m γ).toS fun b γ1 => (match look γ1 b with
    | some (.int c) => nxO (stG i (.fz (.int (a + c))) γ1)
    | _ => .bad)
  | _ => .bad
theorem tps_augI {i : Nat} {x : Str} {e : Expr} {pos pos' : Pos} {m : Gam → Out Ar} (hN : X.N.Nodup) (hi : X.N[i]? = some x) (hx : Loc X.env.scope x) (he : PE X e (tO G W m)) (hf : X.fn x = true ∨ X.env.scope.names.lookup x = some .local := by first | exact .inl rfl | exact .inr rfl) :
    PS X (.AugAssign (.Name x pos') .Add e pos) (tS G W (sAugI i m)) :=
  ⟨fun pins s σ H D I h => (ps_aug hN hi hx he ip_add hf).run pins s σ H D I (by
    obtain ⟨HF, γ, k, p⟩ := h
    unfold sAugI at p
    split at p
    · rename_i a e0
      obtain ⟨v, ev, rv⟩ := k.sl i _ e0
      have rv : v = .int a := by unfold Rep at rv; exact rv
      subst rv
      refine ⟨.int a, join_eq ev, HF, γ, k, postS_bind (r1 := rO G) p fun b γ1 y H1 HF1 k1 s1 r1 p1 => ?_⟩
      have p2 := postS_from s1 p1
      split at p2
      · rename_i c el
        refine ⟨a, c, rfl, (look_pk k1 r1 el).int, ?_⟩
        cases e : stG i (.fz (.int (a + c))) γ1 with
        | none => rw [e] at p2; exact p2.elim
        | some γ2 =>
          rw [e] at p2
          obtain ⟨k2, s2⟩ := store_res (r := .fz (.int (a + c))) (v := .int (a + c)) k1 .refl (by show Rep G HF1 (.int (a + c)) _; unfold Rep; rfl) e
          exact p2 _ H1 HF1 k2 s2
      · exact p2.elim
    · exact p.elim)⟩
end
end T

-- text T43
set_option Elab.async false
set_option linter.all false
set_option maxRecDepth 100000
set_option maxHeartbeats 4000000
namespace T
open PySem L2
section
variable {X : Cx} {G : Tab} {W : Wt} {σ : L2.St} {H HF HF' H1 HF1 : Hp} {γ γ1 : Gam} {E : Ends}
/-! x in t, of any data -/
def rInT (K : PySem.W.Frag) (neg : Bool) : R2 := fun x y H Q => ∃ d ds, Dp K H x d ∧ Dp K H y (.tuple ds) ∧ SeqAt.shaped d = true ∧ SeqAt.shaped (.tuple ds) = true ∧ Q (.bl (if neg = true then !(ds.any fun z => PyData.eqv z d) else ds.any fun z => PyData.eqv z d)) H
theorem op_inTD (hu : X.A.units + 65 < cLine) : OpR X (compareOp .In) (rInT X.K false) := by
  intro pins s σ H x y v u Q I rx ry h
  obtain ⟨d, ds, hd, he, sd, se, q⟩ := h
  obtain ⟨as, r1⟩ := Dp.reads I d x v hd rx
  obtain ⟨bs, r2⟩ := Dp.reads I (.tuple ds) y u he ry
  exact SeqAt.in_tuple_reads r2 r1 (SeqAt.canLay_of_shaped se) (SeqAt.canLay_of_shaped sd) (PyProof.Rows.room_in_shaped sd hu) ⟨.bl _, H, I, rfl, q⟩
theorem op_notInTD (hu : X.A.units + 65 < cLine) : OpR X (compareOp .NotIn) (rInT X.K true) := by
  intro pins s σ H x y v u Q I rx ry h
  obtain ⟨d, ds, hd, he, sd, se, q⟩ := h
  obtain ⟨as, r1⟩ := Dp.reads I d x v hd rx
  obtain ⟨bs, r2⟩ := Dp.reads I (.tuple ds) y u he ry
  exact SeqAt.notIn_tuple_reads r2 r1 (SeqAt.canLay_of_shaped se) (SeqAt.canLay_of_shaped sd) (PyProof.Rows.room_in_shaped sd hu) ⟨.bl _, H, I, rfl, q⟩
def anyD (a : D) : List D → Bool
  | [] => false
  | z :: ds => eqd z a || anyD a ds
def fInT (neg : Bool) (a b : D) : Option BR := match fInD neg a b with
  | some br => some br
  | none => (match b with
    | .tup ds => (match shD 12 a && shD 12 (.tup ds) with
      | true => some (.val (.bl (if neg = true then !(anyD a ds) else anyD a ds)))
      | false => none)
    | _ => none)
theorem shL_mem {n : Nat} : ∀ {ds : List D}, shL n ds = true → ∀ d ∈ ds, shD n d = true
  | d :: ds, h, x, hx => by
    have h : (shD n d && shL n ds) = true := h
    obtain ⟨h1, h2⟩ := Bool.and_eq_true_iff.mp h
    rcases List.mem_cons.mp hx with z | hx
    · rw [z]; exact h1
    · exact shL_mem h2 x hx
theorem pyOf_map : ∀ ds : List D, pyOfL ds = ds.map pyOf
  | [] => rfl
  | d :: ds => by
    show pyOf d :: pyOfL ds = _
    rw [pyOf_map ds]
    rfl
theorem any_eqd {a : D} (ha : shD 12 a = true) : ∀ {ds : List D}, shL 11 ds = true → ((ds.map pyOf).any fun z => PyData.eqv z (pyOf a)) = anyD a ds
  | [], _ => rfl
  | d :: ds, h => by
    have h : (shD 11 d && shL 11 ds) = true := h
    obtain ⟨h1, h2⟩ := Bool.and_eq_true_iff.mp h
    rw [List.map_cons, List.any_cons, any_eqd ha h2, eqd_ok 11 12 d a h1 ha]
    rfl
theorem ok_inT (hK : G.K = X.K) (neg : Bool) {r : R2} (F : OpOk G r (fInD neg)) : OpOk G (fun x y H Q => r x y H Q ∨ rInT X.K neg x y H Q) (fInT neg) := by
  intro H HF x y d1 d2 br Q sub p1 p2 e h
  unfold fInT at e
  split at e
  · rename_i br' e1
    cases e
    exact .inl (F sub p1 p2 e1 h)
  · split at e
    · rename_i ds e1
      split at e
      · rename_i z
        obtain ⟨z1, z2⟩ := Bool.and_eq_true_iff.mp z
        cases e
        have q2 := pk_dp hK sub z2 p2
        have e3 : pyOf (.tup ds) = .tuple (ds.map pyOf) := by
          show PyData.tuple (pyOfL ds) = _
          rw [pyOf_map]
        rw [e3] at q2
        have s2 := shaped_of z2 (by decide)
        rw [e3] at s2
        refine .inr ⟨pyOf d1, ds.map pyOf, pk_dp hK sub z1 p1, q2, shaped_of z1 (by decide), s2, ?_⟩
        rw [any_eqd z1 (ds := ds) z2]
        exact h _ H bres_bl'
      · cases e
    · cases e
end
end T

-- text T44
set_option Elab.async false
set_option linter.all false
set_option maxRecDepth 100000
set_option maxHeartbeats 4000000
namespace T
open PySem L2 PyProof.Rows
/-! min(t) of a tuple of ints; min(l), max(l) of a list -/
section
variable {prog : Program} {w : World} {A : Around} {E : Value → Shared → Prop} {s : Shared}
theorem min_tupRaw {l : Addr} {its : List Value} {ns : List Int} {Q : Value → Shared → Prop} (hh : A.handled = none) (hl : s.heap.IsTuple l its.toArray) (hi : IntsAre its ns) (hne : 0 < ns.length)
    (h : ∀ h' tk M t', (∀ b o, s.heap.get? b = some o → h'.get? b = some o) → M ∈ ns → (∀ a, a ∈ ns → M ≤ a) → Q (.int M t') { s with heap := h', toks := tk }) : wpAny (model prog w) A (call (.builtin "min") [.ref l]) Q E s := by
  obtain ⟨xs, e⟩ := hi.allInts.items
  have hn : numsOf (intItems xs).toList = ns := by rw [← e]; exact hi.numsOf
  rw [nums_intItems] at hn
  subst hn
  rw [e] at hl
  have hsz : 0 < xs.size := by simpa using hne
  have hlt : l < s.heap.objs.size := by obtain ⟨_, e, _⟩ := hl; exact Heap.lt_size e
  refine call_min_walk (wpAny_pyIter_tuple hl ?_)
  refine ⟨_, _, _, _, _, _, _, rfl, Walks.tuple (A := A.in1) hh s.heap.objs.size l (Nat.ne_of_lt hlt) (intItems xs), ⟨⟨_, Heap.get?_push_size _ rfl, rfl, rfl⟩, hl.push _⟩, (fun b hb => ?_), by simpa [intItems] using hsz, CmpOf.ints_lt (numAt xs) (fun _ _ => intItems_at), fun v h' tk hP hk => ?_⟩
  · show b < (s.heap.push _).objs.size
    rw [Heap.size_push]
    rcases List.mem_cons.mp hb with rfl | hb
    · exact Nat.lt_succ_self _
    · rcases List.mem_cons.mp hb with rfl | hb
      · exact Nat.lt_succ_of_lt hlt
      · cases hb
  · have hv : (intItems xs)[argBest (fun i j => decide (numAt xs i < numAt xs j)) (xs.size - 1)]? = some v := by simpa [intItems] using hP
    obtain ⟨t, rfl⟩ := intItems_at hv
    obtain ⟨h1, h2⟩ := argBest_lt (numAt xs) (xs.size - 1)
    refine h h' tk _ t (fun b o e => ?_) ?_ fun a ha => ?_
    · refine hk b o (fun hm => ?_) (Heap.get?_push_of_some _ e)
      rcases List.mem_cons.mp hm with e1 | hm
      · exact absurd (e1 ▸ Heap.lt_size e) (Nat.lt_irrefl _)
      · cases hm
    · rw [numAt_eq]; exact PySem.getD_mem (by rw [List.length_map, Array.length_toList]; omega)
    · obtain ⟨j, hj, rfl⟩ := mem_getD ha
      rw [List.length_map, Array.length_toList] at hj
      rw [← numAt_eq]; exact h2 j (by omega)
end
section
variable {X : Cx} {G : Tab}
def rMinT (K : PySem.W.Frag) : List V → Hp → VK → Prop := fun vs H Q => ∃ (a : Addr) (ns : List Int), vs = [V.ref a] ∧ SqT K H a (ns.map V.int) ∧ 0 < ns.length ∧ ∀ m, m ∈ ns → (∀ y, y ∈ ns → m ≤ y) → Q (.int m) H
theorem cr_minT (hc : X.calm = true) : CallR X (.builtin "min") (rMinT X.K) := by
  intro pins s σ H vs us Q I r h
  obtain ⟨a, ns, rfl, hs, hne, q⟩ := h
  obtain ⟨its, rv, hl, _⟩ := I.tuple hs
  rw [Vals.ref1 r]
  exact min_tupRaw (I.ok.hd hc) hl rv.ints hne fun h' tk m t' hk h1 h2 => ⟨.int _, H, I.kept hk, ⟨_, rfl⟩, q m h1 h2⟩
def rMinA (K : PySem.W.Frag) : List V → Hp → VK → Prop := fun xs H Q => (∃ i j, xs = [.int i, .int j] ∧ Q (.int (if j < i then j else i)) H) ∨ L2.rMin K xs H Q ∨ rMinT K xs H Q
theorem cr_minA (hc : X.calm = true) : CallR X (.builtin "min") (rMinA X.K) := by
  intro pins s σ H vs us Q I r h
  rcases h with h | h | h
  · exact call_min2 hc pins s σ H vs us Q I r h
  · exact cr_min hc pins s σ H vs us Q I r h
  · exact cr_minT hc pins s σ H vs us Q I r h
def rMaxA (K : PySem.W.Frag) : List V → Hp → VK → Prop := fun xs H Q => (∃ i j, xs = [.int i, .int j] ∧ Q (.int (if j > i then j else i)) H) ∨ L2.rMax K xs H Q
theorem cr_maxA (hc : X.calm = true) : CallR X (.builtin "max") (rMaxA X.K) := by
  intro pins s σ H vs us Q I r h
  rcases h with h | h
  · exact call_max2 hc pins s σ H vs us Q I r h
  · exact cr_max hc pins s σ H vs us Q I r h
def minL : Int → List Int → Int
  | a, [] => a
  | a, b :: r => minL (if b < a then b else a) r
def maxL : Int → List Int → Int
  | a, [] => a
  | a, b :: r => maxL (if a < b then b else a) r
theorem minL_spec : ∀ (r : List Int) (a : Int), minL a r ∈ a :: r ∧ ∀ y ∈ a :: r, minL a r ≤ y
  | [], a => ⟨by simp [minL], fun y hy => by simp at hy; subst hy; exact Int.le_refl _⟩
  | b :: r, a => by
    obtain ⟨h1, h2⟩ := minL_spec r (if b < a then b else a)
    have h3 := h2 _ List.mem_cons_self
    unfold minL
    by_cases h : b < a
    · simp only [if_pos h] at h1 h2 h3 ⊢
      refine ⟨?_, fun y hy => ?_⟩
      · rcases List.mem_cons.mp h1 with z | z
        · rw [z]; simp
        · simp [z]
      · rcases List.mem_cons.mp hy with z | hy
        · rw [z]; omega
        · exact h2 y hy
    · simp only [if_neg h] at h1 h2 h3 ⊢
      refine ⟨?_, fun y hy => ?_⟩
      · rcases List.mem_cons.mp h1 with z | z
        · rw [z]; simp
        · simp [z]
      · rcases List.mem_cons.mp hy with z | hy
        · rw [z]; exact h3
        · rcases List.mem_cons.mp hy with z | hy
          · rw [z]; omega
          · exact h2 y (List.mem_cons_of_mem _ hy)
theorem maxL_spec : ∀ (r : List Int) (a : Int), maxL a r ∈ a :: r ∧ ∀ y ∈ a :: r, y ≤ maxL a r
  | [], a => ⟨by simp [maxL], fun y hy => by simp at hy; subst hy; exact Int.le_refl _⟩
  | b :: r, a => by
    obtain ⟨h1, h2⟩ := maxL_spec r (if a < b then b else a)
    have h3 := h2 _ List.mem_cons_self
    unfold maxL
    by_cases h : a < b
    · simp only [if_pos h] at h1 h2 h3 ⊢
      refine ⟨?_, fun y hy => ?_⟩
      · rcases List.mem_cons.mp h1 with z | z
        · rw [z]; simp
        · simp [z]
      · rcases List.mem_cons.mp hy with z | hy
        · rw [z]; omega
        · exact h2 y hy
    · simp only [if_neg h] at h1 h2 h3 ⊢
      refine ⟨?_, fun y hy => ?_⟩
      · rcases List.mem_cons.mp h1 with z | z
        · rw [z]; simp
        · simp [z]
      · rcases List.mem_cons.mp hy with z | hy
        · rw [z]; exact h3
        · rcases List.mem_cons.mp hy with z | hy
          · rw [z]; omega
          · exact h2 y (List.mem_cons_of_mem _ hy)
def bMinA : List D → Option BR
  | [.int i, .int j] => some (.val (.int (if j < i then j else i)))
  | [.lst ds] => (match intsOf ds with
    | some (a :: r) => some (.val (.int (minL a r)))
    | _ => none)
  | [.tup ds] => (match intsOf ds with
    | some (a :: r) => some (.val (.int (minL a r)))
    | _ => none)
  | _ => none
def bMaxA : List D → Option BR
  | [.int i, .int j] => some (.val (.int (if j > i then j else i)))
  | [.lst ds] => (match intsOf ds with
    | some (a :: r) => some (.val (.int (maxL a r)))
    | _ => none)
  | _ => none
theorem min_one {a m : Int} {r : List Int} (h1 : m ∈ a :: r) (h2 : ∀ y ∈ a :: r, m ≤ y) : m = minL a r := by
  obtain ⟨q1, q2⟩ := minL_spec r a
  have := h2 _ q1
  have := q2 _ h1
  omega
theorem max_one {a m : Int} {r : List Int} (h1 : m ∈ a :: r) (h2 : ∀ y ∈ a :: r, y ≤ m) : m = maxL a r := by
  obtain ⟨q1, q2⟩ := maxL_spec r a
  have := h2 _ q1
  have := q2 _ h1
  omega
theorem ok_minA (hK : G.K = X.K) : CallOk G (rMinA X.K) bMinA := by
  intro H HF xs ds br Q sub p e h
  unfold bMinA at e
  split at e
  · cases e
    obtain ⟨v, v2, rfl, q, q2⟩ := pks_two p
    exact .inl ⟨_, _, by rw [q.int, q2.int], h _ H ⟨rfl, by unfold Rep; rfl⟩⟩
  · rename_i ds
    obtain ⟨v, rfl, q⟩ := pks_one p
    split at e
    · rename_i a r ei
      cases e
      obtain ⟨b, xs, rfl, h1, r1⟩ := q.lst sub
      have ex := intsOf_rep ei r1
      subst ex
      exact .inr (.inl ⟨b, a :: r, rfl, SqL.of h1, by simp, fun m m1 m2 => by rw [min_one m1 m2]; exact h _ H ⟨rfl, by unfold Rep; rfl⟩⟩)
    · cases e
  · rename_i ds
    obtain ⟨v, rfl, q⟩ := pks_one p
    split at e
    · rename_i a r ei
      cases e
      obtain ⟨b, xs, rfl, h1, r1⟩ := q.tup sub
      have ex := intsOf_rep ei r1
      subst ex
      rw [hK] at h1
      exact .inr (.inr ⟨b, a :: r, rfl, h1, by simp, fun m m1 m2 => by rw [min_one m1 m2]; exact h _ H ⟨rfl, by unfold Rep; rfl⟩⟩)
    · cases e
  · cases e
theorem ok_maxA : CallOk G (rMaxA X.K) bMaxA := by
  intro H HF xs ds br Q sub p e h
  unfold bMaxA at e
  split at e
  · cases e
    obtain ⟨v, v2, rfl, q, q2⟩ := pks_two p
    exact .inl ⟨_, _, by rw [q.int, q2.int], h _ H ⟨rfl, by unfold Rep; rfl⟩⟩
  · rename_i ds
    obtain ⟨v, rfl, q⟩ := pks_one p
    split at e
    · rename_i a r ei
      cases e
      obtain ⟨b, xs, rfl, h1, r1⟩ := q.lst sub
      have ex := intsOf_rep ei r1
      subst ex
      exact .inr ⟨b, a :: r, rfl, SqL.of h1, by simp, fun m m1 m2 => by rw [max_one m1 m2]; exact h _ H ⟨rfl, by unfold Rep; rfl⟩⟩
    · cases e
  · cases e
end
end T

-- text T45
set_option Elab.async false
set_option linter.all false
set_option maxRecDepth 100000
set_option maxHeartbeats 4000000
namespace T
open PySem L2
section
variable {X : Cx} {G : Tab} {W : Wt} {σ : L2.St} {H HF HF' : Hp} {γ : Gam} {E : Ends}
/-! tuple(range(a, b)) -/
def eTupRg2 (m1 m2 : Gam → Out Ar) : Gam → Out R := fun γ => (m1 γ).bind fun a γ1 => (m2 γ1).bind fun b γ2 => match look γ2 a with
  | some (.int i) => (match look γ2 b with
    | some (.int j) => (match rgB i j with
      | true => .ok (.fz (.tup (rgD i (j - i).toNat))) γ2
      | false => .bad)
    | _ => .bad)
  | _ => .bad
theorem te_tupRg2 {m1 m2 : Gam → Out Ar} {Q : VK} (h : tE G W (eTupRg2 m1 m2) σ H Q) : tTupRg (tRg2 (tO G W m1) (tO G W m2)) σ H Q := by
  obtain ⟨HF, γ, k, p⟩ := h
  refine ⟨HF, γ, k, post_bind (r1 := rO G) p fun a γ1 x H1 HF1 k1 s1 r1 p1 => ?_⟩
  refine ⟨HF1, γ1, k1, post_bind (r1 := rO G) (post_from later_E s1 p1) fun b γ2 y H2 HF2 k2 s2 r2 p2 => ?_⟩
  have p2 := post_from later_E s2 p2
  split at p2
  · rename_i i e
    split at p2
    · rename_i j e2
      split at p2
      · rename_i hb
        refine ⟨i, j, (look_pk k2 (ArOk.mono s2.mono r1) e).int, (look_pk k2 r2 e2).int, rgB_ok hb, fun q n => ?_⟩
        exact br_fin (br := .newT (rgD i (j - i).toNat)) k2 p2 ⟨q, _, rfl, n, rfl, rgD_rep _⟩
      · exact p2.elim
    · exact p2.elim
  · exact p2.elim
theorem tpe_tupRg2 {a b : Expr} {p p2 pos pos2 : Pos} {m1 m2 : Gam → Out Ar} (hc : X.calm = true) (hg : Gl X "tuple") (hm : X.mg "tuple" = none) (hg2 : Gl X "range") (hm2 : X.mg "range" = none) (ha : PE X a (tO G W m1)) (hb : PE X b (tO G W m2))
    (na : starEach [a, b] X.env = (false, eval a X.env) :: starEach [b] X.env) (nb : starEach [b] X.env = (false, eval b X.env) :: starEach [] X.env) (hp : (backTo pos2 (starEach [b] X.env)).any (·.1) = false)
    (nc : starEach [.Call (.Name "range" p2) [a, b] [] pos2] X.env = (false, eval (.Call (.Name "range" p2) [a, b] [] pos2) X.env) :: starEach [] X.env) :
    PE X (.Call (.Name "tuple" p) [.Call (.Name "range" p2) [a, b] [] pos2] [] pos) (tE G W (eTupRg2 m1 m2)) :=
  ⟨fun pins s σ H Q I h => (pe_tupRg hc hg hm (prg_2 hg2 hm2 ha hb na nb hp) nc).run pins s σ H Q I (te_tupRg2 h)⟩
theorem _root_.L2.Room.units65 {k : Nat} {A : Around} (r : Room k A) : A.units + 65 < cLine := by have := r.un; omega
/-! short words -/
theorem au (i : Nat) {x : Str} {e : Expr} {pos pos' : Pos} {m : Gam → Out Ar} (hN : X.N.Nodup) (he : PE X e (tO G W m)) (hi : X.N[i]? = some x := by rfl) (hx : Loc X.env.scope x := by first | exact Or.inl rfl | exact Or.inr rfl) (hf : X.fn x = true ∨ X.env.scope.names.lookup x = some .local := by first | exact .inl rfl | exact .inr rfl) :
    PS X (.AugAssign (.Name x pos') .Add e pos) (tS G W (sAugI i m)) := tps_augI hN hi hx he hf
theorem nw {k n c : Nat} {f : Addr} {fd : FuncData} {ps : List Str} {F : Gam → Out R} {x : Str} {p pos : Pos} {e : Expr} {es : List Expr} {ms : Gam → Out (List Ar)} (M : L2.Mk X.K (G.fn c) f) (FO : FnOk X.prog X.w X.K X.mg X.base CX0 k f fd ps (spT G (n + 1) F)) (hr : Room (k + 1) X.A) (hm : X.mg x = some (.ref (G.fn c))) (hb : Binds X.K fd ps [])
    (ha : PA X (e :: es) (tA G W ms)) (hg : Gl X x := by rfl) (hdb : (x == ("__debug__" : Str)) = false := by decide) (he : starEach (e :: es) X.env = (false, eval e X.env) :: starEach es X.env := by rfl) (hpl : (backTo pos (starEach es X.env)).any (·.1) = false := by rfl) : PE X (.Call (.Name x p) (e :: es) [] pos) (tE G W (eNewC c n F ms)) := tpe_newC M FO hr hg hm hb ha hdb he hpl
theorem cu0 {k j : Nat} {f : Addr} {fd : FuncData} {ps : List Str} {F : Gam → Out R} {x : Str} {p pos : Pos} (FO : FnOk X.prog X.w X.K X.mg X.base CX0 k f fd ps (spT G 0 F)) (hr : Room j X.A) (hm : X.mg x = some (.ref f)) (hk : PySem.W.keepIn X.K (.ref f) = true) (hb : Binds X.K fd ps [])
    (hj : k ≤ j := by decide) (hg : Gl X x := by rfl) (hdb : (x == ("__debug__" : Str)) = false := by decide) : PE X (.Call (.Name x p) [] [] pos) (tE G W (eCallN 0 F aNil)) :=
  ⟨fun pins s σ H Q I h => (pe_call0 FO (hr.mono hj) hg hm hk hb .nil L2.pass0 hdb).run pins s σ H Q I (ta_nil (te_callN h))⟩
end
end T

-- text T46
set_option Elab.async false
set_option linter.all false
set_option maxRecDepth 100000
set_option maxHeartbeats 4000000
namespace T
open PySem L2 PyProof.Rows
/-! d.items() kept in a name, walked later -/
/-- e.items(), as a value -/
def tVw (td : TE) : TE := fun σ H Q => td σ H fun x H1 => ∃ d o u, x = .ref d ∧ H1 d = some (.frz o u) ∧ hoB u = true ∧ ∀ p, H1 p = none → Q (.ref p) (upd H1 p (vwO p d))
/-- a walk through such a view -/
def iVw (td : TE) : TI := fun σ H R => td σ H fun x H1 => ∃ p d o u, x = .ref p ∧ H1 p = some (vwO p d) ∧ H1 d = some (.frz o u) ∧ hoB u = true ∧ R (ItP d o u) H1
section
variable {X : Cx} {e : Expr} {td : TE} {apos cpos : Pos}
theorem pe_vw (he : PE X e td) (hbase : attributeBase e "items" X.env (eval e X.env) = eval e X.env) (hline : (apos.endLine == cpos.line) = true) : PE X (.Call (.Attribute e "items" apos) [] [] cpos) (tVw td) := by
  refine ⟨fun pins s σ H Q I h => ?_⟩
  refine wpAny_Call_method (T := "dict") (id := "dict.items") hbase rfl hline F.plainAttrs_dict F.slot_dict_items F.type_dict_items (thn (he.run pins s σ H _ I h) fun r s1 ⟨x, H1, I1, rx, d, o, u, ex, hd, hb, q⟩ => ?_)
  subst ex
  cases (show r = Value.ref d from rx)
  obtain ⟨hs, es, ep, g1, g2, g3, g4, g5⟩ := raw_of I1 hd hb
  have raw : s1.heap.DictRaw d es ep := ⟨o, g1, g2, g3⟩
  refine ⟨raw.typeIs, fun a e => by cases e; exact ⟨o, g1, g2.2.1⟩, ?_⟩
  refine method_meetsIn F.slot_dict_items F.entry_dict_items rfl (PySem.evalArgs_none ⟨rfl, raw.typeIs, F.args_dict_items_1 _, _, meets_dict_items_raw d hs, ⟨es, ep, raw⟩, ?_⟩)
  have hf : H1 s1.heap.objs.size = none := I1.hok.fresh (Nat.le_refl _)
  have at_ : ({ s1 with heap := s1.heap.push { cls := .type "dict_items", data := .fields #[.ref d] } } : Shared).heap.get? s1.heap.objs.size = some { cls := .type "dict_items", data := .fields #[.ref d] } := Heap.get?_push_size _ rfl
  refine ⟨.ref s1.heap.objs.size, _, I1.laid (t' := s1.toks) (o := vwO s1.heap.objs.size d) (fun b u e => Heap.get?_push_of_some _ e) (Nat.le_refl _) ?_, rfl, q _ hf⟩
  exact ⟨at_, ⟨_, at_⟩, fun h1 h2 q st => st _ q⟩
theorem pi_vw {elts : List Expr} {kk : Nat} {tpos : Pos} {l : Expr} (he : PE X l td) : PI X (.Tuple elts kk tpos) l (iVw td) := by
  refine ⟨fun pins s σ H R I h => ?_⟩
  refine thn (he.run pins s σ H _ I h) fun v s1 ⟨x, H1, I1, r1, p, d, o, u, ex, hp, hd, hb, q⟩ => ?_
  subst ex
  cases (show v = Value.ref p from r1)
  obtain ⟨hs, es, ep, g1, g2, g3, g4, g5⟩ := raw_of I1 hd hb
  have raw : s1.heap.DictRaw d es ep := ⟨o, g1, g2, g3⟩
  have hv : s1.heap.get? p = some { cls := .type "dict_items", data := .fields #[.ref d] } := (I1.hok p _ hp).1
  exact wpAny_pyIter_items_raw (d := d) ⟨_, hv, rfl, rfl⟩ raw (pi_one (tk := s1.toks) I1 _ (turnP _ hb g3) ⟨.none, .none, Heap.get?_push_size _ rfl⟩ q)
end
section
variable {X : Cx} {G : Tab} {W : Wt} {σ : L2.St} {H HF HF' : Hp} {γ : Gam} {E : Ends}
def eVw (m : Gam → Out Ar) : Gam → Out R := fun γ => (m γ).bind fun a γ1 => match a with
  | .d (.dct t ks ds) => .ok (.fz (.vw t ks ds)) γ1
  | _ => .bad
def mVw (m : Gam → Out Ar) : Gam → Out (List D) := fun γ => (m γ).bind fun a γ1 => match a with
  | .d (.vw t ks ds) => .ok (itD t ks ds) γ1
  | _ => .bad
theorem vwv {e : Expr} {apos cpos : Pos} {mo : Gam → Out Ar} (he : PE X e (tO G W mo)) (hbase : attributeBase e "items" X.env (eval e X.env) = eval e X.env := by rfl) (hline : (apos.endLine == cpos.line) = true := by rfl) :
    PE X (.Call (.Attribute e "items" apos) [] [] cpos) (tE G W (eVw mo)) := ⟨fun pins s σ H Q I h => (pe_vw he hbase hline).run pins s σ H Q I (by
    obtain ⟨HF, γ, k, p⟩ := h
    refine ⟨HF, γ, k, post_bind (r1 := rO G) p fun a γ1 v H1 HF1 k1 s1 r1 p1 => ?_⟩
    have p2 := post_from later_E s1 p1
    cases a with
    | sl i => exact p2.elim
    | d d =>
      cases d with
      | dct t ks ds =>
        have r2 : Rep G HF1 (.dct t ks ds) v := r1
        unfold Rep at r2
        obtain ⟨a, od, xs, e, h1, l, w, rl⟩ := r2
        refine ⟨a, od, _, e, k1.sub _ _ h1, hoD_b, fun q n => ?_⟩
        have hn := k1.hf_none n
        refine p2 (.ref q) _ (upd HF1 q (vwO q a)) (k1.laidF n) (.laidF k1 n) ?_
        show Rep G (upd HF1 q (vwO q a)) (.vw t ks ds) (.ref q)
        unfold Rep
        have na : a ≠ q := fun z => by rw [z, hn] at h1; cases h1
        exact ⟨q, a, od, xs, rfl, upd_same, by rw [upd_ne na]; exact h1, l, w, RepL.mono (sub_upd hn) _ _ rl⟩
      | _ => exact p2.elim)⟩
theorem vwi {l : Expr} {tpos : Pos} {elts : List Expr} {kk : Nat} {mo : Gam → Out Ar} (he : PE X l (tO G W mo)) : PI X (.Tuple elts kk tpos) l (tI G W (mVw mo)) := ⟨fun pins s σ H R I h => (pi_vw he).run pins s σ H R I (by
    obtain ⟨HF, γ, k, p⟩ := h
    refine ⟨HF, γ, k, post_bind (r1 := rO G) p fun a γ1 v H1 HF1 k1 s1 r1 p1 => ?_⟩
    cases a with
    | sl i => exact p1.elim
    | d d =>
      cases d with
      | vw t ks ds =>
        have r2 : Rep G HF1 (.vw t ks ds) v := r1
        unfold Rep at r2
        obtain ⟨q, a, od, xs, e, h0, h1, l, w, rl⟩ := r2
        exact ⟨q, a, od, _, e, k1.sub _ _ h0, k1.sub _ _ h1, hoD_b, p1 _ H1 HF1 k1 s1 (wk_itemsD h1 l rl)⟩
      | _ => exact p1.elim)⟩
end
end T

-- text T47
set_option Elab.async false
set_option linter.all false
set_option maxRecDepth 100000
set_option maxHeartbeats 4000000
namespace Hp
open PySem PySem.Spec PyProof.Rows L2 He
/-! a hook of one more Bool, and of getters of properties -/
def gAd (K : PySem.W.Frag) (p : Str × Option Str) : Addr := match p.2 with
  | none => 0
  | some m => (match PySem.W.recIn K (ma K (ga K p.1) m) "property" with
    | some (.ref g :: _) => g
    | _ => 0)
def fnAt (K : PySem.W.Frag) (a : Addr) : FnW := match K.lookup a with
  | some ⟨_, _, .func fd, _⟩ => some (fd.name, fd.qualname, fd.params, fd.body, fd.scope, fd.globals, fd.closure, fd.builtins)
  | _ => none
def okAt (K : PySem.W.Frag) (a : Addr) (d : DefD) : Bool := PySem.W.keepIn K (.ref a) && (match K.lookup a with
  | some ⟨_, _, .func fd, _⟩ => PySem.W.codeIn K fd.code d.qual && (dflB K fd.defaults (d.dvs K) && kwdB K fd.kwdefaults (d.kws K))
  | _ => false)
theorem fun_at {K : PySem.W.Frag} {a : Addr} {d : DefD} (e : fnAt K a = d.val) (c : okAt K a d = true) : ∃ fd, FunD K d.name d.qual d.params d.body d.scope (d.dvs K) (d.kws K) a fd := by
  obtain ⟨kq, cq⟩ := Bool.and_eq_true_iff.mp c
  unfold fnAt at e
  cases ql : K.lookup a with
  | none => rw [ql] at cq; cases cq
  | some ob =>
    obtain ⟨o1, o2, o3, o4⟩ := ob
    rw [ql] at cq e
    cases o3 with
    | func fq =>
      obtain ⟨m1, m2, m3, m4, m5, m6, m7, m8, m9, m10, m11, m12, m13, m14, m15⟩ := fq
      have e2 : (some (m1, m2, m3, m4, m5, m6, m7, m15) : FnW) = some (d.name, d.qual, d.params, .stmts d.body, d.scope, mainGlobals, [], builtinsNs) := e
      simp only [Option.some.injEq, Prod.mk.injEq] at e2
      obtain ⟨g1, g2, g3, g4, g5, g6, g7, g8⟩ := e2
      subst g1 g2 g3 g4 g5 g6 g7 g8
      have c3 : (PySem.W.codeIn K m13 d.qual && (dflB K m8 (d.dvs K) && kwdB K m9 (d.kws K))) = true := cq
      obtain ⟨j1, j2⟩ := Bool.and_eq_true_iff.mp c3
      obtain ⟨j3, j4⟩ := Bool.and_eq_true_iff.mp j2
      exact ⟨_, ⟨o1, o2, m8, m9, m10, m11, m12, m13, m14, o4, rfl, ql, j1, dflB_ok j3, kwdB_ok j4⟩, kq⟩
    | _ => cases cq
/-! what the module's names reach in n steps, each address once -/
def seen (m a : Nat) : Bool := Nat.beq (Nat.land (Nat.shiftRight m a) 1) 1
def newOf : List Addr → Nat → List Addr → Nat × List Addr
  | [], m, l => (m, l)
  | a :: r, m, l => match seen m a with
    | true => newOf r m l
    | false => newOf r (Nat.lor m (Nat.shiftLeft 1 a)) (a :: l)
def refsG (g : Addr → Option Obj) (a : Addr) : List Addr := match g a with
  | some o => refsD o
  | none => []
def asE (g : Addr → Option Obj) : Nat → Nat → List Addr → List Addr → List Addr
  | 0, _, fr, acc => acc ++ fr
  | n + 1, m, fr, acc => match newOf (fr.flatMap (refsG g)) m [] with
    | (m', l) => asE g n m' l (acc ++ fr)
def asF (g : Addr → Option Obj) (n : Nat) : List Addr := asE g n (Nat.shiftLeft 1 mainGlobals) [mainGlobals] []
abbrev AlP : Type := AlD × (Bool × List FnW)
def obsP (n : Nat) (fa : List Fa) (fn pr : List DefD) (ex : PySem.W.Frag → Bool) (g : Addr → Option Obj) : AlP := (obsD fa fn (frG g (asF g n)), ((pr.all fun d => okAt (frG g (asF g n)) (gAd (frG g (asF g n)) d.at_) d) && ex (frG g (asF g n)), pr.map fun d => fnAt (frG g (asF g n)) (gAd (frG g (asF g n)) d.at_)))
def valP (fn pr : List DefD) : AlP := (valD fn, (true, pr.map DefD.val))
structure SaysP (fa : List Fa) (fn pr : List DefD) (ex : PySem.W.Frag → Bool) (K : PySem.W.Frag) : Prop where
  d : SaysD fa fn K
  ok : (pr.all fun d => okAt K (gAd K d.at_) d) = true
  more : ex K = true
  val : (pr.map fun d => fnAt K (gAd K d.at_)) = pr.map DefD.val
theorem says_of {n : Nat} {fa : List Fa} {fn pr : List DefD} {ex : PySem.W.Frag → Bool} {h : Heap} (e : obsP n fa fn pr ex h.get? = valP fn pr) : SaysP fa fn pr ex (frG h.get? (asF h.get? n)) := by
  have e1 := congrArg (fun z : AlP => z.1) e
  have e2 : ((pr.all fun d => okAt (frG h.get? (asF h.get? n)) (gAd (frG h.get? (asF h.get? n)) d.at_) d) && ex (frG h.get? (asF h.get? n))) = true := congrArg (fun z : AlP => z.2.1) e
  have e3 := congrArg (fun z : AlP => z.2.2) e
  obtain ⟨q1, q2⟩ := Bool.and_eq_true_iff.mp e2
  exact ⟨e1, q1, q2, e3⟩
def hookP (n : Nat) (fa : List Fa) (fn pr : List DefD) (ex : PySem.W.Frag → Bool) : PySem.W.Hook where
  α := AlP
  obs := fun s => obsP n fa fn pr ex s.heap.get?
  val := fun _ => valP fn pr
  says := fun _ h => ∃ K : PySem.W.Frag, K.In h ∧ SaysP fa fn pr ex K
  of := fun _ _ e => ⟨_, frG_in, says_of e⟩
  keeps := fun _ _ _ ⟨K, hK, c⟩ k => ⟨K, PySem.W.Frag.In.keeps hK k, c⟩
theorem obsP_eq {n : Nat} {fa : List Fa} {fn pr : List DefD} {ex : PySem.W.Frag → Bool} {g : Addr → Option Obj} {s : Shared} (h : ∀ a, g a = s.heap.get? a) : obsP n fa fn pr ex g = (hookP n fa fn pr ex).obs s := by
  have e : g = s.heap.get? := funext h
  rw [e] <;> rfl
theorem SaysP.getter {fa : List Fa} {fn pr : List DefD} {ex : PySem.W.Frag → Bool} {K : PySem.W.Frag} (c : SaysP fa fn pr ex K) (i : Nat) {d : DefD} (h : pr[i]? = some d := by rfl) : ∃ fd, FunD K d.name d.qual d.params d.body d.scope (d.dvs K) (d.kws K) (gAd K d.at_) fd := by
  have m := List.mem_of_getElem? h
  refine fun_at ?_ (List.all_eq_true.mp c.ok d m)
  have e := congrArg (fun l : List FnW => l[i]?) c.val
  simp only [List.getElem?_map, h, Option.map_some] at e
  exact Option.some.inj e
/-! the Bool: classes with slots -/
def eqB (a b : Option (Option Value)) : Bool := decide (a = b)
def sclsB (K : PySem.W.Frag) (C : Addr) : Bool := PySem.W.plainGet K C Str.empty && (PySem.W.isClsIn K C && (PySem.W.plainOver K C && eqB (PySem.W.findIn K (.ref C) "__setattr__") (some (some (.builtin "object.__setattr__")))))
def slotB (K : PySem.W.Frag) (C : Addr) (f : Str) (i : Nat) : Bool := match PySem.W.findIn K (.ref C) f with
  | some (some (.ref p)) => eqB (PySem.W.specialIn K (.ref p) "__get__") (some (some (.builtin "member_descriptor.__get__"))) && (decide (PySem.W.takesIn K (.ref p) = some true) && (decide (PySem.W.typeIn K (.ref p) = some (.type "member_descriptor")) && (decide (PySem.W.slotIn K p C = some i) && Nat.blt i 1000)))
  | _ => false
def isiB (K : PySem.W.Frag) (C : Addr) : Bool := eqB (PySem.W.findIn K (.ref C) "__class__") (some (some (.builtin "object.__class__"))) && (eqB (PySem.W.specialIn K (.builtin "object.__class__") "__get__") (some (some (.builtin "getset_descriptor.__get__"))) && (decide (PySem.W.takesIn K (.builtin "object.__class__") = some true) && decide (PySem.W.mroIn K C (.type "object") = some true)))
def propB (K : PySem.W.Frag) (C : Addr) (f : Str) : Bool := match PySem.W.findIn K (.ref C) f with
  | some (some (.ref p)) => eqB (PySem.W.specialIn K (.ref p) "__get__") (some (some (.builtin "property.__get__"))) && (decide (PySem.W.takesIn K (.ref p) = some true) && (match PySem.W.recIn K p "property" with
    | some (.ref _ :: _) => true
    | _ => false))
  | _ => false
end Hp

-- text T48
set_option Elab.async false
set_option linter.all false
set_option maxRecDepth 100000
set_option maxHeartbeats 4000000
/-! list.extend of a tuple -/
namespace PySem.AutoSeq1
theorem ext_of_tuple {l b : Addr} {xs ys : Array Value} {n m : Nat} {dd : Option Addr} {sl : Array (Option Value)} (h0 : ¬(!xs.isEmpty && Builtin.List.listTooLong (xs.size + ys.size)) = true) (h1 : xs.size ≤ sizeLine) (h2 : xs.size + ys.size ≤ sizeLine + 1) :
    Meets (Builtin.«list.extend» ⟨[.ref l, .ref b], []⟩) (fun _ R s => s.heap.get? l = some { cls := .type "list", data := .seq xs n } ∧ s.heap.get? b = some { cls := .type "tuple", dict := dd, data := .seq ys m, slots := sl } ∧ R (.ok (.ret Value.none)) { s with heap := s.heap.update l (Obj.mapSeq fun x => x ++ ys), toks := s.toks }) := by
  refine .of_wp fun prog w A R s h => ?_
  obtain ⟨hp, g, d, tk, os⟩ := s
  obtain ⟨hl, hb, h⟩ := h
  have q1 := idx_int
  have q2 := sub_tuple_tuple
  have q3 := sub_list_list
  have q4 := sub_tuple_list
  have q5 := sub_list_tuple
  have hz : (xs ++ ys).size ≤ sizeLine + 1 := by rw [Array.size_append]; exact h2
  wp_walk using (wpAny_updateSeq hl rfl (hz := h1) (_hz' := hz)), wpAny_loadPart' hl, wpAny_loadPart' hb
  exact ⟨_, rfl, h⟩
end PySem.AutoSeq1
namespace T
open PySem L2
section
variable {X : Cx} {G : Tab}
def rExtA : V → List V → Hp → VK → Prop := fun x vs H Q => rExtend x vs H Q ∨ ∃ l b xs zs, x = .ref l ∧ vs = [.ref b] ∧ H l = some (.lst xs) ∧ H b = some (.tup zs) ∧ xs.length + zs.length ≤ sizeLine ∧ Q .non (upd H l (.lst (xs ++ zs)))
theorem mt_extA : MtM X "list.extend" rExtA := by
  intro pins s σ H x vs v us Q I rx rv h
  rcases h with h | ⟨l, b, xs, zs, rfl, rfl, hH, hB, hz, q⟩
  · exact mt_extend pins s σ H x vs v us Q I rx rv h
  · cases rx
    obtain ⟨u, rfl, ru⟩ := rv.one
    cases ru
    obtain ⟨z, its, n, r, hl, e⟩ := I.lstM hH
    obtain ⟨z2, its2, r2, o2, e2, c2, m, d2⟩ := I.hok b _ hB
    obtain ⟨oc, od, odt, osl⟩ := o2
    obtain rfl : oc = Value.type "tuple" := c2
    obtain rfl : odt = Data.seq its2.toArray m := d2
    have hl2 := r2.length
    have hsz : its.toArray.size + its2.toArray.size ≤ sizeLine := by rw [List.size_toArray, List.size_toArray]; omega
    have hlong : ¬ (!its.toArray.isEmpty && Builtin.List.listTooLong (its.toArray.size + its2.toArray.size)) = true := by
      rw [notLongL hsz, Bool.and_false]
      exact Bool.false_ne_true
    refine call_meets F.slot_list_extend ⟨_, e, rfl⟩ F.entry_list_extend (F.args_list_extend_2 _ _) (AutoSeq1.ext_of_tuple hlong (by rw [List.size_toArray]; omega) (by omega)) ⟨e, e2, ?_⟩
    refine ⟨.non, _, I.lset (its' := its ++ its2) hH e (by simp) (r.append r2) ?_, rfl, q⟩
    rw [List.length_append]
    omega
def fExtA : List D → List D → Option (D × List D)
  | [.lst es], ds => (match fitN (ds.length + es.length) with
    | true => some (.non, ds ++ es)
    | false => none)
  | [.tup es], ds => (match fitN (ds.length + es.length) with
    | true => some (.non, ds ++ es)
    | false => none)
  | _, _ => none
theorem ok_extA : MethOk G rExtA fExtA := by
  intro H HF a xs vs args ds es d Q sub h r p e k
  unfold fExtA at e
  split at e
  · exact .inl (ok_extend sub h r p e k)
  · rename_i es'
    obtain ⟨v, rfl, q⟩ := repL_one p
    unfold Rep at q
    obtain ⟨b, ys, rfl, h1, r1⟩ := q
    split at e
    · rename_i f
      cases e
      exact .inr ⟨a, b, xs, ys, rfl, rfl, h, sub _ _ h1, by rw [r.length, r1.length]; exact fitN_ok f, k .non _ (RepL.append r r1) (flat_rep (d := .non) rfl)⟩
    · cases e
  · cases e
end
end T

-- text T49
set_option Elab.async false
set_option linter.all false
set_option maxRecDepth 100000
set_option maxHeartbeats 4000000
/-! repr of bools, ints, None, texts -/
namespace T
open PySem L2
section
variable {X : Cx} {G : Tab}
def rReprA : List V → Hp → VK → Prop := fun xs H Q => (∃ b, xs = [V.bl b] ∧ Q (.str (bTx b)) H) ∨ (∃ i : Int, xs = [V.int i] ∧ i.natAbs.log2 < 1920 ∧ Q (.str (toString i)) H) ∨ (xs = [V.non] ∧ Q (.str "None") H) ∨ ∃ x, xs = [V.str x] ∧ (reprText x).length ≤ sizeLine ∧ Q (.str (reprText x)) H
theorem cr_reprA : CallR X (.builtin "repr") rReprA := by
  intro pins s σ H vs us Q I r h
  rcases h with h | h | ⟨rfl, q⟩ | ⟨x, rfl, hl, q⟩
  · exact cr_reprB pins s σ H vs us Q I r h
  · exact SkE.call_repr_int pins s σ H vs us Q I r h
  · cases r with
    | cons r rr =>
      cases rr
      cases r
      exact PySem.P.repr_of_none ⟨.str "None", H, I.tok _, ⟨_, rfl⟩, q⟩
  · cases r with
    | cons r rr =>
      cases rr
      obtain ⟨t, rfl⟩ := r
      exact PySem.P.repr_of_str ⟨.str (reprText x), H, I.tok _, ⟨_, rfl⟩, q⟩ hl
def bReprA : List D → Option BR
  | [.bl b] => some (.val (.str (bTx b)))
  | [.int i] => (match Nat.blt i.natAbs.log2 1920 with
    | true => some (.val (.str (toString i)))
    | false => none)
  | [.non] => some (.val (.str "None"))
  | [.str x] => (match fitN (reprText x).length with
    | true => some (.val (.str (reprText x)))
    | false => none)
  | _ => none
theorem ok_reprA : CallOk G rReprA bReprA := by
  intro H HF xs ds br Q sub p e h
  unfold bReprA at e
  split at e
  · rename_i b
    obtain ⟨v, rfl, q⟩ := pks_one p
    cases e
    exact .inl ⟨b, by rw [q.bl], h _ H ⟨rfl, by unfold Rep; rfl⟩⟩
  · rename_i i
    obtain ⟨v, rfl, q⟩ := pks_one p
    split at e
    · rename_i hb
      cases e
      exact .inr (.inl ⟨i, by rw [q.int], blt_of hb, h _ H ⟨rfl, by unfold Rep; rfl⟩⟩)
    · cases e
  · obtain ⟨v, rfl, q⟩ := pks_one p
    cases e
    exact .inr (.inr (.inl ⟨by rw [q.non], h _ H ⟨rfl, by unfold Rep; rfl⟩⟩))
  · rename_i x
    obtain ⟨v, rfl, q⟩ := pks_one p
    split at e
    · rename_i hb
      cases e
      exact .inr (.inr (.inr ⟨x, by rw [q.str], fitN_ok hb, h _ H ⟨rfl, by unfold Rep; rfl⟩⟩))
    · cases e
  · cases e
end
end T

-- text T50
set_option Elab.async false
set_option linter.all false
set_option maxRecDepth 100000
set_option maxHeartbeats 4000000
/-! what the Bools of the head (T47) say -/
namespace Hp
open PySem PySem.Spec PyProof.Rows L2 He
section
variable {K : PySem.W.Frag} {C : Addr} {f : Str}
theorem eqB_ok {a b : Option (Option Value)} (h : eqB a b = true) : a = b := of_decide_eq_true h
theorem b2 {a b : Bool} (h : (a && b) = true) : a = true ∧ b = true := Bool.and_eq_true_iff.mp h
theorem scls_ok (h : sclsB K C = true) : SlX.SCls K C := by
  obtain ⟨h1, h⟩ := b2 h
  obtain ⟨h2, h⟩ := b2 h
  obtain ⟨h3, h4⟩ := b2 h
  exact ⟨h1, h2, h3, eqB_ok h4⟩
theorem slot_ok {i : Nat} (s : SlX.SCls K C) (h : slotB K C f i = true) : T.CSl K C f i := by
  unfold slotB at h
  split at h
  · rename_i p e
    obtain ⟨h1, h⟩ := b2 h
    obtain ⟨h2, h⟩ := b2 h
    obtain ⟨h3, h⟩ := b2 h
    obtain ⟨h4, h5⟩ := b2 h
    exact ⟨s, p, e, eqB_ok h1, of_decide_eq_true h2, of_decide_eq_true h3, of_decide_eq_true h4, by rw [Nat.blt_eq] at h5; exact h5⟩
  · cases h
theorem isi_ok (h : isiB K C = true) : SlX.SIsi K C := by
  obtain ⟨h1, h⟩ := b2 h
  obtain ⟨h2, h⟩ := b2 h
  obtain ⟨h3, h4⟩ := b2 h
  exact ⟨eqB_ok h1, eqB_ok h2, of_decide_eq_true h3, of_decide_eq_true h4⟩
def kitB (K : PySem.W.Frag) (C C2 : Addr) (b : Bool) : Bool := decide (PySem.W.kitOne K (.ref C) (.ref C2) = some b)
theorem kit_ok {C2 : Addr} {b : Bool} (h : kitB K C C2 b = true) : PySem.W.kitOne K (.ref C) (.ref C2) = some b := of_decide_eq_true h
theorem prop_ok {x : Str} (s : SlX.SCls K (ga K x)) (h : propB K (ga K x) f = true) : T.CPr K (ga K x) f (gAd K (x, some f)) := by
  unfold propB at h
  split at h
  · rename_i p e
    obtain ⟨h1, h⟩ := b2 h
    obtain ⟨h2, h3⟩ := b2 h
    split at h3
    · rename_i g rest e3
      have em : ma K (ga K x) f = p := by
        unfold ma
        rw [e]
      have eg : gAd K (x, some f) = g := by
        show (match PySem.W.recIn K (ma K (ga K x) f) "property" with
          | some (.ref g :: _) => g
          | _ => 0) = g
        rw [em, e3]
      rw [eg]
      exact ⟨s, p, e, eqB_ok h1, of_decide_eq_true h2, rest, e3⟩
    · cases h3
  · cases h
def builtB (K : PySem.W.Frag) (x : Str) (id : String) : Bool := decide (PySem.W.nsIn K mainGlobals x = some (some (.builtin id)))
theorem built_ok {h : Heap} {mg : Str → Option Value} {x : Str} {id : String} (X : K.In h) (G : h.Ns mainGlobals mg) (c : builtB K x id = true) : mg x = some (.builtin id) := PySem.W.mg_of X G (of_decide_eq_true c)
theorem exs_at {l : List (PySem.W.Frag → Bool)} (h : (l.all fun e => e K) = true) (i : Nat) {e : PySem.W.Frag → Bool} (hi : l[i]? = some e := by rfl) : e K = true := List.all_eq_true.mp h e (List.mem_of_getElem? hi)
end
end Hp

-- text C0
set_option Elab.async false
set_option linter.all false
set_option maxRecDepth 100000
set_option maxHeartbeats 4000000
namespace T
open PySem L2

theorem fIx_lst {ds : List D} {i : Int} {d : D} (k : Nat) (h : i = (k : Int)) (e : ds[k]? = some d) : fIx (.lst ds) (.int i) = some (.val d) := by
  subst h
  have hk : k < ds.length := (List.getElem?_eq_some_iff.mp e).1
  unfold fIx seqAt atI ixN
  have : ((k : Nat) : Int) < (ds.length : Int) := by omega
  simp [this, e]
theorem fIx_tup {ds : List D} {i : Int} {d : D} (k : Nat) (h : i = (k : Int)) (e : ds[k]? = some d) : fIx (.tup ds) (.int i) = some (.val d) := by
  subst h
  have hk : k < ds.length := (List.getElem?_eq_some_iff.mp e).1
  unfold fIx seqAt atI ixN
  have : ((k : Nat) : Int) < (ds.length : Int) := by omega
  simp [this, e]
section
variable {a b c n : Int}
theorem ix3_0 {x y z : D} : fIx (.lst [x, y, z]) (.int 0) = some (.val x) := fIx_lst 0 rfl rfl
end
section
variable {a b c n : Int}
theorem ix3_1 {x y z : D} : fIx (.lst [x, y, z]) (.int 1) = some (.val y) := fIx_lst 1 rfl rfl
end
section
variable {a b c n : Int}
theorem ix3_2 {x y z : D} : fIx (.lst [x, y, z]) (.int 2) = some (.val z) := fIx_lst 2 rfl rfl
end
section
variable {a b c n : Int}
theorem ixN3_0 : ixN 3 0 = some 0 := rfl
end
section
variable {a b c n : Int}
theorem ixN3_2 : ixN 3 2 = some 2 := rfl
end
section
variable {a b c n : Int}
theorem cMul_small {i j : Int} (hi : i.natAbs < 2 ^ 400000) (hj : j.natAbs < 2 ^ 400000) : cMul i j = true := by
  unfold cMul
  rw [Nat.blt_eq]
  have h1 : i.natAbs.log2 < 400000 := by
    by_cases hz : i.natAbs = 0
    · rw [hz]; decide
    · exact (Nat.log2_lt hz).mpr hi
  have h2 : j.natAbs.log2 < 400000 := by
    by_cases hz : j.natAbs = 0
    · rw [hz]; decide
    · exact (Nat.log2_lt hz).mpr hj
  omega
end
section
variable {a b c n : Int}
theorem big_pow {x : Nat} (h : x < 2 ^ 200) : x < 2 ^ 400000 := Nat.lt_of_lt_of_le h (Nat.pow_le_pow_right (by decide) (by decide))
end
section
variable {a b c n : Int}
theorem natAbs_lt {i : Int} {m : Nat} (h0 : 0 ≤ i) (h : i < (m : Int)) : i.natAbs < m := by omega
end
section
variable {a b c n : Int}
theorem cMul_200 {i j : Int} (hi0 : 0 ≤ i) (hi : i < ((2 ^ 200 : Nat) : Int)) (hj0 : 0 ≤ j) (hj : j < ((2 ^ 200 : Nat) : Int)) : cMul i j = true :=
  cMul_small (big_pow (natAbs_lt hi0 hi)) (big_pow (natAbs_lt hj0 hj))
end
section
variable {a b c n : Int}
theorem cMod_of {i j : Int} (h : 0 < j) : cMod i j = true := by simp [cMod, h]
end
section
variable {a b c n : Int}
theorem cDiv_of {i j : Int} (h : 0 < j) (h2 : j ≤ 10000) : cDiv i j = true := by
  unfold cDiv
  rw [decide_eq_true h, Bool.true_and, Nat.blt_eq]
  have : j.natAbs < 2 ^ 20 := by omega
  by_cases hz : j.natAbs = 0
  · omega
  · have := (Nat.log2_lt hz).mpr this
    omega
end
theorem intD_map : ∀ is : List Int, intD is = is.map D.int
  | [] => rfl
  | i :: is => by rw [intD, intD_map is]; rfl
theorem intD_len (is : List Int) : (intD is).length = is.length := by rw [intD_map, List.length_map]
theorem intD_get (is : List Int) (k : Nat) : (intD is)[k]? = is[k]?.map D.int := by rw [intD_map, List.getElem?_map]
theorem intsOf_intD : ∀ is : List Int, intsOf (intD is) = some is
  | [] => rfl
  | i :: is => by unfold intD intsOf; rw [intsOf_intD is]
theorem intD_app (a b : List Int) : intD (a ++ b) = intD a ++ intD b := by simp [intD_map]
theorem shL_intD (n : Nat) : ∀ is : List Int, shL n (intD is) = true
  | [] => by simp [intD, shL]
  | i :: is => by simp [intD, shL, shD, shL_intD n is]
theorem eqdL_intD : ∀ a b : List Int, eqdL (intD a) (intD b) = decide (a = b)
  | [], [] => by simp [intD, eqdL]
  | [], b :: bs => by simp [intD, eqdL]
  | a :: as, [] => by simp [intD, eqdL]
  | a :: as, b :: bs => by
    simp only [intD, eqdL, eqd, eqdL_intD as bs]
    by_cases h : a = b
    · subst h; simp
    · have : (a == b) = false := by simpa using h
      simp [this, h]
theorem fEq_lst (neg : Bool) (a b : List Int) : fEq neg (.lst (intD a)) (.lst (intD b)) = some (.val (.bl (if neg = true then !decide (a = b) else decide (a = b)))) := by
  unfold fEq
  simp only [shD, shL_intD, eqd, eqdL_intD, Bool.and_self]
theorem fEq_tup (neg : Bool) (a b : List Int) : fEq neg (.tup (intD a)) (.tup (intD b)) = some (.val (.bl (if neg = true then !decide (a = b) else decide (a = b)))) := by
  unfold fEq
  simp only [shD, shL_intD, eqd, eqdL_intD, Bool.and_self]
theorem fEq_nil (neg : Bool) (a : List Int) : fEq neg (.lst (intD a)) (.lst []) = some (.val (.bl (if neg = true then !decide (a = []) else decide (a = [])))) := fEq_lst neg a []
theorem fEq_int (neg : Bool) (a b : Int) : fEq neg (.int a) (.int b) = some (.val (.bl (if neg = true then !decide (a = b) else decide (a = b)))) := by
  unfold fEq
  simp only [shD, eqd, Bool.and_self]
  by_cases h : a = b
  · subst h; simp
  · have : (a == b) = false := by simpa using h
    simp [this, h]
theorem intD_erase : ∀ (l : List Int) (k : Nat), (intD l).eraseIdx k = intD (l.eraseIdx k)
  | [], _ => rfl
  | a :: l, 0 => rfl
  | a :: l, k + 1 => by
    show D.int a :: (intD l).eraseIdx k = D.int a :: intD (l.eraseIdx k)
    rw [intD_erase l k]
theorem seqIx_nat {k n : Nat} (h : k < n) : seqIndex? (k : Int) n = some k := by
  unfold seqIndex?
  simp
  omega
theorem fAppend_ok {l : List Int} {x : Int} (h : l.length < 1000) : fAppend [.int x] (intD l) = some (.non, intD (l ++ [x])) := by
  show (match fitN ((intD l).length + 1) with
    | true => some (D.non, intD l ++ [D.int x])
    | false => none) = _
  have : fitN ((intD l).length + 1) = true := by
    rw [intD_len]
    unfold fitN
    exact Nat.ble_eq_true_of_le (by omega)
  rw [this, intD_app]
  rfl
theorem popAt_gen {i : Int} {ds : List D} {j : Nat} {d : D} (h1 : decide (-9223372036854775808 ≤ i) = true) (h2 : decide (i < 9223372036854775808) = true) (h3 : seqIndex? i ds.length = some j) (h4 : ds[j]? = some d) : fPopAt [.int i] ds = some (d, ds.eraseIdx j) := by
  unfold fPopAt
  simp only [h1, h2, Bool.and_self, h3, h4]
theorem popAt_ok {l : List Int} {k : Nat} (hk : k < l.length) (hl : l.length < 1000) : fPopAt [.int (k : Int)] (intD l) = some (.int l[k], intD (l.eraseIdx k)) := by
  have h1 : decide ((-9223372036854775808 : Int) ≤ (k : Int)) = true := decide_eq_true (Int.le_trans (show (-9223372036854775808 : Int) ≤ 0 by decide) (Int.natCast_nonneg k))
  have h2 : decide ((k : Int) < 9223372036854775808) = true := decide_eq_true (Int.lt_of_lt_of_le (show (k : Int) < 1000 by omega) (by decide))
  have h3 : seqIndex? (k : Int) (intD l).length = some k := by rw [intD_len]; exact seqIx_nat hk
  have h4 : (intD l)[k]? = some (.int l[k]) := by rw [intD_get, List.getElem?_eq_getElem hk]; rfl
  rw [popAt_gen h1 h2 h3 h4, intD_erase]
theorem erase_perm : ∀ (l : List Int) (k : Nat) (hk : k < l.length), (l[k] :: l.eraseIdx k).Perm l
  | a :: l, 0, _ => .refl _
  | a :: l, k + 1, hk => by
    have hk' : k < l.length := by simpa using hk
    show (l[k] :: a :: l.eraseIdx k).Perm (a :: l)
    exact (List.Perm.swap a l[k] _).trans ((erase_perm l k hk').cons a)
def rgI (n : Nat) : List Int := (List.range n).map fun k => Int.ofNat k
abbrev rowD (r : List Int) : D := .tup (intD r)
theorem fitN_of {n : Nat} (h : n ≤ 100000) : fitN n = true := by unfold fitN; exact Nat.ble_eq_true_of_le (by omega)
theorem sl_take {ds : List D} {k : Nat} {γ : Gam} (h : k ≤ ds.length) : ofB (fSl (.tup ds) none (some (k : Int))) γ = .ok (.fz (.tup (ds.take k))) γ := by
  have e1 : HT.sIx ds.length 0 none = 0 := rfl
  have e2 : HT.sIx ds.length ds.length (some (k : Int)) = k := by rw [HT.sIx_nat]; omega
  unfold fSl cutD
  dsimp only
  rw [e1, e2]
  by_cases z : k = ds.length
  · simp [z, ofB, BR.out]
  · have : (k == ds.length) = false := by simpa using z
    simp [this, ofB, BR.out]
theorem sl_drop {ds : List D} {k : Nat} {γ : Gam} (h : k ≤ ds.length) : ofB (fSl (.tup ds) (some (k : Int)) none) γ = .ok (.fz (.tup (ds.drop k))) γ := by
  have e1 : HT.sIx ds.length 0 (some (k : Int)) = k := by rw [HT.sIx_nat]; omega
  have e2 : HT.sIx ds.length ds.length none = ds.length := rfl
  unfold fSl cutD
  dsimp only
  rw [e1, e2]
  by_cases z : k = 0
  · subst z; simp [ofB, BR.out]
  · have : (k == 0) = false := by simpa using z
    simp only [this, Bool.false_and, ofB, BR.out]
    rw [List.take_of_length_le (by rw [List.length_drop]; exact Nat.le_refl _)]
theorem intD_take (k : Nat) (l : List Int) : (intD l).take k = intD (l.take k) := by rw [intD_map, intD_map, List.map_take]
theorem intD_drop (k : Nat) (l : List Int) : (intD l).drop k = intD (l.drop k) := by rw [intD_map, intD_map, List.map_drop]
theorem add_out {as bs : List D} {γ : Gam} (h : as.length + bs.length ≤ 100000) : ofB (fAdd (.tup as) (.tup bs)) γ = .ok (.fz (.tup (as ++ bs))) γ := by
  unfold fAdd
  simp only [fitN_of h]
  cases ha : nilD as with
  | true => rw [nilD_true ha]; rfl
  | false => cases hb : nilD bs with
    | true => rw [nilD_true hb]; simp [ofB, BR.out]
    | false => rfl
theorem rgD_map : ∀ (n : Nat) (lo : Int), rgD lo n = (List.range n).map fun k => D.int (lo + (k : Nat))
  | 0, _ => rfl
  | n + 1, lo => by
    rw [List.range_succ_eq_map, List.map_cons, List.map_map]
    show D.int lo :: rgD (lo + 1) n = _
    rw [rgD_map n (lo + 1)]
    have e : lo + ((0 : Nat) : Int) = lo := by omega
    rw [e]
    congr 1
    refine List.map_congr_left fun k _ => ?_
    show D.int (lo + 1 + (k : Int)) = D.int (lo + ((k + 1 : Nat) : Int))
    congr 1
    push_cast
    omega
theorem inRg_of {i : Int} (h0 : -1000 ≤ i) (h1 : i ≤ 1000) : inRg i = true := by
  unfold inRg
  rw [decide_eq_true (Int.le_trans (show (-4611686018427387904 : Int) ≤ -1000 by decide) h0), decide_eq_true (Int.lt_of_le_of_lt h1 (by decide))]
  rfl
/-- a loop, told by what it has walked -/
theorem loop_pre {α : Type} {f : D → Gam → Option Gam} {b : Gam → OutS} (cst : α → D) (J : List α → Gam → Prop) (xs : List α) (hs : ∀ pre x post γ, xs = pre ++ x :: post → J pre γ → ∃ γ1 γ2, f (cst x) γ = some γ1 ∧ b γ1 = .nx γ2 ∧ J (pre ++ [x]) γ2) :
    ∀ (rest pre : List α) (γ : Gam), xs = pre ++ rest → J pre γ → ∃ γ', loopS f b (rest.map cst) γ = .nx γ' ∧ J xs γ'
  | [], pre, γ, e, h => ⟨γ, rfl, by rw [e, List.append_nil]; exact h⟩
  | x :: rest, pre, γ, e, h => by
    obtain ⟨γ1, γ2, e1, e2, h2⟩ := hs pre x rest γ e h
    obtain ⟨γ', e3, h3⟩ := loop_pre cst J xs hs rest (pre ++ [x]) γ2 (by rw [List.append_assoc]; exact e) h2
    refine ⟨γ', ?_, h3⟩
    rw [List.map_cons]
    unfold loopS
    rw [e1]
    simp only [e2, e3]
theorem for_pre {α : Type} {mi : Gam → Out (List D)} {f : D → Gam → Option Gam} {b : Gam → OutS} (cst : α → D) (J : List α → Gam → Prop) (xs : List α) {γ : Gam} (hm : mi γ = .ok (xs.map cst) γ) (h : J [] γ) (hs : ∀ pre x post γ, xs = pre ++ x :: post → J pre γ → ∃ γ1 γ2, f (cst x) γ = some γ1 ∧ b γ1 = .nx γ2 ∧ J (pre ++ [x]) γ2) : ∃ γ', sFor mi f b γ = .nx γ' ∧ J xs γ' := by
  obtain ⟨γ', e, hj⟩ := loop_pre cst J xs hs xs [] γ rfl h
  refine ⟨γ', ?_, hj⟩
  unfold sFor
  rw [hm]
  exact e
theorem seq_nx {a b : Gam → OutS} {γ γ1 : Gam} (h : a γ = .nx γ1) : sSeq a b γ = b γ1 := by unfold sSeq; rw [h]
theorem seq_rt {a b : Gam → OutS} {γ γ1 : Gam} {r : R} (h : a γ = .rt r γ1) : sSeq a b γ = .rt r γ1 := by unfold sSeq; rw [h]
theorem if_t {c : Gam → Out Bool} {a b : Gam → OutS} {γ γ1 : Gam} (h : c γ = .ok true γ1) : sIf c a b γ = a γ1 := by unfold sIf; rw [h]; rfl
theorem if_f {c : Gam → Out Bool} {a b : Gam → OutS} {γ γ1 : Gam} (h : c γ = .ok false γ1) : sIf c a b γ = b γ1 := by unfold sIf; rw [h]; rfl
theorem ret_ok {m : Gam → Out R} {γ γ1 : Gam} {r : R} (h : m γ = .ok r γ1) : sRet m γ = .rt r γ1 := by unfold sRet; rw [h]; rfl
theorem set_ok {i : Nat} {m : Gam → Out R} {γ γ1 γ2 : Gam} {r : R} (h : m γ = .ok r γ1) (h2 : stG i r.sl γ1 = some γ2) : sSet i m γ = .nx γ2 := by unfold sSet; rw [h]; show nxO (stG i r.sl γ1) = _; rw [h2]; rfl
theorem ex_ok {m : Gam → Out R} {γ γ1 : Gam} {r : R} (h : m γ = .ok r γ1) : sExpr m γ = .nx γ1 := by unfold sExpr; rw [h]; rfl
theorem fnB_rt {m : Nat} {b : Gam → OutS} {as γ : Gam} {r : R} (h : b (as ++ List.replicate m .un) = .rt r γ) : fnB m b as = .ok r (ioOut as γ) := by unfold fnB; rw [h]
theorem fnB_nx {m : Nat} {b : Gam → OutS} {as γ : Gam} (h : b (as ++ List.replicate m .un) = .nx γ) : fnB m b as = .ok (.fz .non) (ioOut as γ) := by unfold fnB; rw [h]
theorem callN_1 {F : Gam → Out R} {m1 : Gam → Out Ar} {γ : Gam} {d1 : D} {x : R} (h1 : m1 γ = .ok (.d d1) γ) (h : F [.fz d1] = .ok x [.fz d1]) : eCallN 1 F (aCons m1 aNil) γ = .ok x γ := by
  simp only [eCallN, aCons, aNil, Out.bind, h1, disA, mkArgs, mkArg, Nat.beq, List.length_cons, List.length_nil, Bool.and_self, h, putArgs]
theorem callN_2 {F : Gam → Out R} {m1 m2 : Gam → Out Ar} {γ : Gam} {d1 d2 : D} {x : R} (h1 : m1 γ = .ok (.d d1) γ) (h2 : m2 γ = .ok (.d d2) γ) (h : F [.fz d1, .fz d2] = .ok x [.fz d1, .fz d2]) : eCallN 2 F (aCons m1 (aCons m2 aNil)) γ = .ok x γ := by
  simp only [eCallN, aCons, aNil, Out.bind, h1, h2, disA, mkArgs, mkArg, Nat.beq, List.length_cons, List.length_nil, Bool.and_self, h, putArgs]
theorem callN_3 {F : Gam → Out R} {m1 m2 m3 : Gam → Out Ar} {γ : Gam} {d1 d2 d3 : D} {x : R} (h1 : m1 γ = .ok (.d d1) γ) (h2 : m2 γ = .ok (.d d2) γ) (h3 : m3 γ = .ok (.d d3) γ) (h : F [.fz d1, .fz d2, .fz d3] = .ok x [.fz d1, .fz d2, .fz d3]) : eCallN 3 F (aCons m1 (aCons m2 (aCons m3 aNil))) γ = .ok x γ := by
  simp only [eCallN, aCons, aNil, Out.bind, h1, h2, h3, disA, mkArgs, mkArg, Nat.beq, List.length_cons, List.length_nil, Bool.and_self, h, putArgs]
section
variable {γ : Gam}
theorem op_o {f : D → D → Option BR} {ma mb : Gam → Out Ar} {a b : Ar} {x y : D} {r : Out R} (h1 : ma γ = .ok a γ) (h2 : mb γ = .ok b γ) (l1 : look γ a = some x) (l2 : look γ b = some y) (h : ofB (f x y) γ = r) : eOp f ma mb γ = r := by
  unfold eOp
  simp only [h1, h2, Out.bind, l1, l2, h]
end
section
variable {γ : Gam}
theorem op_v {f : D → D → Option BR} {ma mb : Gam → Out Ar} {a b : Ar} {x y z : D} (h1 : ma γ = .ok a γ) (h2 : mb γ = .ok b γ) (l1 : look γ a = some x) (l2 : look γ b = some y) (h : f x y = some (.val z)) : eOp f ma mb γ = .ok (.fz z) γ := op_o h1 h2 l1 l2 (by rw [h]; rfl)
end
section
variable {γ : Gam}
theorem fo_fz {m : Gam → Out R} {d : D} (h : m γ = .ok (.fz d) γ) : fO m γ = .ok (.d d) γ := by unfold fO; rw [h]
end
section
variable {γ : Gam}
theorem fo_own {m : Gam → Out R} {d : D} (h : m γ = .ok (.own d) γ) : fO m γ = .ok (.d d) γ := by unfold fO; rw [h]
end
section
variable {γ : Gam}
theorem tT_v {m : Gam → Out R} {b : Bool} (h : m γ = .ok (.fz (.bl b)) γ) : toT m γ = .ok b γ := by unfold toT; rw [h]; rfl
end
section
variable {γ : Gam}
theorem put_ok {x : Nat} {me mi : Gam → Out Ar} {v i d d2 : D} {b : Ar} (h1 : me γ = .ok (.d v) γ) (h2 : mi γ = .ok b γ) (l : look γ b = some i) (hx : γ[x]? = some (.own d)) (hs : setD d i v = some d2) : sPut x me mi γ = .nx (γ.set x (.own d2)) := by
  unfold sPut
  simp only [h1, h2, Out.toS, hx, Sl.dat, l, hs, Sl.put]
end
section
variable {γ : Gam}
theorem tup1 {m : Gam → Out Ar} {d : D} (h : m γ = .ok (.d d) γ) : eTup (aCons m aNil) γ = .ok (.fz (.tup [d])) γ := by
  unfold eTup aCons aNil
  simp only [h, Out.bind, dsOf]
  rfl
end
section
variable {γ : Gam}
theorem tup2 {m n : Gam → Out Ar} {d e : D} (h : m γ = .ok (.d d) γ) (h2 : n γ = .ok (.d e) γ) : eTup (aCons m (aCons n aNil)) γ = .ok (.fz (.tup [d, e])) γ := by
  unfold eTup aCons aNil
  simp only [h, h2, Out.bind, dsOf]
  rfl
end
section
variable {γ : Gam}
theorem sl_hi {m mh : Gam → Out Ar} {a : Ar} {ds : List D} {b : Ar} {k : Nat} {i : Int} (h1 : m γ = .ok a γ) (l1 : look γ a = some (.tup ds)) (h2 : mh γ = .ok b γ) (l2 : look γ b = some (.int i)) (e : i = (k : Int)) (h : k ≤ ds.length) : eSl m pNone (pSome mh) γ = .ok (.fz (.tup (ds.take k))) γ := by
  subst e
  unfold eSl pNone pSome
  simp only [h1, h2, Out.bind, l1, l2, sl_take h]
end
section
variable {γ : Gam}
theorem sl_lo {m mh : Gam → Out Ar} {a : Ar} {ds : List D} {b : Ar} {k : Nat} {i : Int} (h1 : m γ = .ok a γ) (l1 : look γ a = some (.tup ds)) (h2 : mh γ = .ok b γ) (l2 : look γ b = some (.int i)) (e : i = (k : Int)) (h : k ≤ ds.length) : eSl m (pSome mh) pNone γ = .ok (.fz (.tup (ds.drop k))) γ := by
  subst e
  unfold eSl pNone pSome
  simp only [h1, h2, Out.bind, l1, l2, sl_drop h]
end
theorem ixI {k : List Int} {a : Nat} (h : a < k.length) : fIxD (rowD k) (.int (a : Int)) = some (.val (.int (k.getD a 0))) := by
  show fIx (.tup (intD k)) (.int (a : Int)) = _
  refine fIx_tup a rfl ?_
  rw [intD_get, List.getElem?_eq_getElem h, List.getD_eq_getElem?_getD, List.getElem?_eq_getElem h]
  rfl
theorem fGt_int (i j : Int) : fGt (.int i) (.int j) = some (.val (.bl (decide (j < i)))) := rfl
theorem cMul_of {i j : Int} (hi : i.natAbs < 10 ^ 50) (hj : j.natAbs < 10 ^ 50) : cMul i j = true :=
  cMul_small (big_pow (Nat.lt_of_lt_of_le hi (by decide))) (big_pow (Nat.lt_of_lt_of_le hj (by decide)))
theorem fMulA_int {i j : Int} (h : cMul i j = true) : fMulA (.int i) (.int j) = some (.val (.int (i * j))) := by
  show fMul (.int i) (.int j) = _
  unfold fMul fIc
  simp only [h]
theorem getD_of {k : List Int} {a : Nat} {p : Int → Prop} (h0 : p 0) (h : ∀ e ∈ k, p e) : p (k.getD a 0) := by
  rw [List.getD_eq_getElem?_getD]
  cases e : k[a]? with
  | none => exact h0
  | some x => exact h x (List.mem_of_getElem? e)
section
variable {γ γ1 γ2 γ3 : Gam}
theorem callN_2g {F : Gam → Out R} {m1 m2 : Gam → Out Ar} {d1 d2 : D} {x : R} (h1 : m1 γ = .ok (.d d1) γ1) (h2 : m2 γ1 = .ok (.d d2) γ2) (h : F [.fz d1, .fz d2] = .ok x [.fz d1, .fz d2]) : eCallN 2 F (aCons m1 (aCons m2 aNil)) γ = .ok x γ2 := by
  simp only [eCallN, aCons, aNil, Out.bind, h1, h2, disA, mkArgs, mkArg, Nat.beq, List.length_cons, List.length_nil, Bool.and_self, h, putArgs]
end
section
variable {γ γ1 γ2 γ3 : Gam}
theorem callN_3g {F : Gam → Out R} {m1 m2 m3 : Gam → Out Ar} {d1 d2 d3 : D} {x : R} (h1 : m1 γ = .ok (.d d1) γ1) (h2 : m2 γ1 = .ok (.d d2) γ2) (h3 : m3 γ2 = .ok (.d d3) γ3) (h : F [.fz d1, .fz d2, .fz d3] = .ok x [.fz d1, .fz d2, .fz d3]) : eCallN 3 F (aCons m1 (aCons m2 (aCons m3 aNil))) γ = .ok x γ3 := by
  simp only [eCallN, aCons, aNil, Out.bind, h1, h2, h3, disA, mkArgs, mkArg, Nat.beq, List.length_cons, List.length_nil, Bool.and_self, h, putArgs]
end
section
variable {γ γ1 γ2 γ3 : Gam}
theorem set_g {i : Nat} {m : Gam → Out R} {r : R} (h : m γ = .ok r γ1) (h2 : stG i r.sl γ1 = some γ2) : sSet i m γ = .nx γ2 := by unfold sSet; rw [h]; show nxO (stG i r.sl γ1) = _; rw [h2]; rfl
end
section
variable {γ γ1 γ2 γ3 : Gam}
theorem fo_fg {m : Gam → Out R} {d : D} (h : m γ = .ok (.fz d) γ1) : fO m γ = .ok (.d d) γ1 := by unfold fO; rw [h]
end
section
variable {γ γ1 γ2 γ3 : Gam}
theorem fo_og {m : Gam → Out R} {d : D} (h : m γ = .ok (.own d) γ1) : fO m γ = .ok (.d d) γ1 := by unfold fO; rw [h]
end
theorem lc_map {α : Type} {vs : List Nat} {f : D → Gam → Option Gam} {t : Gam → Out Bool} {e : Gam → Out Ar} {γ : Gam} (cst : α → D) (gx : α → Gam) (p : α → Bool) (g : α → D) : ∀ (xs : List α) (c : Nat), (∀ x ∈ xs, f (cst x) γ = some (gx x)) → (∀ x ∈ xs, t (gx x) = .ok (p x) (gx x)) → (∀ x ∈ xs, p x = true → e (gx x) = .ok (.d (g x)) (gx x)) → (∀ x ∈ xs, unO vs (gx x) = some γ) → c + xs.length ≤ 16777216 →
    lcGo vs f t e (xs.map cst) c γ = .ok ((xs.filter p).map g) γ
  | [], c, _, _, _, _, _ => rfl
  | x :: xs, c, h1, h2, h3, h4, h5 => by
    have i1 : ∀ y ∈ xs, y ∈ x :: xs := fun y hy => List.mem_cons_of_mem _ hy
    have mx : x ∈ x :: xs := List.mem_cons_self
    have hl : (x :: xs).length = xs.length + 1 := rfl
    unfold lcGo
    rw [List.map_cons]
    simp only [h1 x mx, h2 x mx, Out.bindN]
    cases hp : p x with
    | true =>
      have hb : Nat.blt c 16777216 = true := by rw [Nat.blt_eq]; omega
      have ih := lc_map cst gx p g xs (c + 1) (fun y hy => h1 y (i1 y hy)) (fun y hy => h2 y (i1 y hy)) (fun y hy => h3 y (i1 y hy)) (fun y hy => h4 y (i1 y hy)) (by omega)
      simp only [h3 x mx hp, hb, h4 x mx, ih, Out.bind]
      rw [List.filter_cons_of_pos hp, List.map_cons]
    | false =>
      have ih := lc_map cst gx p g xs c (fun y hy => h1 y (i1 y hy)) (fun y hy => h2 y (i1 y hy)) (fun y hy => h3 y (i1 y hy)) (fun y hy => h4 y (i1 y hy)) (by omega)
      simp only [h4 x mx, ih]
      rw [List.filter_cons_of_neg (by simp [hp])]
theorem eLc_mapg {α : Type} {mi : Gam → Out (List D)} {vs : List Nat} {f : D → Gam → Option Gam} {t : Gam → Out Bool} {e : Gam → Out Ar} {γ0 γ1 γ : Gam} (cst : α → D) (gx : α → Gam) (p : α → Bool) (g : α → D) (xs : List α) (hm : mi γ0 = .ok (xs.map cst) γ1) (hu : unO vs γ1 = some γ) (h1 : ∀ x ∈ xs, f (cst x) γ = some (gx x)) (h2 : ∀ x ∈ xs, t (gx x) = .ok (p x) (gx x)) (h3 : ∀ x ∈ xs, p x = true → e (gx x) = .ok (.d (g x)) (gx x)) (h4 : ∀ x ∈ xs, unO vs (gx x) = some γ) (h5 : xs.length ≤ 16777216) :
    eLc mi vs f t e γ0 = .ok (.own (.lst ((xs.filter p).map g))) γ := by
  unfold eLc
  simp only [hm, Out.bind, hu, lc_map cst gx p g xs 0 h1 h2 h3 h4 (by omega)]
theorem filter_yes {α : Type} (xs : List α) : xs.filter (fun _ => true) = xs := by simp
theorem call_1 {f : List D → Option BR} {m : Gam → Out Ar} {γ γ1 : Gam} {a : Ar} {d : D} {r : Out R} (h : m γ = .ok a γ1) (l : look γ1 a = some d) (hf : ofB (f [d]) γ1 = r) : eCall f (aCons m aNil) γ = r := by
  unfold eCall aCons aNil
  simp only [h, Out.bind, looks, l, hf]
theorem fEqD_int (neg : Bool) (a b : Int) : fEqD neg (.int a) (.int b) = some (.val (.bl (if neg = true then !decide (a = b) else decide (a = b)))) := fEq_int neg a b
theorem stG_at {γ : Gam} {i : Nat} {s t : Sl} (h : γ[i]? = some t) (ht : t.isIo = false) : stG i s γ = some (γ.set i s) := by
  unfold stG
  simp only [h, ht]
theorem rd_fz {γ : Gam} {i : Nat} {d : D} (h : γ[i]? = some (.fz d)) : eRd i γ = .ok (.fz d) γ := by
  unfold eRd
  simp only [h]
theorem set_back {γ : Gam} {y : Nat} {s : Sl} (h : γ[y]? = some .un) : (γ.set y s).set y .un = γ := by
  rw [List.set_set]
  refine List.ext_getElem? fun i => ?_
  by_cases e : y = i
  · subst e
    rw [List.getElem?_set_self (List.getElem?_eq_some_iff.mp h).1, h]
  · rw [List.getElem?_set_ne e]
theorem osl_ok {γ : Gam} {i : Nat} {d : D} (h : look γ (.sl i) = some d) : oSl i γ = .ok (.sl i) γ := by
  unfold look at h
  unfold oSl
  cases e : γ[i]? with
  | none => simp only [e] at h; cases h
  | some s => cases s with
    | un => simp only [e, slD] at h; cases h
    | _ => simp only [e]
theorem iter_l {m : Gam → Out Ar} {γ γ1 : Gam} {ds : List D} (h : m γ = .ok (.d (.lst ds)) γ1) : mIter m γ = .ok ds γ1 := by
  unfold mIter
  rw [h]
  rfl
/-- a loop that goes on where p holds, and returns where it fails -/
theorem loop_all {α : Type} {f : D → Gam → Option Gam} {b : Gam → OutS} (cst : α → D) (p : α → Bool) (J : Gam → Prop) (r : R) (xs : List α) (hs : ∀ x γ, x ∈ xs → J γ → ∃ γ1 γ2, f (cst x) γ = some γ1 ∧ J γ2 ∧ b γ1 = if p x = true then .nx γ2 else .rt r γ2) :
    ∀ (γ : Gam), J γ → ∃ γ', J γ' ∧ loopS f b (xs.map cst) γ = if xs.all p = true then .nx γ' else .rt r γ' := by
  induction xs with
  | nil => exact fun γ h => ⟨γ, h, rfl⟩
  | cons x xs ih =>
    intro γ h
    obtain ⟨γ1, γ2, e1, j2, e2⟩ := hs x γ List.mem_cons_self h
    rw [List.map_cons]
    unfold loopS
    rw [e1]
    simp only [e2]
    cases hp : p x with
    | true =>
      obtain ⟨γ', j', e'⟩ := ih (fun y γ hy => hs y γ (List.mem_cons_of_mem _ hy)) γ2 j2
      refine ⟨γ', j', ?_⟩
      rw [List.all_cons, hp, Bool.true_and]
      simpa using e'
    | false =>
      refine ⟨γ2, j2, ?_⟩
      rw [List.all_cons, hp, Bool.false_and]
      simp
theorem for_all {α : Type} {mi : Gam → Out (List D)} {f : D → Gam → Option Gam} {b : Gam → OutS} (cst : α → D) (p : α → Bool) (J : Gam → Prop) (r : R) (xs : List α) {γ γ0 : Gam} (hm : mi γ0 = .ok (xs.map cst) γ) (h : J γ) (hs : ∀ x γ, x ∈ xs → J γ → ∃ γ1 γ2, f (cst x) γ = some γ1 ∧ J γ2 ∧ b γ1 = if p x = true then .nx γ2 else .rt r γ2) :
    ∃ γ', J γ' ∧ sFor mi f b γ0 = if xs.all p = true then .nx γ' else .rt r γ' := by
  obtain ⟨γ', j, e⟩ := loop_all cst p J r xs hs γ h
  refine ⟨γ', j, ?_⟩
  unfold sFor
  rw [hm]
  exact e
theorem rng1_gen {ms : Gam → Out (List Ar)} {γ : Gam} {as : List Ar} {i : Int} (h : ms γ = .ok as γ) (hl : looks γ as = some [.int i]) (hi : inRg i = true) : mRng1 ms γ = .ok (rgD 0 i.toNat) γ := by
  unfold mRng1
  rw [h]
  simp only [Out.bind, hl, hi]
theorem rng2_gen {ms : Gam → Out (List Ar)} {γ : Gam} {as : List Ar} {i j : Int} (h : ms γ = .ok as γ) (hl : looks γ as = some [.int i, .int j]) (hi : inRg i = true) (hj : inRg j = true) : mRng2 ms γ = .ok (rgD i (j - i).toNat) γ := by
  unfold mRng2
  rw [h]
  simp only [Out.bind, hl, hi, hj, Bool.and_self]
theorem looks1 {γ : Gam} {a : Ar} {d : D} (l : look γ a = some d) : looks γ [a] = some [d] := by
  simp only [looks, l]
theorem looks2 {γ : Gam} {a b : Ar} {d e : D} (l : look γ a = some d) (l2 : look γ b = some e) : looks γ [a, b] = some [d, e] := by
  simp only [looks, l, l2]
theorem args1 {γ : Gam} {m : Gam → Out Ar} {a : Ar} (h : m γ = .ok a γ) : aCons m aNil γ = .ok [a] γ := by
  unfold aCons aNil
  simp only [h, Out.bind]
theorem args2 {γ : Gam} {m m2 : Gam → Out Ar} {a b : Ar} (h : m γ = .ok a γ) (h2 : m2 γ = .ok b γ) : aCons m (aCons m2 aNil) γ = .ok [a, b] γ := by
  unfold aCons aNil
  simp only [h, h2, Out.bind]
theorem range1 {γ : Gam} {m : Gam → Out Ar} {a : Ar} {i : Int} {k : Nat} (h : m γ = .ok a γ) (l : look γ a = some (.int i)) (ei : i = (k : Int)) (hk : k ≤ 1000) : mRng1 (aCons m aNil) γ = .ok ((List.range k).map fun j => D.int (Int.ofNat j)) γ := by
  rw [rng1_gen (args1 h) (looks1 l) (inRg_of (by omega) (by omega)), rgD_map]
  have e : i.toNat = k := by omega
  rw [e]
  congr 1
  refine List.map_congr_left fun j _ => ?_
  congr 1
  exact Int.zero_add _
theorem range2 {γ : Gam} {m m2 : Gam → Out Ar} {a b : Ar} {i j : Int} {lo k : Nat} (h : m γ = .ok a γ) (h2 : m2 γ = .ok b γ) (l : look γ a = some (.int i)) (l2 : look γ b = some (.int j)) (ei : i = (lo : Int)) (ej : j = (lo : Int) + (k : Int)) (hk : lo + k ≤ 1000) : mRng2 (aCons m (aCons m2 aNil)) γ = .ok ((List.range k).map fun x => D.int (Int.ofNat (lo + x))) γ := by
  rw [rng2_gen (args2 h h2) (looks2 l l2) (inRg_of (by omega) (by omega)) (inRg_of (by omega) (by omega)), rgD_map]
  have e : (j - i).toNat = k := by omega
  rw [e]
  congr 1
  refine List.map_congr_left fun x _ => ?_
  congr 1
  rw [ei]
  rfl
theorem shL_rows (k : Nat) : ∀ (ls : List (List Int)), shL (k + 1) (ls.map rowD) = true
  | [] => rfl
  | l :: ls => by
    show (shD (k + 1) (rowD l) && shL (k + 1) (ls.map rowD)) = true
    rw [shL_rows k ls]
    show (shL k (intD l) && true) = true
    rw [shL_intD]
    rfl
theorem fEqD_rows (neg : Bool) (ls : List (List Int)) : fEqD neg (.lst (ls.map rowD)) (.lst []) = some (.val (.bl (if neg = true then !ls.isEmpty else ls.isEmpty))) := by
  show fEq neg (.lst (ls.map rowD)) (.lst []) = _
  unfold fEq
  have h1 : shD 12 (.lst (ls.map rowD)) = true := shL_rows 10 ls
  have h2 : shD 12 (.lst []) = true := rfl
  simp only [h1, h2, Bool.and_self]
  cases ls <;> rfl
theorem fEqD_ints (neg : Bool) (is : List Int) : fEqD neg (.lst (intD is)) (.lst []) = some (.val (.bl (if neg = true then !is.isEmpty else is.isEmpty))) := by
  show fEq neg (.lst (intD is)) (.lst []) = _
  rw [fEq_nil]
  cases is <;> simp
theorem ret_b {m : Gam → Out R} {b : Bool} {γ : Gam} (h : m γ = .ok (.fz (.bl b)) γ) : sSeq (sRet m) sNx γ = .rt (.fz (.bl b)) γ := seq_rt (ret_ok h)
theorem and_t {m1 m2 : Gam → Out R} {γ : Gam} {r : Out R} (h1 : m1 γ = .ok (.fz (.bl true)) γ) (h2 : m2 γ = r) : eAnd m1 m2 γ = r := by
  unfold eAnd
  simp only [h1, Out.bind, h2]
theorem and_f {m1 m2 : Gam → Out R} {γ : Gam} (h1 : m1 γ = .ok (.fz (.bl false)) γ) : eAnd m1 m2 γ = .ok (.fz (.bl false)) γ := by
  unfold eAnd
  simp only [h1, Out.bind]
theorem fLtA_int (i j : Int) : fLtA (.int i) (.int j) = some (.val (.bl (decide (i < j)))) := rfl
theorem eNeg_c (i : Int) (γ : Gam) : fO (eNeg (fO (eC (.int i)))) γ = .ok (.d (.int (-i))) γ := rfl
theorem or_f {a b : Gam → Out Bool} {γ : Gam} {r : Out Bool} (h : a γ = .ok false γ) (h2 : b γ = r) : bOr a b γ = r := by
  unfold bOr
  simp only [h, Out.bind, h2]
theorem or_t {a b : Gam → Out Bool} {γ : Gam} (h : a γ = .ok true γ) : bOr a b γ = .ok true γ := by
  unfold bOr
  simp only [h, Out.bind]
theorem not_v {a : Gam → Out Bool} {γ : Gam} {b : Bool} (h : a γ = .ok b γ) : bNot a γ = .ok (!b) γ := by
  unfold bNot
  simp only [h, Out.bind]
theorem boolsOf_map {α : Type} (g : α → Bool) : ∀ xs : List α, boolsOf (xs.map fun x => D.bl (g x)) = some (xs.map g)
  | [] => rfl
  | x :: xs => by rw [List.map_cons, boolsOf, boolsOf_map g xs]; rfl
theorem bAll_map {α : Type} (g : α → Bool) (xs : List α) : bAll [.lst (xs.map fun x => D.bl (g x))] = some (.val (.bl (xs.all g))) := by
  unfold bAll
  dsimp only
  rw [boolsOf_map]
  simp [List.all_map]
theorem all_ok {cw : Gam → Out R} {γ γ1 : Gam} {α : Type} {g : α → Bool} {xs : List α} (h : cw γ = .ok (.own (.lst (xs.map fun x => D.bl (g x)))) γ1) : eCall bAll (aCons (fO cw) aNil) γ = .ok (.fz (.bl (xs.all g))) γ1 := call_1 (fo_og h) rfl (by rw [bAll_map]; rfl)
theorem zipD_map {α : Type} (f : α → D) : ∀ a b : List α, zipD (a.map f) (b.map f) = (a.zip b).map fun p => D.tup [f p.1, f p.2]
  | [], _ => rfl
  | _ :: _, [] => rfl
  | a :: as, b :: bs => by
    show D.tup [f a, f b] :: zipD (as.map f) (bs.map f) = _
    rw [zipD_map f as bs]
    rfl
theorem zip_tail {α : Type} {R : α → α → Prop} : ∀ {l : List α}, l.Pairwise R → ∀ p ∈ l.zip l.tail, R p.1 p.2
  | [], _, p, h => by cases h
  | [a], _, p, h => by cases h
  | a :: b :: l, h, p, hp => by
    have h' := List.pairwise_cons.mp h
    rcases List.mem_cons.mp hp with z | hp
    · rw [z]; exact h'.1 b List.mem_cons_self
    · exact zip_tail h'.2 p hp
theorem ixL {k : List Int} {a : Nat} (h : a < k.length) : fIxD (.lst (intD k)) (.int (Int.ofNat a)) = some (.val (.int (k.getD a 0))) := by
  show fIx (.lst (intD k)) (.int (a : Int)) = _
  refine fIx_lst a rfl ?_
  rw [intD_get, List.getElem?_eq_getElem h, List.getD_eq_getElem?_getD, List.getElem?_eq_getElem h]
  rfl
theorem intD_set (l : List Int) (a : Nat) (x : Int) : (intD l).set a (.int x) = intD (l.set a x) := by rw [intD_map, intD_map, List.map_set]
theorem ixN_nat {a n : Nat} (h : a < n) : ixN n (Int.ofNat a) = some a := by
  show ixN n (a : Int) = some a
  unfold ixN
  have : ((a : Nat) : Int) < (n : Int) := by omega
  simp [this]
theorem setD_lst {l : List Int} {a : Nat} {x : Int} (h : a < l.length) : setD (.lst (intD l)) (.int (Int.ofNat a)) (.int x) = some (.lst (intD (l.set a x))) := by
  show (match ixN (intD l).length (Int.ofNat a) with
    | some j => some (D.lst ((intD l).set j (.int x)))
    | none => none) = _
  rw [intD_len, ixN_nat h, ← intD_set]
theorem fEqD_ne (a b : Int) : fEqD true (.int a) (.int b) = some (.val (.bl (decide (a ≠ b)))) := by
  rw [fEqD_int]
  by_cases h : a = b <;> simp [h]
theorem getD_set_self {k : List Int} {a : Nat} {x : Int} (h : a < k.length) : (k.set a x).getD a 0 = x := by
  rw [List.getD_eq_getElem?_getD, List.getElem?_set_self h]
  rfl
theorem getD_ext {n : Nat} {a b : List Int} (ha : a.length = 2 * n) (hb : b.length = 2 * n) (h : ∀ j, j < n → a.getD j 0 = b.getD j 0 ∧ a.getD (n + j) 0 = b.getD (n + j) 0) : a = b := by
  refine List.ext_getElem (by omega) fun i h1 h2 => ?_
  have conv : ∀ i, (h1 : i < a.length) → (h2 : i < b.length) → a.getD i 0 = b.getD i 0 → a[i] = b[i] := fun i h1 h2 e => by
    rw [List.getD_eq_getElem?_getD, List.getD_eq_getElem?_getD, List.getElem?_eq_getElem h1, List.getElem?_eq_getElem h2] at e
    exact e
  rcases Nat.lt_or_ge i n with z | z
  · exact conv i h1 h2 (h i z).1
  · have := (h (i - n) (by omega)).2
    rw [show n + (i - n) = i by omega] at this
    exact conv i h1 h2 this
theorem op_g {f : D → D → Option BR} {ma mb : Gam → Out Ar} {a b : Ar} {x y : D} {γ γ1 γ2 : Gam} {r : Out R} (h1 : ma γ = .ok a γ1) (h2 : mb γ1 = .ok b γ2) (l1 : look γ2 a = some x) (l2 : look γ2 b = some y) (h : ofB (f x y) γ2 = r) : eOp f ma mb γ = r := by
  unfold eOp
  simp only [h1, h2, Out.bind, l1, l2, h]
theorem fMod_int {i j : Int} (h : 0 < j) : fMod (.int i) (.int j) = some (.val (.int (i % j))) := by
  unfold fMod fIc
  simp only [cMod_of h]
theorem z2n : ∀ n : Nat, 1 ≤ n → n < 5 → fMulA (.tup [.int 0]) (.int (2 * (n : Int))) = some (.newT (intD (List.replicate (2 * n) 0)))
  | 0, h, _ => absurd h (by decide)
  | 1, _, _ => rfl
  | 2, _, _ => rfl
  | 3, _, _ => rfl
  | 4, _, _ => rfl
theorem rng1_g {ms : Gam → Out (List Ar)} {γ γ1 : Gam} {as : List Ar} {i : Int} (h : ms γ = .ok as γ1) (hl : looks γ1 as = some [.int i]) (hi : inRg i = true) : mRng1 ms γ = .ok (rgD 0 i.toNat) γ1 := by
  unfold mRng1
  rw [h]
  simp only [Out.bind, hl, hi]
theorem args1g {γ γ1 : Gam} {m : Gam → Out Ar} {a : Ar} (h : m γ = .ok a γ1) : aCons m aNil γ = .ok [a] γ1 := by
  unfold aCons aNil
  simp only [h, Out.bind]
theorem range1g {γ γ1 : Gam} {m : Gam → Out Ar} {a : Ar} {i : Int} {k : Nat} (h : m γ = .ok a γ1) (l : look γ1 a = some (.int i)) (ei : i = (k : Int)) (hk : k ≤ 1000) : mRng1 (aCons m aNil) γ = .ok ((List.range k).map fun j => D.int (Int.ofNat j)) γ1 := by
  rw [rng1_g (args1g h) (looks1 l) (inRg_of (by omega) (by omega)), rgD_map]
  have e : i.toNat = k := by omega
  rw [e]
  congr 1
  refine List.map_congr_left fun j _ => ?_
  congr 1
  exact Int.zero_add _
theorem for_preg {α : Type} {mi : Gam → Out (List D)} {f : D → Gam → Option Gam} {b : Gam → OutS} (cst : α → D) (J : List α → Gam → Prop) (xs : List α) {γ0 γ : Gam} (hm : mi γ0 = .ok (xs.map cst) γ) (h : J [] γ) (hs : ∀ pre x post γ, xs = pre ++ x :: post → J pre γ → ∃ γ1 γ2, f (cst x) γ = some γ1 ∧ b γ1 = .nx γ2 ∧ J (pre ++ [x]) γ2) : ∃ γ', sFor mi f b γ0 = .nx γ' ∧ J xs γ' := by
  obtain ⟨γ', e, hj⟩ := loop_pre cst J xs hs xs [] γ rfl h
  refine ⟨γ', ?_, hj⟩
  unfold sFor
  rw [hm]
  exact e
/-- a comprehension whose element moves the state -/
theorem lc_pre {α : Type} {vs : List Nat} {f : D → Gam → Option Gam} {e : Gam → Out Ar} (cst : α → D) (J : Nat → Gam → Prop) (Q : α → D → Prop) : ∀ (xs : List α) (c k : Nat) (γ : Gam), J k γ → c + xs.length ≤ 16777216 → (∀ x ∈ xs, ∀ i γ, i < k + xs.length → J i γ → ∃ γ1 γ2 y γ3, f (cst x) γ = some γ1 ∧ e γ1 = .ok (.d y) γ2 ∧ unO vs γ2 = some γ3 ∧ Q x y ∧ J (i + 1) γ3) → ∃ ys γ', lcGo vs f mYes e (xs.map cst) c γ = .ok ys γ' ∧ J (k + xs.length) γ' ∧ ys.length = xs.length ∧ ∀ (i : Nat) x y, xs[i]? = some x → ys[i]? = some y → Q x y
  | [], c, k, γ, j, _, _ => ⟨[], γ, rfl, j, rfl, fun i x y h => by simp at h⟩
  | x :: xs, c, k, γ, j, hc, hs => by
    have hl : (x :: xs).length = xs.length + 1 := rfl
    obtain ⟨γ1, γ2, y, γ3, e1, e2, e3, q, j3⟩ := hs x List.mem_cons_self k γ (by omega) j
    obtain ⟨ys, γ', e4, j4, l4, q4⟩ := lc_pre cst J Q xs (c + 1) (k + 1) γ3 j3 (by omega) fun x hx i γ hi => hs x (List.mem_cons_of_mem _ hx) i γ (by omega)
    have hb : Nat.blt c 16777216 = true := by rw [Nat.blt_eq]; omega
    refine ⟨y :: ys, γ', ?_, by rw [hl, show k + (xs.length + 1) = k + 1 + xs.length by omega]; exact j4, by rw [List.length_cons, List.length_cons, l4], fun i x' y' h1 h2 => ?_⟩
    · rw [List.map_cons]
      unfold lcGo
      have my : mYes γ1 = .ok true γ1 := rfl
      simp only [e1, my, Out.bindN, e2, hb, e3, e4, Out.bind]
    · cases i with
      | zero => simp at h1 h2; rw [← h1, ← h2]; exact q
      | succ i => exact q4 i x' y' (by simpa using h1) (by simpa using h2)
theorem eLc_pre {α : Type} {mi : Gam → Out (List D)} {vs : List Nat} {f : D → Gam → Option Gam} {e : Gam → Out Ar} {γ0 γ1 γ : Gam} (cst : α → D) (J : Nat → Gam → Prop) (Q : α → D → Prop) (xs : List α) (hm : mi γ0 = .ok (xs.map cst) γ1) (hu : unO vs γ1 = some γ) (j : J 0 γ) (hl : xs.length ≤ 16777216) (hs : ∀ x ∈ xs, ∀ i γ, i < xs.length → J i γ → ∃ γ1 γ2 y γ3, f (cst x) γ = some γ1 ∧ e γ1 = .ok (.d y) γ2 ∧ unO vs γ2 = some γ3 ∧ Q x y ∧ J (i + 1) γ3) : ∃ ys γ', eLc mi vs f mYes e γ0 = .ok (.own (.lst ys)) γ' ∧ J xs.length γ' ∧ ys.length = xs.length ∧ ∀ (i : Nat) x y, xs[i]? = some x → ys[i]? = some y → Q x y := by
  obtain ⟨ys, γ', e1, j', l, q⟩ := lc_pre (vs := vs) (f := f) (e := e) cst J Q xs 0 0 γ j (by omega) fun x hx i γ hi => hs x hx i γ (by omega)
  refine ⟨ys, γ', ?_, by rw [Nat.zero_add] at j'; exact j', l, q⟩
  unfold eLc
  simp only [hm, Out.bind, hu, e1]
theorem append_ok {γ γ1 : Gam} {i : Nat} {ms : Gam → Out Ar} {y : D} {ds : List D} (h0 : γ[i]? = some (.own (.lst ds))) (h : ms γ = .ok (.d y) γ1) (h1 : γ1[i]? = some (.own (.lst ds))) (hl : ds.length ≤ 1000) : eMeth i fAppend (aCons ms aNil) γ = .ok (.fz .non) (γ1.set i (.own (.lst (ds ++ [y])))) := by
  have hf : fitN (ds.length + 1) = true := fitN_of (by omega)
  unfold eMeth
  simp only [h0, Sl.lst, args1g h, Out.bind, dsOf, h1, fAppend, hf, Sl.putL]
theorem call_R3 {F : Gam → Out R} {m2 m3 : Gam → Out Ar} {r : Gam} {d d' d'' d2 d3 : D} {x : R} (h2 : m2 (.io d :: r) = .ok (.d d2) (.io d :: r)) (h3 : m3 (.io d :: r) = .ok (.d d3) (.io d' :: r)) (h : F [.io d', .fz d2, .fz d3] = .ok x [.io d'', .fz d2, .fz d3]) : eCallN 3 F (aCons (oSl 0) (aCons m2 (aCons m3 aNil))) (.io d :: r) = .ok x (.io d'' :: r) := by
  simp only [fnB, sSeq, sNx, sIf, sRet, sRetN, sSet, sSetIx, sExpr, Out.toS, Out.bind, Out.bindN, eOp, eCall, aCons, aNil, look, looks, slD, fO, eRd, eMv, oSl, eC, ofB, BR.out, nxO, stG, R.sl, Sl.isIo, eAnd, eOr, eNot, bAnd, bOr, bNot, toT, eTup, eLst, dsOf, fI, fIc, Sl.lst, Sl.putL, ioOut, List.replicate, List.cons_append, List.nil_append, List.getElem?_cons_zero, List.getElem?_cons_succ, List.set_cons_zero, List.set_cons_succ, eCallN, mkArgs, mkArg, mkSl, disA, slIn, putArgs, reSl, eChain, eIf, eNeg, sPut, Sl.dat, Sl.put, setD, fIxD, fMulA, Nat.beq, List.length_cons, List.length_nil, Bool.and_self, Bool.not_false, h2, h3, h]
section
variable {γ0 γ1 γ2 γ3 γ4 : Gam}
theorem lst4 {m1 m2 m3 m4 : Gam → Out Ar} {a b c d : D} (h1 : m1 γ0 = .ok (.d a) γ1) (h2 : m2 γ1 = .ok (.d b) γ2) (h3 : m3 γ2 = .ok (.d c) γ3) (h4 : m4 γ3 = .ok (.d d) γ4) : eLst (aCons m1 (aCons m2 (aCons m3 (aCons m4 aNil)))) γ0 = .ok (.own (.lst [a, b, c, d])) γ4 := by
  unfold eLst aCons aNil
  simp only [h1, h2, h3, h4, Out.bind, dsOf]
  rfl
end
section
variable {γ0 γ1 γ2 γ3 γ4 : Gam}
theorem lst2 {m1 m2 : Gam → Out Ar} {a b : D} (h1 : m1 γ0 = .ok (.d a) γ1) (h2 : m2 γ1 = .ok (.d b) γ2) : eLst (aCons m1 (aCons m2 aNil)) γ0 = .ok (.own (.lst [a, b])) γ2 := by
  unfold eLst aCons aNil
  simp only [h1, h2, Out.bind, dsOf]
  rfl
end
section
variable {γ0 γ1 γ2 γ3 γ4 : Gam}
theorem ix_lst {x : Nat} {ds : List D} {y : D} {i : Int} {mi : Gam → Out Ar} (k : Nat) (hx : look γ0 (.sl x) = some (.lst ds)) (hi : mi γ0 = .ok (.d (.int i)) γ0) (e : i = (k : Int)) (hy : ds[k]? = some y) : eOp fIxD (oSl x) mi γ0 = .ok (.fz y) γ0 := op_v (a := .sl x) (osl_ok hx) hi hx rfl (fIx_lst k e hy)
end
section
variable {γ0 γ1 γ2 γ3 γ4 : Gam}
theorem call_g {f : List D → Option BR} {m : Gam → Out Ar} {a : Ar} {d : D} {r : Out R} (h : m γ0 = .ok a γ1) (l : look γ1 a = some d) (hf : ofB (f [d]) γ1 = r) : eCall f (aCons m aNil) γ0 = r := call_1 h l hf
end
section
variable {γ : Gam}
theorem dsOf_map : ∀ ds : List D, dsOf (ds.map Ar.d) = some ds
  | [] => rfl
  | d :: ds => by
    show (match dsOf (ds.map Ar.d) with
      | some r => some (d :: r)
      | none => none) = _
    rw [dsOf_map ds]
end
theorem callN_3e {F : Gam → Out R} {m1 m2 m3 : Gam → Out Ar} {γ γ' : Gam} {d1 d2 d3 : D} {x : R} (h1 : m1 γ = .ok (.d d1) γ) (h2 : m2 γ = .ok (.d d2) γ) (h3 : m3 γ = .ok (.d d3) γ) (h : F [.fz d1, .fz d2, .fz d3] = .ok x γ') : eCallN 3 F (aCons m1 (aCons m2 (aCons m3 aNil))) γ = .ok x γ := by
  simp only [eCallN, aCons, aNil, Out.bind, h1, h2, h3, disA, mkArgs, mkArg, Nat.beq, List.length_cons, List.length_nil, Bool.and_self, h]
  cases γ' with
  | nil => rfl
  | cons a r => cases r with
    | nil => rfl
    | cons b r => cases r with
      | nil => rfl
      | cons c r => cases r <;> rfl
theorem bAnd_t {a b : Gam → Out Bool} {γ γ1 : Gam} {r : Out Bool} (h : a γ = .ok true γ1) (h2 : b γ1 = r) : bAnd a b γ = r := by
  unfold bAnd
  simp only [h, Out.bind, h2]
theorem bAnd_f {a b : Gam → Out Bool} {γ γ1 : Gam} (h : a γ = .ok false γ1) : bAnd a b γ = .ok false γ1 := by
  unfold bAnd
  simp only [h, Out.bind]
theorem callN_1g {F : Gam → Out R} {m1 : Gam → Out Ar} {γ γ1 : Gam} {d1 : D} {x : R} (h1 : m1 γ = .ok (.d d1) γ1) (h : F [.fz d1] = .ok x [.fz d1]) : eCallN 1 F (aCons m1 aNil) γ = .ok x γ1 := by
  simp only [eCallN, aCons, aNil, Out.bind, h1, disA, mkArgs, mkArg, Nat.beq, List.length_cons, List.length_nil, Bool.and_self, h, putArgs]
theorem tT_g {m : Gam → Out R} {b : Bool} {γ γ1 : Gam} (h : m γ = .ok (.fz (.bl b)) γ1) : toT m γ = .ok b γ1 := by unfold toT; rw [h]; rfl
theorem if_tg {c : Gam → Out Bool} {a b : Gam → OutS} {γ γ1 : Gam} (h : c γ = .ok false γ1) : sIf c a b γ = b γ1 := by unfold sIf; rw [h]; rfl
theorem strB (b : Bool) : fEqD true (.str (bTx b)) (.str (bTx b)) = some (.val (.bl false)) := by
  show fEq true (.str (bTx b)) (.str (bTx b)) = _
  unfold fEq
  cases b
  · rw [show (shD 12 (.str (bTx false)) && shD 12 (.str (bTx false))) = true by decide +kernel, show eqd (.str (bTx false)) (.str (bTx false)) = true by decide +kernel]
    rfl
  · rw [show (shD 12 (.str (bTx true)) && shD 12 (.str (bTx true))) = true by decide +kernel, show eqd (.str (bTx true)) (.str (bTx true)) = true by decide +kernel]
    rfl
theorem call_right {F : Gam → Out R} {a b : Sl} {d d' : D} {y : R} {rest : Gam} (h : F [.io d] = .ok y [.io d']) : eCallN 1 F (aCons (oSl 2) aNil) (a :: b :: .own d :: rest) = .ok y (a :: b :: .own d' :: rest) := by
  simp only [eCallN, aCons, aNil, Out.bind, oSl, List.getElem?_cons_zero, List.getElem?_cons_succ, disA, slIn, mkArgs, mkArg, mkSl, Nat.beq, List.length_cons, List.length_nil, Bool.not_false, Bool.and_self, h, putArgs, reSl, List.set_cons_zero, List.set_cons_succ]
theorem or_fg {a b : Gam → Out Bool} {γ γ1 : Gam} {r : Out Bool} (h : a γ = .ok false γ1) (h2 : b γ1 = r) : bOr a b γ = r := by
  unfold bOr
  simp only [h, Out.bind, h2]
theorem not_g {a : Gam → Out Bool} {γ γ1 : Gam} {b : Bool} (h : a γ = .ok b γ1) : bNot a γ = .ok (!b) γ1 := by
  unfold bNot
  simp only [h, Out.bind]
def isB (b : Bool) : Out R → Bool
  | .ok (.fz (.bl c)) _ => b == c
  | _ => false
theorem isB_ok {b : Bool} {o : Out R} (h : isB b o = true) : ∃ γ, o = .ok (.fz (.bl b)) γ := by
  unfold isB at h
  split at h
  · rename_i c γ
    have : b = c := by simpa using h
    rw [this]
    exact ⟨_, rfl⟩
  · cases h
end T

-- text U0
set_option Elab.async false
set_option linter.all false
set_option maxRecDepth 100000
set_option maxHeartbeats 4000000
namespace T
open PySem L2 PyProof.Rows
def top (i : Nat) : Stmt := PySem.Challenge.pw_armrises_k80_whole_ordered_partings.main.body.getD i (.Pass ⟨0, 0, 0, 0⟩)
def mtop (i j : Nat) : Stmt := match top i with
  | .ClassDef _ _ _ b _ _ _ _ _ _ _ => b.getD j (.Pass ⟨0, 0, 0, 0⟩)
  | s => s
abbrev FnQ (K : PySem.W.Frag) (x q : Str) (s : Stmt) (f : Addr) (fd : FuncData) : Prop := FunD K x q (defArgs s) (defBody s) (defScope s) [] [] f fd
abbrev tb (K : PySem.W.Frag) (w : World) (cls : Nat → Addr) : Tab := { K := K, w := w, fn := cls }
structure Here (K : PySem.W.Frag) (mg : Str → Option Value) (x : Str) (i : Nat) : Prop where
  ex : ∃ f fd, FnQ K x x (top i) f fd ∧ mg x = some (.ref f)
structure HereI (K : PySem.W.Frag) (C : Addr) (q : Str) (s : Stmt) : Prop where
  ex : ∃ f fd, FnQ K "__init__" q s f fd ∧ L2.Mk K C f
structure HereP (K : PySem.W.Frag) (C : Addr) (x q : Str) (s : Stmt) : Prop where
  ex : ∃ f fd, FnQ K x q s f fd ∧ CPr K C x f
structure HereM (K : PySem.W.Frag) (C : Addr) (x q : Str) (s : Stmt) : Prop where
  ex : ∃ f fd, FnQ K x q s f fd ∧ (SlX.SCls K C ∧ L2.Meth K C x f)
section
variable (P : Program) (w : World) (K : PySem.W.Frag) (mg : Str → Option Value) (base : Heap) (cls : Nat → Addr)
structure Has (k : Nat) (x : Str) (n : Nat) (F : Gam → Out R) : Prop where
  ex : ∃ f fd ps, FnOk P w K mg base CX0 k f fd ps (spT (tb K w cls) n F) ∧ mg x = some (.ref f) ∧ PySem.W.keepIn K (.ref f) = true ∧ Binds K fd ps []
structure HasG (k : Nat) (x : Str) (n : Nat) (F : Gam → Out (List D)) : Prop where
  ex : ∃ f fd ps, GFn P w K mg base k f fd ps (spG (tb K w cls) n F) ∧ mg x = some (.ref f) ∧ PySem.W.keepIn K (.ref f) = true ∧ Binds K fd ps []
structure HasI (k : Nat) (c n : Nat) (F : Gam → Out R) : Prop where
  ex : ∃ f fd ps, FnOk P w K mg base CX0 k f fd ps (spT (tb K w cls) n F) ∧ L2.Mk K (cls c) f ∧ Binds K fd ps []
structure HasP (k : Nat) (c : Nat) (x : Str) (F : Gam → Out R) : Prop where
  ex : ∃ f fd ps, FnOk P w K mg base CX0 k f fd ps (spT (tb K w cls) 1 F) ∧ CPr K (cls c) x f ∧ Binds K fd ps []
structure HasM (k : Nat) (c : Nat) (x : Str) (n : Nat) (F : Gam → Out R) : Prop where
  ex : ∃ f fd ps, FnOk P w K mg base CX0 k f fd ps (spT (tb K w cls) n F) ∧ (SlX.SCls K (cls c) ∧ L2.Meth K (cls c) x f) ∧ Binds K fd ps []
end
structure Blt (mg : Str → Option Value) : Prop where
  len : mg "len" = none
  range : mg "range" = none
  tuple : mg "tuple" = none
  list : mg "list" = none
  zip : mg "zip" = none
  enumerate : mg "enumerate" = none
  all : mg "all" = none
  any : mg "any" = none
  sum : mg "sum" = none
  sorted : mg "sorted" = none
  isinstance : mg "isinstance" = none
  int : mg "int" = none
  bool : mg "bool" = none
  abs : mg "abs" = none
  repr : mg "repr" = none
  dict : mg "dict" = none
  min : mg "min" = none
  max : mg "max" = none
  str : mg "str" = none
  MOST_ROWS : ∃ t, mg "MOST_ROWS" = some (.int 400 t)
  MOST_POWER : ∃ t, mg "MOST_POWER" = some (.int 200 t)
  MAX_POWER : ∃ t, mg "MAX_POWER" = some (.int 20 t)
  MOST_VALUE : ∃ t, mg "MOST_VALUE" = some (.int 1000 t)
  ROW_SIZE : ∃ t, mg "ROW_SIZE" = some (.int 3 t)
  SIXTY : ∃ t, mg "SIXTY" = some (.int 1000000000000000000000000000000000000000000000000000000000000 t)
  MOST_PARTED : ∃ t, mg "MOST_PARTED" = some (.int 6 t)
  gcd : mg "gcd" = some (.builtin "math.gcd")
structure Cl (K : PySem.W.Frag) (mg : Str → Option Value) (cls : Nat → Addr) : Prop where
  g_KnownTerms : mg "KnownTerms" = some (.ref (cls 0))
  i_KnownTerms : ∀ c, c < 2 → CIsi K cls c 0
  g_Poly : mg "Poly" = some (.ref (cls 1))
  i_Poly : ∀ c, c < 2 → CIsi K cls c 1
  s_own_dict : CSl K (cls 0) "own_dict" 0
  s_own_terms : CSl K (cls 1) "own_terms" 0
def N_law_dice : List Str := ["script", "at", "cell", "great", "left", "mixed"]
theorem sc_law_dice : FnScope N_law_dice ["script", "at"] (defScope (top 51)) := ⟨rfl, rfl, rfl, by decide +kernel, rfl, by decide +kernel, by decide +kernel⟩
def N_law_roll : List Str := ["dice", "total", "size", "drawn", "one", "two"]
theorem sc_law_roll : FnScope N_law_roll ["dice", "total"] (defScope (top 52)) := ⟨rfl, rfl, rfl, by decide +kernel, rfl, by decide +kernel, by decide +kernel⟩
def N_inversions_in : List Str := ["blocks", "found", "at", "block", "later", "one"]
theorem sc_inversions_in : FnScope N_inversions_in ["blocks"] (defScope (top 40)) := ⟨rfl, rfl, rfl, by decide +kernel, rfl, by decide +kernel, by decide +kernel⟩
def N_is_whole_number : List Str := ["value"]
theorem sc_is_whole_number : FnScope N_is_whole_number ["value"] (defScope (top 14)) := ⟨rfl, rfl, rfl, by decide +kernel, rfl, by decide +kernel, by decide +kernel⟩
def N_is_within : List Str := ["value", "least", "most"]
theorem sc_is_within : FnScope N_is_within ["value", "least", "most"] (defScope (top 16)) := ⟨rfl, rfl, rfl, by decide +kernel, rfl, by decide +kernel, by decide +kernel⟩
def N_is_block : List Str := ["size", "value", "one", "later"]
theorem sc_is_block : FnScope N_is_block ["size", "value"] (defScope (top 38)) := ⟨rfl, rfl, rfl, by decide +kernel, rfl, by decide +kernel, by decide +kernel⟩
def N_is_parting_in : List Str := ["size", "value", "block", "one"]
theorem sc_is_parting_in : FnScope N_is_parting_in ["size", "value"] (defScope (top 39)) := ⟨rfl, rfl, rfl, by decide +kernel, rfl, by decide +kernel, by decide +kernel⟩
def N_inversions : List Str := ["parting", "size"]
theorem sc_inversions : FnScope N_inversions ["parting"] (defScope (top 48)) := ⟨rfl, rfl, rfl, by decide +kernel, rfl, by decide +kernel, by decide +kernel⟩
def N_law_partings : List Str := ["size", "blocks", "found", "number", "later", "row", "at"]
theorem sc_law_partings : FnScope N_law_partings ["size", "blocks"] (defScope (top 57)) := ⟨rfl, rfl, rfl, by decide +kernel, rfl, by decide +kernel, by decide +kernel⟩
def N_law_rows : List Str := ["poly", "key"]
theorem sc_law_rows : FnScope N_law_rows ["poly"] (defScope (top 55)) := ⟨rfl, rfl, rfl, by decide +kernel, rfl, by decide +kernel, by decide +kernel⟩
def N_law_one_of : List Str := ["dice", "items"]
theorem sc_law_one_of : FnScope N_law_one_of ["dice", "items"] (defScope (top 53)) := ⟨rfl, rfl, rfl, by decide +kernel, rfl, by decide +kernel, by decide +kernel⟩
def N_law_near_parting : List Str := ["dice", "size", "parting", "found", "at", "block", "other", "one"]
theorem sc_law_near_parting : FnScope N_law_near_parting ["dice", "size", "parting"] (defScope (top 64)) := ⟨rfl, rfl, rfl, by decide +kernel, rfl, by decide +kernel, by decide +kernel⟩
def N_Poly_rows : List Str := ["self", "powers", "number"]
theorem sc_Poly_rows : FnScope N_Poly_rows ["self"] (defScope (mtop 20 4)) := ⟨rfl, rfl, rfl, by decide +kernel, rfl, by decide +kernel, by decide +kernel⟩
def N_law_times : List Str := ["one", "other", "found", "i", "j", "k", "m", "key"]
theorem sc_law_times : FnScope N_law_times ["one", "other"] (defScope (top 56)) := ⟨rfl, rfl, rfl, by decide +kernel, rfl, by decide +kernel, by decide +kernel⟩
def N_law_plus : List Str := ["one", "other", "often", "found", "key"]
theorem sc_law_plus : FnScope N_law_plus ["one", "other", "often"] (defScope (top 54)) := ⟨rfl, rfl, rfl, by decide +kernel, rfl, by decide +kernel, by decide +kernel⟩
def N_law_steps_of : List Str := ["many", "power"]
theorem sc_law_steps_of : FnScope N_law_steps_of ["many"] (defScope (top 60)) := ⟨rfl, rfl, rfl, by decide +kernel, rfl, by decide +kernel, by decide +kernel⟩
def N_law_stirling : List Str := ["size", "blocks", "more"]
theorem sc_law_stirling : FnScope N_law_stirling ["size", "blocks"] (defScope (top 61)) := ⟨rfl, rfl, rfl, by decide +kernel, rfl, by decide +kernel, by decide +kernel⟩
def N_law_parted : List Str := ["size", "blocks", "found", "number"]
theorem sc_law_parted : FnScope N_law_parted ["size", "blocks"] (defScope (top 62)) := ⟨rfl, rfl, rfl, by decide +kernel, rfl, by decide +kernel, by decide +kernel⟩
def N_law_upside : List Str := ["row", "found", "at", "block", "later", "one"]
theorem sc_law_upside : FnScope N_law_upside ["row"] (defScope (top 58)) := ⟨rfl, rfl, rfl, by decide +kernel, rfl, by decide +kernel, by decide +kernel⟩
def N_law_by_upside : List Str := ["rows", "found", "row", "key"]
theorem sc_law_by_upside : FnScope N_law_by_upside ["rows"] (defScope (top 59)) := ⟨rfl, rfl, rfl, by decide +kernel, rfl, by decide +kernel, by decide +kernel⟩
def N_number_power : List Str := ["number", "many", "found", "turn"]
theorem sc_number_power : FnScope N_number_power ["number", "many"] (defScope (top 30)) := ⟨rfl, rfl, rfl, by decide +kernel, rfl, by decide +kernel, by decide +kernel⟩
def N_power_pair : List Str := ["number", "power"]
theorem sc_power_pair : FnScope N_power_pair ["number", "power"] (defScope (top 31)) := ⟨rfl, rfl, rfl, by decide +kernel, rfl, by decide +kernel, by decide +kernel⟩
def N_span_of : List Str := ["poly", "place", "some", "powers"]
theorem sc_span_of : FnScope N_span_of ["poly", "place"] (defScope (top 29)) := ⟨rfl, rfl, rfl, by decide +kernel, rfl, by decide +kernel, by decide +kernel⟩
def N_value_at : List Str := ["poly", "q", "t", "low", "least", "some", "whole", "first", "under", "last", "below", "top", "bottom", "share", "i", "j", "entry"]
theorem sc_value_at : FnScope N_value_at ["poly", "q", "t"] (defScope (top 32)) := ⟨rfl, rfl, rfl, by decide +kernel, rfl, by decide +kernel, by decide +kernel⟩
def N_Poly_at : List Str := ["self", "q", "t", "value"]
theorem sc_Poly_at : FnScope N_Poly_at ["self", "q", "t"] (defScope (mtop 20 10)) := ⟨rfl, rfl, rfl, by decide +kernel, rfl, by decide +kernel, by decide +kernel⟩
def N_require_parted : List Str := ["size"]
theorem sc_require_parted : FnScope N_require_parted ["size"] (defScope (top 44)) := ⟨rfl, rfl, rfl, by decide +kernel, rfl, by decide +kernel, by decide +kernel⟩
def N_require_blocks : List Str := ["size", "blocks"]
theorem sc_require_blocks : FnScope N_require_blocks ["size", "blocks"] (defScope (top 45)) := ⟨rfl, rfl, rfl, by decide +kernel, rfl, by decide +kernel, by decide +kernel⟩
def N_blocks_with : List Str := ["blocks", "number", "at"]
theorem sc_blocks_with : FnScope N_blocks_with ["blocks", "number"] (defScope (top 36)) := ⟨rfl, rfl, rfl, by decide +kernel, rfl, by decide +kernel, by decide +kernel⟩
def N_partings_in : List Str := ["size", "many", "found", "number", "blocks", "later", "block"]
theorem sc_partings_in : FnScope N_partings_in ["size", "many"] (defScope (top 37)) := ⟨rfl, rfl, rfl, by decide +kernel, rfl, by decide +kernel, by decide +kernel⟩
def N_partings : List Str := ["size", "blocks", "parting"]
theorem sc_partings : GScope N_partings ["size", "blocks"] (defScope (top 46)) := ⟨rfl, rfl, rfl, by decide +kernel, rfl, by decide +kernel, by decide +kernel⟩
def N_is_integer : List Str := ["value"]
theorem sc_is_integer : FnScope N_is_integer ["value"] (defScope (top 15)) := ⟨rfl, rfl, rfl, by decide +kernel, rfl, by decide +kernel, by decide +kernel⟩
def N_is_row : List Str := ["value", "entry"]
theorem sc_is_row : FnScope N_is_row ["value"] (defScope (top 17)) := ⟨rfl, rfl, rfl, by decide +kernel, rfl, by decide +kernel, by decide +kernel⟩
def N_are_rows : List Str := ["value", "row", "later"]
theorem sc_are_rows : FnScope N_are_rows ["value"] (defScope (top 18)) := ⟨rfl, rfl, rfl, by decide +kernel, rfl, by decide +kernel, by decide +kernel⟩
def N_Poly_init : List Str := ["self", "rows", "row"]
theorem sc_Poly_init : FnScope N_Poly_init ["self", "rows"] (defScope (mtop 20 1)) := ⟨rfl, rfl, rfl, by decide +kernel, rfl, by decide +kernel, by decide +kernel⟩
def N_KnownTerms_init : List Str := ["self", "terms"]
theorem sc_KnownTerms_init : FnScope N_KnownTerms_init ["self", "terms"] (defScope (mtop 19 1)) := ⟨rfl, rfl, rfl, by decide +kernel, rfl, by decide +kernel, by decide +kernel⟩
def N_poly_of : List Str := ["terms", "powers"]
theorem sc_poly_of : FnScope N_poly_of ["terms"] (defScope (top 21)) := ⟨rfl, rfl, rfl, by decide +kernel, rfl, by decide +kernel, by decide +kernel⟩
def N_one_poly : List Str := []
theorem sc_one_poly : FnScope N_one_poly [] (defScope (top 23)) := ⟨rfl, rfl, rfl, by decide +kernel, rfl, by decide +kernel, by decide +kernel⟩
def N_times_in : List Str := ["one", "other", "found", "i", "j", "first", "k", "m", "last"]
theorem sc_times_in : FnScope N_times_in ["one", "other"] (defScope (top 26)) := ⟨rfl, rfl, rfl, by decide +kernel, rfl, by decide +kernel, by decide +kernel⟩
def N_poly_product : List Str := ["polys", "found", "poly"]
theorem sc_poly_product : FnScope N_poly_product ["polys"] (defScope (top 27)) := ⟨rfl, rfl, rfl, by decide +kernel, rfl, by decide +kernel, by decide +kernel⟩
def N_poly_sum : List Str := ["polys", "found", "poly", "powers", "entry"]
theorem sc_poly_sum : FnScope N_poly_sum ["polys"] (defScope (top 25)) := ⟨rfl, rfl, rfl, by decide +kernel, rfl, by decide +kernel, by decide +kernel⟩
def N_steps_poly : List Str := ["many", "power"]
theorem sc_steps_poly : FnScope N_steps_poly ["many"] (defScope (top 41)) := ⟨rfl, rfl, rfl, by decide +kernel, rfl, by decide +kernel, by decide +kernel⟩
def N_zero_poly : List Str := []
theorem sc_zero_poly : FnScope N_zero_poly [] (defScope (top 22)) := ⟨rfl, rfl, rfl, by decide +kernel, rfl, by decide +kernel, by decide +kernel⟩
def N_stirling_in : List Str := ["size", "many", "more"]
theorem sc_stirling_in : FnScope N_stirling_in ["size", "many"] (defScope (top 42)) := ⟨rfl, rfl, rfl, by decide +kernel, rfl, by decide +kernel, by decide +kernel⟩
def N_parting_polynomial_in : List Str := ["size", "many", "one"]
theorem sc_parting_polynomial_in : FnScope N_parting_polynomial_in ["size", "many"] (defScope (top 43)) := ⟨rfl, rfl, rfl, by decide +kernel, rfl, by decide +kernel, by decide +kernel⟩
def N_parting_polynomial : List Str := ["size", "blocks"]
theorem sc_parting_polynomial : FnScope N_parting_polynomial ["size", "blocks"] (defScope (top 49)) := ⟨rfl, rfl, rfl, by decide +kernel, rfl, by decide +kernel, by decide +kernel⟩
def N_is_parting : List Str := ["size", "value"]
theorem sc_is_parting : FnScope N_is_parting ["size", "value"] (defScope (top 47)) := ⟨rfl, rfl, rfl, by decide +kernel, rfl, by decide +kernel, by decide +kernel⟩
def N_law_is_parting : List Str := ["size", "value", "some", "block", "one", "other"]
theorem sc_law_is_parting : FnScope N_law_is_parting ["size", "value"] (defScope (top 63)) := ⟨rfl, rfl, rfl, by decide +kernel, rfl, by decide +kernel, by decide +kernel⟩
def N_law_right : List Str := ["dice", "size", "blocks", "own", "turn", "parting", "value"]
theorem sc_law_right : FnScope N_law_right ["dice"] (defScope (top 65)) := ⟨rfl, rfl, rfl, by decide +kernel, rfl, by decide +kernel, by decide +kernel⟩
def N_law : List Str := ["script", "at", "dice", "blocks"]
theorem sc_law : FnScope N_law ["script"] (defScope (top 66)) := ⟨rfl, rfl, rfl, by decide +kernel, rfl, by decide +kernel, by decide +kernel⟩
end T

-- text H
set_option Elab.async false
set_option linter.all false
set_option maxRecDepth 100000
set_option maxHeartbeats 0
namespace Hd
open PySem PySem.Spec PyProof.Rows L2
abbrev top (i : Nat) : Stmt := T.top i
def d_law_dice : He.DefD := ⟨("_law_dice", none), "_law_dice", "_law_dice", defArgs (top 51), defBody (top 51), defScope (top 51), [], []⟩
def d_law_roll : He.DefD := ⟨("_law_roll", none), "_law_roll", "_law_roll", defArgs (top 52), defBody (top 52), defScope (top 52), [], []⟩
def d_inversions_in : He.DefD := ⟨("inversions_in", none), "inversions_in", "inversions_in", defArgs (top 40), defBody (top 40), defScope (top 40), [], []⟩
def d_is_whole_number : He.DefD := ⟨("is_whole_number", none), "is_whole_number", "is_whole_number", defArgs (top 14), defBody (top 14), defScope (top 14), [], []⟩
def d_is_within : He.DefD := ⟨("is_within", none), "is_within", "is_within", defArgs (top 16), defBody (top 16), defScope (top 16), [], []⟩
def d_is_block : He.DefD := ⟨("is_block", none), "is_block", "is_block", defArgs (top 38), defBody (top 38), defScope (top 38), [], []⟩
def d_is_parting_in : He.DefD := ⟨("is_parting_in", none), "is_parting_in", "is_parting_in", defArgs (top 39), defBody (top 39), defScope (top 39), [], []⟩
def d_inversions : He.DefD := ⟨("inversions", none), "inversions", "inversions", defArgs (top 48), defBody (top 48), defScope (top 48), [], []⟩
def d_law_partings : He.DefD := ⟨("_law_partings", none), "_law_partings", "_law_partings", defArgs (top 57), defBody (top 57), defScope (top 57), [], []⟩
def d_law_rows : He.DefD := ⟨("_law_rows", none), "_law_rows", "_law_rows", defArgs (top 55), defBody (top 55), defScope (top 55), [], []⟩
def d_law_one_of : He.DefD := ⟨("_law_one_of", none), "_law_one_of", "_law_one_of", defArgs (top 53), defBody (top 53), defScope (top 53), [], []⟩
def d_law_near_parting : He.DefD := ⟨("_law_near_parting", none), "_law_near_parting", "_law_near_parting", defArgs (top 64), defBody (top 64), defScope (top 64), [], []⟩
def d_Poly_rows : He.DefD := ⟨("Poly", some "rows"), "rows", "Poly.rows", defArgs (T.mtop 20 4), defBody (T.mtop 20 4), defScope (T.mtop 20 4), [], []⟩
def d_law_times : He.DefD := ⟨("_law_times", none), "_law_times", "_law_times", defArgs (top 56), defBody (top 56), defScope (top 56), [], []⟩
def d_law_plus : He.DefD := ⟨("_law_plus", none), "_law_plus", "_law_plus", defArgs (top 54), defBody (top 54), defScope (top 54), [], []⟩
def d_law_steps_of : He.DefD := ⟨("_law_steps_of", none), "_law_steps_of", "_law_steps_of", defArgs (top 60), defBody (top 60), defScope (top 60), [], []⟩
def d_law_stirling : He.DefD := ⟨("_law_stirling", none), "_law_stirling", "_law_stirling", defArgs (top 61), defBody (top 61), defScope (top 61), [], []⟩
def d_law_parted : He.DefD := ⟨("_law_parted", none), "_law_parted", "_law_parted", defArgs (top 62), defBody (top 62), defScope (top 62), [], []⟩
def d_law_upside : He.DefD := ⟨("_law_upside", none), "_law_upside", "_law_upside", defArgs (top 58), defBody (top 58), defScope (top 58), [], []⟩
def d_law_by_upside : He.DefD := ⟨("_law_by_upside", none), "_law_by_upside", "_law_by_upside", defArgs (top 59), defBody (top 59), defScope (top 59), [], []⟩
def d_number_power : He.DefD := ⟨("number_power", none), "number_power", "number_power", defArgs (top 30), defBody (top 30), defScope (top 30), [], []⟩
def d_power_pair : He.DefD := ⟨("power_pair", none), "power_pair", "power_pair", defArgs (top 31), defBody (top 31), defScope (top 31), [], []⟩
def d_span_of : He.DefD := ⟨("span_of", none), "span_of", "span_of", defArgs (top 29), defBody (top 29), defScope (top 29), [], []⟩
def d_value_at : He.DefD := ⟨("value_at", none), "value_at", "value_at", defArgs (top 32), defBody (top 32), defScope (top 32), [], []⟩
def d_Poly_at : He.DefD := ⟨("Poly", some "at"), "at", "Poly.at", defArgs (T.mtop 20 10), defBody (T.mtop 20 10), defScope (T.mtop 20 10), [], []⟩
def d_require_parted : He.DefD := ⟨("require_parted", none), "require_parted", "require_parted", defArgs (top 44), defBody (top 44), defScope (top 44), [], []⟩
def d_require_blocks : He.DefD := ⟨("require_blocks", none), "require_blocks", "require_blocks", defArgs (top 45), defBody (top 45), defScope (top 45), [], []⟩
def d_blocks_with : He.DefD := ⟨("blocks_with", none), "blocks_with", "blocks_with", defArgs (top 36), defBody (top 36), defScope (top 36), [], []⟩
def d_partings_in : He.DefD := ⟨("partings_in", none), "partings_in", "partings_in", defArgs (top 37), defBody (top 37), defScope (top 37), [], []⟩
def d_partings : He.DefD := ⟨("partings", none), "partings", "partings", defArgs (top 46), defBody (top 46), defScope (top 46), [], []⟩
def d_is_integer : He.DefD := ⟨("is_integer", none), "is_integer", "is_integer", defArgs (top 15), defBody (top 15), defScope (top 15), [], []⟩
def d_is_row : He.DefD := ⟨("is_row", none), "is_row", "is_row", defArgs (top 17), defBody (top 17), defScope (top 17), [], []⟩
def d_are_rows : He.DefD := ⟨("are_rows", none), "are_rows", "are_rows", defArgs (top 18), defBody (top 18), defScope (top 18), [], []⟩
def d_Poly_init : He.DefD := ⟨("Poly", some "__init__"), "__init__", "Poly.__init__", defArgs (T.mtop 20 1), defBody (T.mtop 20 1), defScope (T.mtop 20 1), [], []⟩
def d_KnownTerms_init : He.DefD := ⟨("KnownTerms", some "__init__"), "__init__", "KnownTerms.__init__", defArgs (T.mtop 19 1), defBody (T.mtop 19 1), defScope (T.mtop 19 1), [], []⟩
def d_poly_of : He.DefD := ⟨("poly_of", none), "poly_of", "poly_of", defArgs (top 21), defBody (top 21), defScope (top 21), [], []⟩
def d_one_poly : He.DefD := ⟨("one_poly", none), "one_poly", "one_poly", defArgs (top 23), defBody (top 23), defScope (top 23), [], []⟩
def d_times_in : He.DefD := ⟨("times_in", none), "times_in", "times_in", defArgs (top 26), defBody (top 26), defScope (top 26), [], []⟩
def d_poly_product : He.DefD := ⟨("poly_product", none), "poly_product", "poly_product", defArgs (top 27), defBody (top 27), defScope (top 27), [], []⟩
def d_poly_sum : He.DefD := ⟨("poly_sum", none), "poly_sum", "poly_sum", defArgs (top 25), defBody (top 25), defScope (top 25), [], []⟩
def d_steps_poly : He.DefD := ⟨("steps_poly", none), "steps_poly", "steps_poly", defArgs (top 41), defBody (top 41), defScope (top 41), [], []⟩
def d_zero_poly : He.DefD := ⟨("zero_poly", none), "zero_poly", "zero_poly", defArgs (top 22), defBody (top 22), defScope (top 22), [], []⟩
def d_stirling_in : He.DefD := ⟨("stirling_in", none), "stirling_in", "stirling_in", defArgs (top 42), defBody (top 42), defScope (top 42), [], []⟩
def d_parting_polynomial_in : He.DefD := ⟨("parting_polynomial_in", none), "parting_polynomial_in", "parting_polynomial_in", defArgs (top 43), defBody (top 43), defScope (top 43), [], []⟩
def d_parting_polynomial : He.DefD := ⟨("parting_polynomial", none), "parting_polynomial", "parting_polynomial", defArgs (top 49), defBody (top 49), defScope (top 49), [], []⟩
def d_is_parting : He.DefD := ⟨("is_parting", none), "is_parting", "is_parting", defArgs (top 47), defBody (top 47), defScope (top 47), [], []⟩
def d_law_is_parting : He.DefD := ⟨("_law_is_parting", none), "_law_is_parting", "_law_is_parting", defArgs (top 63), defBody (top 63), defScope (top 63), [], []⟩
def d_law_right : He.DefD := ⟨("_law_right", none), "_law_right", "_law_right", defArgs (top 65), defBody (top 65), defScope (top 65), [], []⟩
def d_law : He.DefD := ⟨("law", none), "law", "law", defArgs (top 66), defBody (top 66), defScope (top 66), [], []⟩
def fn0 : List He.DefD := [d_law_dice, d_law_roll, d_inversions_in, d_is_whole_number, d_is_within, d_is_block, d_is_parting_in, d_inversions, d_law_partings, d_law_rows, d_law_one_of, d_law_near_parting, d_law_times, d_law_plus, d_law_steps_of, d_law_stirling, d_law_parted, d_law_upside]
def fn1 : List He.DefD := [d_law_by_upside, d_number_power, d_power_pair, d_span_of, d_value_at, d_Poly_at, d_require_parted, d_require_blocks, d_blocks_with, d_partings_in, d_partings, d_is_integer, d_is_row, d_are_rows, d_Poly_init, d_KnownTerms_init, d_poly_of, d_one_poly]
def fn2 : List He.DefD := [d_times_in, d_poly_product, d_poly_sum, d_steps_poly, d_zero_poly, d_stirling_in, d_parting_polynomial_in, d_parting_polynomial, d_is_parting, d_law_is_parting, d_law_right, d_law]
def fn : List He.DefD := fn0 ++ fn1 ++ fn2
def pr0 : List He.DefD := [d_Poly_rows]
def pr : List He.DefD := pr0
def fa0 : List He.Fa := [.glo "_law_dice", .glo "_law_roll", .glo "inversions_in", .glo "is_whole_number", .glo "is_within", .glo "is_block", .glo "is_parting_in", .glo "inversions", .glo "_law_partings", .glo "_law_rows", .glo "_law_one_of", .glo "_law_near_parting", .glo "_law_times", .glo "_law_plus", .glo "_law_steps_of", .glo "_law_stirling", .glo "_law_parted", .glo "_law_upside"]
def fa1 : List He.Fa := [.glo "_law_by_upside", .glo "number_power", .glo "power_pair", .glo "span_of", .glo "value_at", .meth "Poly" "at", .glo "require_parted", .glo "require_blocks", .glo "blocks_with", .glo "partings_in", .glo "partings", .glo "is_integer", .glo "is_row", .glo "are_rows", .mkr "Poly", .mkr "KnownTerms", .glo "poly_of", .glo "one_poly"]
def fa2 : List He.Fa := [.glo "times_in", .glo "poly_product", .glo "poly_sum", .glo "steps_poly", .glo "zero_poly", .glo "stirling_in", .glo "parting_polynomial_in", .glo "parting_polynomial", .glo "is_parting", .glo "_law_is_parting", .glo "_law_right", .glo "law", .glo "KnownTerms", .glo "Poly", .free "len", .free "range", .free "tuple", .free "list"]
def fa3 : List He.Fa := [.free "zip", .free "enumerate", .free "all", .free "any", .free "sum", .free "sorted", .free "isinstance", .free "int", .free "bool", .free "abs", .free "repr", .free "dict", .free "min", .free "max", .free "str", .int "MOST_ROWS" 400, .int "MOST_POWER" 200, .int "MAX_POWER" 20]
def fa4 : List He.Fa := [.int "MOST_VALUE" 1000, .int "ROW_SIZE" 3, .int "SIXTY" 1000000000000000000000000000000000000000000000000000000000000, .int "MOST_PARTED" 6]
def fa : List He.Fa := fa0 ++ fa1 ++ fa2 ++ fa3 ++ fa4
def exs0 : List (PySem.W.Frag → Bool) := [fun K => Hp.propB K (He.ga K "Poly") "rows", fun K => Hp.sclsB K (He.ga K "Poly"), fun K => Hp.sclsB K (He.ga K "KnownTerms"), fun K => Hp.isiB K (He.ga K "KnownTerms"), fun K => Hp.kitB K (He.ga K "KnownTerms") (He.ga K "KnownTerms") true, fun K => Hp.kitB K (He.ga K "KnownTerms") (He.ga K "Poly") false, fun K => Hp.isiB K (He.ga K "Poly"), fun K => Hp.kitB K (He.ga K "Poly") (He.ga K "KnownTerms") false, fun K => Hp.kitB K (He.ga K "Poly") (He.ga K "Poly") true, fun K => Hp.slotB K (He.ga K "KnownTerms") "own_dict" 0, fun K => Hp.slotB K (He.ga K "Poly") "own_terms" 0, fun K => Hp.builtB K "gcd" "math.gcd"]
def exs : List (PySem.W.Frag → Bool) := exs0
def ex (K : PySem.W.Frag) : Bool := exs.all fun e => e K
abbrev R : PySem.W.OpenRow := PySem.W.OpenLaw.row PySem.Challenge.rw_armrises_k80_whole_ordered_partings
abbrev qv : Program := PySem.W.view R.prog [0, 66]
abbrev hk : PySem.W.Hook := Hp.hookP 6 fa fn pr ex
def ob (s : PySem.W.SharedT) : Hp.AlP := Hp.obsP 6 fa fn pr ex (HandSHeadRun.getT s)
theorem ob_eq (s : PySem.W.SharedT) : ob s = hk.obs s.abs := Hp.obsP_eq (HandSHeadRun.getT_eq s)
def names0 : List PySem.Str := ["_wall", "ArmError", "InvalidPoly", "InvalidOperation", "InvalidNumber", "MOST_ROWS", "MOST_POWER", "MAX_POWER", "MOST_VALUE", "ROW_SIZE", "SIXTY", "is_whole_number", "is_integer", "is_within", "is_row", "are_rows", "KnownTerms", "Poly"]
def names1 : List PySem.Str := ["poly_of", "zero_poly", "one_poly", "poly_plus", "poly_sum", "times_in", "poly_product", "poly_scaled", "span_of", "number_power", "power_pair", "value_at", "require_operand", "MOST_PARTED", "blocks_with", "partings_in", "is_block", "is_parting_in"]
def names2 : List PySem.Str := ["inversions_in", "steps_poly", "stirling_in", "parting_polynomial_in", "require_parted", "require_blocks", "partings", "is_parting", "inversions", "parting_polynomial", "_law_dice", "_law_roll", "_law_one_of", "_law_plus", "_law_rows", "_law_times", "_law_partings", "_law_upside"]
def names3 : List PySem.Str := ["_law_by_upside", "_law_steps_of", "_law_stirling", "_law_parted", "_law_is_parting", "_law_near_parting", "_law_right"]
def names : List PySem.Str := names0 ++ names1 ++ names2 ++ names3
theorem run (w : World) : HandSHeadRun.RunEqI R qv hk ob 60000 names w := by
  unfold HandSHeadRun.RunEqI
  kernel_rfl
end Hd

-- text U1
set_option Elab.async false
set_option linter.all false
set_option maxRecDepth 100000
set_option maxHeartbeats 4000000
namespace T
open PySem L2 PyProof.Rows
section
variable {P : Program} {w : World} {K : PySem.W.Frag} {mg : Str → Option Value} {base : Heap} {cls : Nat → Addr}
def s_law_dice : Gam → OutS := (sSeq (sSet 2 (eOp fAdd (fO (eOp fMulA (fO (eC (.int 113))) (oSl 1))) (fO (eC (.int 71))))) (sSeq (sIf (toT (eOp fLtA (oSl 1) (fO (eCall bLen (aCons (oSl 0) aNil))))) (sSeq (sSet 2 (eOp fIxD (oSl 0) (oSl 1))) sNx) sNx) (sSeq (sSet 3 (eOp fMod (fO (eCall bInt (aCons (fO (eCall bAbs (aCons (oSl 2) aNil))) aNil))) (fO (eOp fPow (fO (eOp fPow (fO (eC (.int 10))) (fO (eC (.int 61))))) (fO (eC (.int 10))))))) (sSeq (sSet 4 (eOp fDiv (oSl 3) (fO (eOp fPow (fO (eC (.int 10))) (fO (eC (.int 18))))))) (sSeq (sSet 5 (eOp fAdd (fO (eOp fAdd (fO (eOp fAdd (fO (eOp fMulA (fO (eOp fMod (oSl 3) (fO (eC (.int 2147482417))))) (fO (eC (.int 70001))))) (fO (eOp fMulA (fO (eC (.int 4099))) (oSl 1))))) (fO (eOp fMulA (fO (eC (.int 113))) (fO (eCall bInt (aCons (fO (eOp fLtA (oSl 2) (fO (eC (.int 0))))) aNil))))))) (fO (eC (.int 149))))) (sSeq (sRet (eLst (aCons (fO (eRd 4)) (aCons (fO (eOp fMod (oSl 5) (fO (eC (.int 2147482409))))) (aCons (fO (eC (.int 0))) aNil))))) sNx))))))
def B_law_dice : Gam → Out R := fnB 4 s_law_dice
theorem ok_law_dice (B : Blt mg) (CC : Cl K mg cls) (h : Here K mg "_law_dice" 51) : Has P w K mg base cls 1 "_law_dice" 2 B_law_dice := by
  obtain ⟨f, fd, FP, g⟩ := h.ex
  have nd := sc_law_dice.nd
  refine ⟨f, fd, ["script", "at"], FP.ok (N := N_law_dice) sc_law_dice (fun vs H Q E h => h.1) (fun cdv A outer s H vs Q E hr h => ⟨_, PSs.nox ?_, fn_reads (N := N_law_dice) (m := 4) rfl vs Q E h⟩), g, FP.kp, FP.bindsN fun _ _ _ _ _ _ us hl => match us, hl with | [_, _], _ => rfl⟩
  exact (tps_cons (stv 2 nd (tpe_op op_addA (ok_add rfl) (to_val (tpe_op op_mulA (ok_mulA rfl) (to_val cI) (sl 1))) (to_val cI))) (tps_cons (tps_if (cmT (op_ltA hr.units) (ok_ltA rfl) (sl 1) (to_val (cb call_len_seq (ok_len rfl) B.len rfl (a1 (sl 0) tpa_nil)))) (tps_cons (stv 2 nd (ixd hr.units rfl (sl 0) (sl 1))) tps_nil) tps_nil) (tps_cons (stv 3 nd (tpe_op op_mod ok_mod (to_val (ct call_int1 ok_intc B.int rfl (a1 (to_val (cb call_abs ok_abs B.abs rfl (a1 (sl 2) tpa_nil))) tpa_nil))) (to_val (tpe_op op_powW ok_pow (to_val (tpe_op op_powW ok_pow (to_val cI) (to_val cI))) (to_val cI))))) (tps_cons (stv 4 nd (tpe_op op_fdivW ok_div (sl 3) (to_val (tpe_op op_powW ok_pow (to_val cI) (to_val cI))))) (tps_cons (stv 5 nd (tpe_op op_addA (ok_add rfl) (to_val (tpe_op op_addA (ok_add rfl) (to_val (tpe_op op_addA (ok_add rfl) (to_val (tpe_op op_mulA (ok_mulA rfl) (to_val (tpe_op op_mod ok_mod (sl 3) (to_val cI))) (to_val cI))) (to_val (tpe_op op_mulA (ok_mulA rfl) (to_val cI) (sl 1))))) (to_val (tpe_op op_mulA (ok_mulA rfl) (to_val cI) (to_val (ct call_int1 ok_intc B.int rfl (a1 (to_val (cm (op_ltA hr.units) (ok_ltA rfl) (sl 2) (to_val cI))) tpa_nil))))))) (to_val cI))) (tps_cons (tps_ret (tpe_lst (a1 (to_val (rd 4)) (a1 (to_val (tpe_op op_mod ok_mod (sl 5) (to_val cI))) (a1 (to_val cI) tpa_nil))))) tps_nil))))))
abbrev F_law_dice := B_law_dice
def s_law_roll : Gam → OutS := (sSeq (sSet 2 (eCall bInt (aCons (oSl 1) aNil))) (sSeq (sIf (toT (eOp fGt (fO (eOp fIxD (oSl 0) (fO (eC (.int 0))))) (fO (eC (.int 0))))) (sSeq (sSet 3 (eOp fMod (fO (eOp fIxD (oSl 0) (fO (eC (.int 0))))) (oSl 2))) (sSeq (sPut 0 (fO (eOp fDiv (fO (eOp fIxD (oSl 0) (fO (eC (.int 0))))) (oSl 2))) (fO (eC (.int 0)))) (sSeq (sRet (eCall bInt (aCons (oSl 3) aNil))) sNx))) sNx) (sSeq (sPut 0 (fO (eOp fAdd (fO (eOp fIxD (oSl 0) (fO (eC (.int 2))))) (fO (eC (.int 1))))) (fO (eC (.int 2)))) (sSeq (sSet 4 (eOp fMod (fO (eOp fAdd (fO (eOp fIxD (oSl 0) (fO (eC (.int 1))))) (fO (eOp fMulA (fO (eC (.int 1000409))) (fO (eOp fIxD (oSl 0) (fO (eC (.int 2))))))))) (fO (eC (.int 2305843009213693951))))) (sSeq (sSet 5 (eOp fAdd (fO (eOp fMulA (fO (eOp fMod (fO (eOp fMulA (oSl 4) (oSl 4))) (fO (eC (.int 2305843009213693921))))) (oSl 4))) (fO (eOp fMulA (fO (eC (.int 9533))) (fO (eOp fIxD (oSl 0) (fO (eC (.int 2))))))))) (sSeq (sSet 5 (eOp fMod (oSl 5) (fO (eC (.int 2305843009213693907))))) (sSeq (sRet (eCall bInt (aCons (fO (eOp fMod (fO (eOp fDiv (oSl 5) (fO (eC (.int 4096))))) (oSl 2))) aNil))) sNx)))))))
def B_law_roll : Gam → Out R := fnB 4 s_law_roll
theorem ok_law_roll (B : Blt mg) (CC : Cl K mg cls) (h : Here K mg "_law_roll" 52) : Has P w K mg base cls 1 "_law_roll" 2 B_law_roll := by
  obtain ⟨f, fd, FP, g⟩ := h.ex
  have nd := sc_law_roll.nd
  refine ⟨f, fd, ["dice", "total"], FP.ok (N := N_law_roll) sc_law_roll (fun vs H Q E h => h.1) (fun cdv A outer s H vs Q E hr h => ⟨_, PSs.nox ?_, fn_reads (N := N_law_roll) (m := 4) rfl vs Q E h⟩), g, FP.kp, FP.bindsN fun _ _ _ _ _ _ us hl => match us, hl with | [_, _], _ => rfl⟩
  exact (tps_cons (stv 2 nd (ct call_int1 ok_intc B.int rfl (a1 (sl 1) tpa_nil))) (tps_cons (tps_if (cmT op_gt ok_gt (to_val (ixd hr.units rfl (sl 0) (to_val cI))) (to_val cI)) (tps_cons (stv 3 nd (tpe_op op_mod ok_mod (to_val (ixd hr.units rfl (sl 0) (to_val cI))) (sl 2))) (tps_cons (pu hr.units (sl 0) (to_val cI) (to_val (tpe_op op_fdivW ok_div (to_val (ixd hr.units rfl (sl 0) (to_val cI))) (sl 2)))) (tps_cons (tps_ret (ct call_int1 ok_intc B.int rfl (a1 (sl 3) tpa_nil))) tps_nil))) tps_nil) (tps_cons (pu hr.units (sl 0) (to_val cI) (to_val (tpe_op op_addA (ok_add rfl) (to_val (ixd hr.units rfl (sl 0) (to_val cI))) (to_val cI)))) (tps_cons (stv 4 nd (tpe_op op_mod ok_mod (to_val (tpe_op op_addA (ok_add rfl) (to_val (ixd hr.units rfl (sl 0) (to_val cI))) (to_val (tpe_op op_mulA (ok_mulA rfl) (to_val cI) (to_val (ixd hr.units rfl (sl 0) (to_val cI))))))) (to_val cI))) (tps_cons (stv 5 nd (tpe_op op_addA (ok_add rfl) (to_val (tpe_op op_mulA (ok_mulA rfl) (to_val (tpe_op op_mod ok_mod (to_val (tpe_op op_mulA (ok_mulA rfl) (sl 4) (sl 4))) (to_val cI))) (sl 4))) (to_val (tpe_op op_mulA (ok_mulA rfl) (to_val cI) (to_val (ixd hr.units rfl (sl 0) (to_val cI))))))) (tps_cons (stv 5 nd (tpe_op op_mod ok_mod (sl 5) (to_val cI))) (tps_cons (tps_ret (ct call_int1 ok_intc B.int rfl (a1 (to_val (tpe_op op_mod ok_mod (to_val (tpe_op op_fdivW ok_div (sl 5) (to_val cI))) (sl 2))) tpa_nil))) tps_nil)))))))
abbrev F_law_roll := B_law_roll
def s_inversions_in : Gam → OutS := (sSeq (sSet 1 (eC (.int 0))) (sSeq (sFor (mEnum (aCons (fO (eRd 0)) aNil)) (gTp 2 (gsCons (gNm 2) (gsCons (gNm 3) gsNil))) (sSeq (sFor (mIter (fO (eSl (oSl 0) (pSome (fO (eOp fAdd (oSl 2) (fO (eC (.int 1)))))) pNone))) (gNm 4) (sSeq (sAugI 1 (fO (eCall bLen (aCons (fO (eLc (mIter (fO (eRd 3))) [5] (gNm 5) (toT (eOp fLtA (fO (eOp fIxD (oSl 4) (fO (eC (.int 0))))) (oSl 5))) (fO (eC (.int 1))))) aNil)))) sNx)) sNx)) (sSeq (sRet (eMv 1)) sNx)))
def B_inversions_in : Gam → Out R := fnB 5 s_inversions_in
theorem ok_inversions_in (B : Blt mg) (CC : Cl K mg cls) (h : Here K mg "inversions_in" 40) : Has P w K mg base cls 1 "inversions_in" 1 B_inversions_in := by
  obtain ⟨f, fd, FP, g⟩ := h.ex
  have nd := sc_inversions_in.nd
  refine ⟨f, fd, ["blocks"], FP.ok (N := N_inversions_in) sc_inversions_in (fun vs H Q E h => h.1) (fun cdv A outer s H vs Q E hr h => ⟨_, PSs.nox ?_, fn_reads (N := N_inversions_in) (m := 5) rfl vs Q E h⟩), g, FP.kp, FP.bindsN fun _ _ _ _ _ _ us hl => match us, hl with | [_], _ => rfl⟩
  exact (tps_cons (stv 1 nd cI) (tps_cons (fr PassesOwn.never rfl (en rfl B.enumerate (a1 (to_val (rd 0)) tpa_nil)) (gt rfl rfl (gc (gn 2 nd) (gc (gn 3 nd) tpgs_nil))) (tps_cons (fr PassesOwn.never rfl (tpi_seq rfl (to_val (tpe_slice rfl (sl 0) (tpo_some (to_val (tpe_op op_addA (ok_add rfl) (sl 2) (to_val cI)))) tpo_none))) (gn 4 nd) (tps_cons (au 1 nd (to_val (cb call_len_seq (ok_len rfl) B.len rfl (a1 (to_val (tpe_lc (own := [("one", 5)]) rfl nd (tpi_seq rfl (to_val (rd 3))) (blkOk_by (N := N_inversions_in) (sc := (defScope (top 40))) (own := [("one", 5)]) (by decide +kernel)) (fun _ _ _ _ _ => (gn 5 nd)) (fun _ _ _ _ _ => (tpts_one (cmT (op_ltA hr.units) (ok_ltA rfl) (to_val (ixd hr.units rfl (sl 4) (to_val cI))) (sl 5)))) (fun _ _ _ _ _ => (to_val cI)) (by intro _; rfl) (by decide))) tpa_nil)))) tps_nil)) tps_nil)) (tps_cons (tps_ret (mv 1)) tps_nil)))
abbrev F_inversions_in := B_inversions_in
def s_is_whole_number : Gam → OutS := (sSeq (sRet (eAnd (eCall bIsi (aCons (oSl 0) (aCons (fO (eC (.ty "int"))) aNil))) (eNot (eCall bIsi (aCons (oSl 0) (aCons (fO (eC (.ty "bool"))) aNil)))))) sNx)
def B_is_whole_number : Gam → Out R := fnB 0 s_is_whole_number
theorem ok_is_whole_number (B : Blt mg) (CC : Cl K mg cls) (h : Here K mg "is_whole_number" 14) : Has P w K mg base cls 1 "is_whole_number" 1 B_is_whole_number := by
  obtain ⟨f, fd, FP, g⟩ := h.ex
  have nd := sc_is_whole_number.nd
  refine ⟨f, fd, ["value"], FP.ok (N := N_is_whole_number) sc_is_whole_number (fun vs H Q E h => h.1) (fun cdv A outer s H vs Q E hr h => ⟨_, PSs.nox ?_, fn_reads (N := N_is_whole_number) (m := 0) rfl vs Q E h⟩), g, FP.kp, FP.bindsN fun _ _ _ _ _ _ us hl => match us, hl with | [_], _ => rfl⟩
  exact (tps_cons (tps_ret (tpe_and (cb call_isi (ok_isi rfl) B.isinstance rfl (a1 (sl 0) (a1 (to_val (bT B.int rfl)) tpa_nil))) (tpe_one (tpe_not (cb call_isi (ok_isi rfl) B.isinstance rfl (a1 (sl 0) (a1 (to_val (bT B.bool rfl)) tpa_nil))))))) tps_nil)
abbrev F_is_whole_number := B_is_whole_number
def s_is_within : Gam → OutS := (sSeq (sRet (eAnd (eCallN 1 F_is_whole_number (aCons (fO (eRd 0)) aNil)) (eChain fLe fLe (oSl 1) (oSl 0) (oSl 2)))) sNx)
def B_is_within : Gam → Out R := fnB 0 s_is_within
theorem ok_is_within (B : Blt mg) (CC : Cl K mg cls) (h : Here K mg "is_within" 16) (H_is_whole_number : Has P w K mg base cls 1 "is_whole_number" 1 F_is_whole_number) : Has P w K mg base cls 2 "is_within" 3 B_is_within := by
  obtain ⟨f, fd, FP, g⟩ := h.ex
  obtain ⟨f_is_whole_number, fd_is_whole_number, ps_is_whole_number, O_is_whole_number, g_is_whole_number, k_is_whole_number, b_is_whole_number⟩ := H_is_whole_number.ex
  have nd := sc_is_within.nd
  refine ⟨f, fd, ["value", "least", "most"], FP.ok (N := N_is_within) sc_is_within (fun vs H Q E h => h.1) (fun cdv A outer s H vs Q E hr h => ⟨_, PSs.nox ?_, fn_reads (N := N_is_within) (m := 0) rfl vs Q E h⟩), g, FP.kp, FP.bindsN fun _ _ _ _ _ _ us hl => match us, hl with | [_, _, _], _ => rfl⟩
  exact (tps_cons (tps_ret (tpe_and (cu O_is_whole_number hr g_is_whole_number k_is_whole_number b_is_whole_number (a1 (to_val (rd 0)) tpa_nil) (hj := by omega)) (tpe_one (ch op_le op_le ok_le ok_le (sl 1) (sl 0) (sl 2))))) tps_nil)
abbrev F_is_within := B_is_within
def s_is_block : Gam → OutS := (sSeq (sIf (bOr (bNot (toT (eCall bIsi (aCons (oSl 1) (aCons (fO (eC (.ty "tuple"))) aNil))))) (bOr (toT (eOp (fEqD false) (oSl 1) (fO (eTup aNil)))) (bNot (toT (eCall bAll (aCons (fO (eLc (mIter (fO (eRd 1))) [2] (gNm 2) mYes (fO (eCallN 3 F_is_within (aCons (fO (eRd 2)) (aCons (fO (eC (.int 1))) (aCons (fO (eRd 0)) aNil))))))) aNil)))))) (sSeq (sRet (eC (.bl false))) sNx) sNx) (sSeq (sRet (eCall bAll (aCons (fO (eLc (mZip (aCons (fO (eRd 1)) (aCons (fO (eSl (oSl 1) (pSome (fO (eC (.int 1)))) pNone)) aNil))) [2, 3] (gTp 2 (gsCons (gNm 2) (gsCons (gNm 3) gsNil))) mYes (fO (eOp fLtA (oSl 2) (oSl 3))))) aNil))) sNx))
def B_is_block : Gam → Out R := fnB 2 s_is_block
theorem ok_is_block (B : Blt mg) (CC : Cl K mg cls) (h : Here K mg "is_block" 38) (H_is_within : Has P w K mg base cls 2 "is_within" 3 F_is_within) : Has P w K mg base cls 3 "is_block" 2 B_is_block := by
  obtain ⟨f, fd, FP, g⟩ := h.ex
  obtain ⟨f_is_within, fd_is_within, ps_is_within, O_is_within, g_is_within, k_is_within, b_is_within⟩ := H_is_within.ex
  have nd := sc_is_block.nd
  refine ⟨f, fd, ["size", "value"], FP.ok (N := N_is_block) sc_is_block (fun vs H Q E h => h.1) (fun cdv A outer s H vs Q E hr h => ⟨_, PSs.nox ?_, fn_reads (N := N_is_block) (m := 2) rfl vs Q E h⟩), g, FP.kp, FP.bindsN fun _ _ _ _ _ _ us hl => match us, hl with | [_, _], _ => rfl⟩
  exact (tps_cons (tps_if (PW.pt (tpw_or (tpt_not (tv (cb call_isi (ok_isi rfl) B.isinstance rfl (a1 (sl 1) (a1 (to_val (bT B.tuple rfl)) tpa_nil))))) (tpw_or (cmT (op_eqA hr.units) (ok_eqA rfl) (sl 1) (to_val (tpe_tup tpa_nil))) (tpw_or1 (tpt_not (tv (cb (cr_all rfl) ok_all B.all rfl (a1 (to_val (tpe_lc (own := [("one", 2)]) rfl nd (tpi_seq rfl (to_val (rd 1))) (blkOk_by (N := N_is_block) (sc := (defScope (top 38))) (own := [("one", 2)]) (by decide +kernel)) (fun _ _ _ _ _ => (gn 2 nd)) (fun _ _ _ _ _ => tpts_nil) (fun _ _ _ _ _ => (to_val (cu O_is_within hr g_is_within k_is_within b_is_within (a1 (to_val (rd 2)) (a1 (to_val cI) (a1 (to_val (rd 0)) tpa_nil))) (hj := by omega)))) (by intro _; rfl) (by decide))) tpa_nil)))))))) (tps_cons (tps_ret cB) tps_nil) tps_nil) (tps_cons (tps_ret (cb (cr_all rfl) ok_all B.all rfl (a1 (to_val (tpe_lc (own := [("one", 2), ("later", 3)]) rfl nd (zp rfl B.zip (a1 (to_val (rd 1)) (a1 (to_val (tpe_slice rfl (sl 1) (tpo_some (to_val cI)) tpo_none)) tpa_nil))) (blkOk_by (N := N_is_block) (sc := (defScope (top 38))) (own := [("one", 2), ("later", 3)]) (by decide +kernel)) (fun _ _ _ _ _ => (gt rfl rfl (gc (gn 2 nd) (gc (gn 3 nd) tpgs_nil)))) (fun _ _ _ _ _ => tpts_nil) (fun _ _ _ _ _ => (to_val (cm (op_ltA hr.units) (ok_ltA rfl) (sl 2) (sl 3)))) (by intro _; rfl) (by decide))) tpa_nil))) tps_nil))
abbrev F_is_block := B_is_block
def s_is_parting_in : Gam → OutS := (sSeq (sIf (bOr (bNot (toT (eCall bIsi (aCons (oSl 1) (aCons (fO (eC (.ty "tuple"))) aNil))))) (bNot (toT (eCall bAll (aCons (fO (eLc (mIter (fO (eRd 1))) [2] (gNm 2) mYes (fO (eCallN 2 F_is_block (aCons (fO (eRd 0)) (aCons (fO (eRd 2)) aNil)))))) aNil))))) (sSeq (sRet (eC (.bl false))) sNx) sNx) (sSeq (sRet (eOp (fEqD false) (fO (eCall bSortA (aCons (fO (eLc2 (mIter (fO (eRd 1))) [2, 3] (gNm 2) mYes (mIter (fO (eRd 2))) [3] (gNm 3) mYes (fO (eRd 3)))) aNil))) (fO (eLstRg2 (fO (eC (.int 1))) (fO (eOp fAdd (oSl 0) (fO (eC (.int 1))))))))) sNx))
def B_is_parting_in : Gam → Out R := fnB 2 s_is_parting_in
theorem ok_is_parting_in (B : Blt mg) (CC : Cl K mg cls) (h : Here K mg "is_parting_in" 39) (H_is_block : Has P w K mg base cls 3 "is_block" 2 F_is_block) : Has P w K mg base cls 4 "is_parting_in" 2 B_is_parting_in := by
  obtain ⟨f, fd, FP, g⟩ := h.ex
  obtain ⟨f_is_block, fd_is_block, ps_is_block, O_is_block, g_is_block, k_is_block, b_is_block⟩ := H_is_block.ex
  have nd := sc_is_parting_in.nd
  refine ⟨f, fd, ["size", "value"], FP.ok (N := N_is_parting_in) sc_is_parting_in (fun vs H Q E h => h.1) (fun cdv A outer s H vs Q E hr h => ⟨_, PSs.nox ?_, fn_reads (N := N_is_parting_in) (m := 2) rfl vs Q E h⟩), g, FP.kp, FP.bindsN fun _ _ _ _ _ _ us hl => match us, hl with | [_, _], _ => rfl⟩
  exact (tps_cons (tps_if (PW.pt (tpw_or (tpt_not (tv (cb call_isi (ok_isi rfl) B.isinstance rfl (a1 (sl 1) (a1 (to_val (bT B.tuple rfl)) tpa_nil))))) (tpw_or1 (tpt_not (tv (cb (cr_all rfl) ok_all B.all rfl (a1 (to_val (tpe_lc (own := [("block", 2)]) rfl nd (tpi_seq rfl (to_val (rd 1))) (blkOk_by (N := N_is_parting_in) (sc := (defScope (top 39))) (own := [("block", 2)]) (by decide +kernel)) (fun _ _ _ _ _ => (gn 2 nd)) (fun _ _ _ _ _ => tpts_nil) (fun _ _ _ _ _ => (to_val (cu O_is_block hr g_is_block k_is_block b_is_block (a1 (to_val (rd 0)) (a1 (to_val (rd 2)) tpa_nil)) (hj := by omega)))) (by intro _; rfl) (by decide))) tpa_nil))))))) (tps_cons (tps_ret cB) tps_nil) tps_nil) (tps_cons (tps_ret (cm (op_eqA hr.units) (ok_eqA rfl) (to_val (cb (cr_sortA rfl hr.units) (ok_sortA rfl) B.sorted rfl (a1 (to_val (tpe_lc2 (own := [("block", 2), ("one", 3)]) (vs1 := [3]) rfl nd (tpi_seq rfl (to_val (rd 1))) (blkOk_by (N := N_is_parting_in) (sc := (defScope (top 39))) (own := [("block", 2), ("one", 3)]) (by decide +kernel)) (by decide) (fun _ _ _ _ _ => (gn 2 nd)) (fun _ _ _ _ _ => tpts_nil) (fun _ _ _ _ _ => (tpi_seq rfl (to_val (rd 2)))) (fun _ _ _ _ _ => (gn 3 nd)) (fun _ _ _ _ _ => tpts_nil) (fun _ _ _ _ _ => (to_val (rd 3))) (by intro _; rfl) (by intro _ _; rfl) (by decide) (by decide))) tpa_nil))) (to_val (tpe_lstRg2 rfl rfl B.list rfl B.range (to_val cI) (to_val (tpe_op op_addA (ok_add rfl) (sl 0) (to_val cI))) rfl rfl rfl rfl)))) tps_nil))
abbrev F_is_parting_in := B_is_parting_in
def s_inversions : Gam → OutS := (sSeq (sIf (bNot (toT (eCall bAny (aCons (fO (eLc (mRng2 (aCons (fO (eC (.int 1))) (aCons (fO (eOp fAdd (fO (eC (.int 6))) (fO (eC (.int 1))))) aNil))) [1] (gNm 1) mYes (fO (eCallN 2 F_is_parting_in (aCons (fO (eRd 1)) (aCons (fO (eRd 0)) aNil)))))) aNil)))) (sSeq sBad sNx) sNx) (sSeq (sRet (eCallN 1 F_inversions_in (aCons (fO (eRd 0)) aNil))) sNx))
def B_inversions : Gam → Out R := fnB 1 s_inversions
theorem ok_inversions (B : Blt mg) (CC : Cl K mg cls) (h : Here K mg "inversions" 48) (H_inversions_in : Has P w K mg base cls 1 "inversions_in" 1 F_inversions_in) (H_is_parting_in : Has P w K mg base cls 4 "is_parting_in" 2 F_is_parting_in) : Has P w K mg base cls 5 "inversions" 1 B_inversions := by
  obtain ⟨f, fd, FP, g⟩ := h.ex
  obtain ⟨f_inversions_in, fd_inversions_in, ps_inversions_in, O_inversions_in, g_inversions_in, k_inversions_in, b_inversions_in⟩ := H_inversions_in.ex
  obtain ⟨f_is_parting_in, fd_is_parting_in, ps_is_parting_in, O_is_parting_in, g_is_parting_in, k_is_parting_in, b_is_parting_in⟩ := H_is_parting_in.ex
  have nd := sc_inversions.nd
  refine ⟨f, fd, ["parting"], FP.ok (N := N_inversions) sc_inversions (fun vs H Q E h => h.1) (fun cdv A outer s H vs Q E hr h => ⟨_, PSs.nox ?_, fn_reads (N := N_inversions) (m := 1) rfl vs Q E h⟩), g, FP.kp, FP.bindsN fun _ _ _ _ _ _ us hl => match us, hl with | [_], _ => rfl⟩
  exact (tps_cons (tps_if (tpt_not (tv (cb (cr_any rfl) ok_any B.any rfl (a1 (to_val (tpe_lc (own := [("size", 1)]) rfl nd (r2 B.range (a1 (to_val cI) (a1 (to_val (tpe_op op_addA (ok_add rfl) (to_val (gI B.MOST_PARTED)) (to_val cI))) tpa_nil))) (blkOk_by (N := N_inversions) (sc := (defScope (top 48))) (own := [("size", 1)]) (by decide +kernel)) (fun _ _ _ _ _ => (gn 1 nd)) (fun _ _ _ _ _ => tpts_nil) (fun _ _ _ _ _ => (to_val (cu O_is_parting_in hr g_is_parting_in k_is_parting_in b_is_parting_in (a1 (to_val (rd 1)) (a1 (to_val (rd 0)) tpa_nil)) (hj := by omega)))) (by intro _; rfl) (by decide))) tpa_nil)))) (tps_cons tps_never tps_nil) tps_nil) (tps_cons (tps_ret (cu O_inversions_in hr g_inversions_in k_inversions_in b_inversions_in (a1 (to_val (rd 0)) tpa_nil) (hj := by omega))) tps_nil))
abbrev F_inversions := B_inversions
def s_law_partings : Gam → OutS := (sSeq (sSet 2 (eLst (aCons (fO (eOp fMulA (fO (eTup (aCons (fO (eTup aNil)) aNil))) (oSl 1))) aNil))) (sSeq (sFor (mRng2 (aCons (fO (eC (.int 1))) (aCons (fO (eOp fAdd (oSl 0) (fO (eC (.int 1))))) aNil))) (gNm 3) (sSeq (sSet 4 (eLst aNil)) (sSeq (sFor (mIter (fO (eRd 2))) (gNm 5) (sSeq (sFor (mRng1 (aCons (oSl 1) aNil)) (gNm 6) (sSeq (sExpr (eMeth 4 fAppend (aCons (fO (eOp fAdd (fO (eOp fAdd (fO (eSl (oSl 5) pNone (pSome (oSl 6)))) (fO (eTup (aCons (fO (eOp fAdd (fO (eOp fIxD (oSl 5) (oSl 6))) (fO (eTup (aCons (fO (eRd 3)) aNil))))) aNil))))) (fO (eSl (oSl 5) (pSome (fO (eOp fAdd (oSl 6) (fO (eC (.int 1)))))) pNone)))) aNil))) sNx)) sNx)) (sSeq (sSet 2 (eMv 4)) sNx)))) (sSeq (sRet (eCall bSortA (aCons (fO (eLc (mIter (fO (eRd 2))) [5] (gNm 5) (toT (eOp (fInT true) (fO (eTup aNil)) (oSl 5))) (fO (eRd 5)))) aNil))) sNx)))
def B_law_partings : Gam → Out R := fnB 5 s_law_partings
theorem ok_law_partings (B : Blt mg) (CC : Cl K mg cls) (h : Here K mg "_law_partings" 57) : Has P w K mg base cls 1 "_law_partings" 2 B_law_partings := by
  obtain ⟨f, fd, FP, g⟩ := h.ex
  have nd := sc_law_partings.nd
  refine ⟨f, fd, ["size", "blocks"], FP.ok (N := N_law_partings) sc_law_partings (fun vs H Q E h => h.1) (fun cdv A outer s H vs Q E hr h => ⟨_, PSs.nox ?_, fn_reads (N := N_law_partings) (m := 5) rfl vs Q E h⟩), g, FP.kp, FP.bindsN fun _ _ _ _ _ _ us hl => match us, hl with | [_, _], _ => rfl⟩
  exact (tps_cons (stv 2 nd (tpe_lst (a1 (to_val (tpe_op op_mulA (ok_mulA rfl) (to_val (tpe_tup (a1 (to_val (tpe_tup tpa_nil)) tpa_nil))) (sl 1))) tpa_nil))) (tps_cons (fr PassesOwn.never rfl (r2 B.range (a1 (to_val cI) (a1 (to_val (tpe_op op_addA (ok_add rfl) (sl 0) (to_val cI))) tpa_nil))) (gn 3 nd) (tps_cons (stv 4 nd (tpe_lst tpa_nil)) (tps_cons (fr PassesOwn.never rfl (tpi_seq rfl (to_val (rd 2))) (gn 5 nd) (tps_cons (fr PassesOwn.never rfl (r1 B.range (a1 (sl 1) tpa_nil)) (gn 6 nd) (tps_cons (sx (me PySem.F.slot_list_append PySem.F.type_list_append mt_append ok_append (sl 4) (a1 (to_val (tpe_op op_addA (ok_add rfl) (to_val (tpe_op op_addA (ok_add rfl) (to_val (tpe_slice rfl (sl 5) tpo_none (tpo_some (sl 6)))) (to_val (tpe_tup (a1 (to_val (tpe_op op_addA (ok_add rfl) (to_val (ixd hr.units rfl (sl 5) (sl 6))) (to_val (tpe_tup (a1 (to_val (rd 3)) tpa_nil))))) tpa_nil))))) (to_val (tpe_slice rfl (sl 5) (tpo_some (to_val (tpe_op op_addA (ok_add rfl) (sl 6) (to_val cI)))) tpo_none)))) tpa_nil))) tps_nil)) tps_nil)) (tps_cons (stv 2 nd (mv 4)) tps_nil)))) (tps_cons (tps_ret (cb (cr_sortA rfl hr.units) (ok_sortA rfl) B.sorted rfl (a1 (to_val (tpe_lc (own := [("row", 5)]) rfl nd (tpi_seq rfl (to_val (rd 2))) (blkOk_by (N := N_law_partings) (sc := (defScope (top 57))) (own := [("row", 5)]) (by decide +kernel)) (fun _ _ _ _ _ => (gn 5 nd)) (fun _ _ _ _ _ => (tpts_one (cmT ((op_notInA hr.units).or (op_notInTD hr.units65)) (ok_inT rfl true (ok_inD rfl true)) (to_val (tpe_tup tpa_nil)) (sl 5)))) (fun _ _ _ _ _ => (to_val (rd 5))) (by intro _; rfl) (by decide))) tpa_nil))) tps_nil)))
abbrev F_law_partings := B_law_partings
def s_law_rows : Gam → OutS := (sSeq (sRet (eCall bTuple (aCons (fO (eLc (mIter (fO (eCall bSortA (aCons (oSl 0) aNil)))) [1] (gNm 1) mYes (fO (eTup (aCons (fO (eOp fIxD (oSl 1) (fO (eC (.int 0))))) (aCons (fO (eOp fIxD (oSl 1) (fO (eC (.int 1))))) (aCons (fO (eOp fIxD (oSl 0) (oSl 1))) aNil))))))) aNil))) sNx)
def B_law_rows : Gam → Out R := fnB 1 s_law_rows
theorem ok_law_rows (B : Blt mg) (CC : Cl K mg cls) (h : Here K mg "_law_rows" 55) : Has P w K mg base cls 1 "_law_rows" 1 B_law_rows := by
  obtain ⟨f, fd, FP, g⟩ := h.ex
  have nd := sc_law_rows.nd
  refine ⟨f, fd, ["poly"], FP.ok (N := N_law_rows) sc_law_rows (fun vs H Q E h => h.1) (fun cdv A outer s H vs Q E hr h => ⟨_, PSs.nox ?_, fn_reads (N := N_law_rows) (m := 1) rfl vs Q E h⟩), g, FP.kp, FP.bindsN fun _ _ _ _ _ _ us hl => match us, hl with | [_], _ => rfl⟩
  exact (tps_cons (tps_ret (ct call_tuple_of (ok_tuple rfl) B.tuple rfl (a1 (to_val (tpe_lc (own := [("key", 1)]) rfl nd (tpi_seq rfl (to_val (cb (cr_sortA rfl hr.units) (ok_sortA rfl) B.sorted rfl (a1 (sl 0) tpa_nil)))) (blkOk_by (N := N_law_rows) (sc := (defScope (top 55))) (own := [("key", 1)]) (by decide +kernel)) (fun _ _ _ _ _ => (gn 1 nd)) (fun _ _ _ _ _ => tpts_nil) (fun _ _ _ _ _ => (to_val (tpe_tup (a1 (to_val (ixd hr.units rfl (sl 1) (to_val cI))) (a1 (to_val (ixd hr.units rfl (sl 1) (to_val cI))) (a1 (to_val (ixd hr.units rfl (sl 0) (sl 1))) tpa_nil)))))) (by intro _; rfl) (by decide))) tpa_nil))) tps_nil)
abbrev F_law_rows := B_law_rows
def s_law_one_of : Gam → OutS := (sSeq (sRet (eOp fIxD (oSl 1) (fO (eCallN 2 F_law_roll (aCons (oSl 0) (aCons (fO (eCall bLen (aCons (oSl 1) aNil))) aNil)))))) sNx)
def B_law_one_of : Gam → Out R := fnB 0 s_law_one_of
theorem ok_law_one_of (B : Blt mg) (CC : Cl K mg cls) (h : Here K mg "_law_one_of" 53) (H_law_roll : Has P w K mg base cls 1 "_law_roll" 2 F_law_roll) : Has P w K mg base cls 2 "_law_one_of" 2 B_law_one_of := by
  obtain ⟨f, fd, FP, g⟩ := h.ex
  obtain ⟨f_law_roll, fd_law_roll, ps_law_roll, O_law_roll, g_law_roll, k_law_roll, b_law_roll⟩ := H_law_roll.ex
  have nd := sc_law_one_of.nd
  refine ⟨f, fd, ["dice", "items"], FP.ok (N := N_law_one_of) sc_law_one_of (fun vs H Q E h => h.1) (fun cdv A outer s H vs Q E hr h => ⟨_, PSs.nox ?_, fn_reads (N := N_law_one_of) (m := 0) rfl vs Q E h⟩), g, FP.kp, FP.bindsN fun _ _ _ _ _ _ us hl => match us, hl with | [_, _], _ => rfl⟩
  exact (tps_cons (tps_ret (ixd hr.units rfl (sl 1) (to_val (cu O_law_roll hr g_law_roll k_law_roll b_law_roll (a1 (sl 0) (a1 (to_val (cb call_len_seq (ok_len rfl) B.len rfl (a1 (sl 1) tpa_nil))) tpa_nil)) (hj := by omega))))) tps_nil)
abbrev F_law_one_of := B_law_one_of
def s_law_near_parting : Gam → OutS := (sSeq (sSet 3 (eLst (aCons (fO (eRd 2)) (aCons (fO (eCall bList (aCons (oSl 2) aNil))) (aCons (fO (eRev (oSl 2))) (aCons (fO (eSl (oSl 2) (pSome (fO (eC (.int 1)))) pNone)) (aCons (fO (eOp fAdd (oSl 2) (fO (eTup (aCons (fO (eTup aNil)) aNil))))) (aCons (fO (eOp fAdd (oSl 2) (fO (eTup (aCons (fO (eOp fIxD (oSl 2) (fO (eC (.int 0))))) aNil))))) (aCons (fO (eC .non)) (aCons (fO (eTup aNil)) (aCons (fO (eC (.int 0))) aNil))))))))))) (sSeq (sSet 4 (eCallN 2 F_law_roll (aCons (oSl 0) (aCons (fO (eCall bLen (aCons (oSl 2) aNil))) aNil)))) (sSeq (sSet 5 (eOp fIxD (oSl 2) (oSl 4))) (sSeq (sFor (mIter (fO (eTup (aCons (fO (eRev (oSl 5))) (aCons (fO (eSl (oSl 5) (pSome (fO (eC (.int 1)))) pNone)) (aCons (fO (eCall bList (aCons (oSl 5) aNil))) (aCons (fO (eOp fAdd (oSl 5) (fO (eTup (aCons (fO (eOp fAdd (oSl 1) (fO (eC (.int 1))))) aNil))))) (aCons (fO (eOp fAdd (fO (eTup (aCons (fO (eC (.int 0))) aNil))) (oSl 5))) (aCons (fO (eC .non)) (aCons (fO (eOp fAdd (oSl 5) (fO (eTup (aCons (fO (eOp fIxD (oSl 5) (fO (eNeg (fO (eC (.int 1))))))) aNil))))) aNil)))))))))) (gNm 6) (sSeq (sExpr (eMeth 3 fAppend (aCons (fO (eOp fAdd (fO (eOp fAdd (fO (eSl (oSl 2) pNone (pSome (oSl 4)))) (fO (eTup (aCons (fO (eRd 6)) aNil))))) (fO (eSl (oSl 2) (pSome (fO (eOp fAdd (oSl 4) (fO (eC (.int 1)))))) pNone)))) aNil))) sNx)) (sSeq (sFor (mIter (fO (eTup (aCons (fO (eOp fAdd (fO (eTup (aCons (fO (eC (.bl true))) aNil))) (fO (eSl (oSl 5) (pSome (fO (eC (.int 1)))) pNone)))) (aCons (fO (eCall bTuple (aCons (fO (eLc (mIter (fO (eRd 5))) [7] (gNm 7) mYes (fO (eCall bStrI (aCons (oSl 7) aNil))))) aNil))) aNil))))) (gNm 6) (sSeq (sExpr (eMeth 3 fAppend (aCons (fO (eOp fAdd (fO (eOp fAdd (fO (eSl (oSl 2) pNone (pSome (oSl 4)))) (fO (eTup (aCons (fO (eRd 6)) aNil))))) (fO (eSl (oSl 2) (pSome (fO (eOp fAdd (oSl 4) (fO (eC (.int 1)))))) pNone)))) aNil))) sNx)) (sSeq (sRet (eOp fAdd (oSl 3) (fO (eLst (aCons (fO (eTup (aCons (fO (eTupRg2 (fO (eC (.int 1))) (fO (eOp fAdd (oSl 1) (fO (eC (.int 1))))))) aNil))) (aCons (fO (eTup (aCons (fO (eTup (aCons (fO (eC (.int 1))) aNil))) aNil))) (aCons (fO (eC (.str "parting"))) (aCons (fO (eOp fAdd (fO (eTup (aCons (fO (eTup (aCons (fO (eRd 1)) aNil))) aNil))) (oSl 2))) (aCons (fO (eTupRg2 (fO (eC (.int 1))) (fO (eOp fAdd (oSl 1) (fO (eC (.int 1))))))) aNil))))))))) sNx))))))
def B_law_near_parting : Gam → Out R := fnB 5 s_law_near_parting
theorem ok_law_near_parting (B : Blt mg) (CC : Cl K mg cls) (h : Here K mg "_law_near_parting" 64) (H_law_roll : Has P w K mg base cls 1 "_law_roll" 2 F_law_roll) : Has P w K mg base cls 2 "_law_near_parting" 3 B_law_near_parting := by
  obtain ⟨f, fd, FP, g⟩ := h.ex
  obtain ⟨f_law_roll, fd_law_roll, ps_law_roll, O_law_roll, g_law_roll, k_law_roll, b_law_roll⟩ := H_law_roll.ex
  have nd := sc_law_near_parting.nd
  refine ⟨f, fd, ["dice", "size", "parting"], FP.ok (N := N_law_near_parting) sc_law_near_parting (fun vs H Q E h => h.1) (fun cdv A outer s H vs Q E hr h => ⟨_, PSs.nox ?_, fn_reads (N := N_law_near_parting) (m := 5) rfl vs Q E h⟩), g, FP.kp, FP.bindsN fun _ _ _ _ _ _ us hl => match us, hl with | [_, _, _], _ => rfl⟩
  exact (tps_cons (stv 3 nd (tpe_lst (a1 (to_val (rd 2)) (a1 (to_val (ct call_list_of (ok_list rfl) B.list rfl (a1 (sl 2) tpa_nil))) (a1 (to_val (tpe_rev rfl (sl 2))) (a1 (to_val (tpe_slice rfl (sl 2) (tpo_some (to_val cI)) tpo_none)) (a1 (to_val (tpe_op op_addA (ok_add rfl) (sl 2) (to_val (tpe_tup (a1 (to_val (tpe_tup tpa_nil)) tpa_nil))))) (a1 (to_val (tpe_op op_addA (ok_add rfl) (sl 2) (to_val (tpe_tup (a1 (to_val (ixd hr.units rfl (sl 2) (to_val cI))) tpa_nil))))) (a1 (to_val cN) (a1 (to_val (tpe_tup tpa_nil)) (a1 (to_val cI) tpa_nil))))))))))) (tps_cons (stv 4 nd (cu O_law_roll hr g_law_roll k_law_roll b_law_roll (a1 (sl 0) (a1 (to_val (cb call_len_seq (ok_len rfl) B.len rfl (a1 (sl 2) tpa_nil))) tpa_nil)) (hj := by omega))) (tps_cons (stv 5 nd (ixd hr.units rfl (sl 2) (sl 4))) (tps_cons (fr PassesOwn.never rfl (tpi_seq rfl (to_val (tpe_tup (a1 (to_val (tpe_rev rfl (sl 5))) (a1 (to_val (tpe_slice rfl (sl 5) (tpo_some (to_val cI)) tpo_none)) (a1 (to_val (ct call_list_of (ok_list rfl) B.list rfl (a1 (sl 5) tpa_nil))) (a1 (to_val (tpe_op op_addA (ok_add rfl) (sl 5) (to_val (tpe_tup (a1 (to_val (tpe_op op_addA (ok_add rfl) (sl 1) (to_val cI))) tpa_nil))))) (a1 (to_val (tpe_op op_addA (ok_add rfl) (to_val (tpe_tup (a1 (to_val cI) tpa_nil))) (sl 5))) (a1 (to_val cN) (a1 (to_val (tpe_op op_addA (ok_add rfl) (sl 5) (to_val (tpe_tup (a1 (to_val (ixd hr.units rfl (sl 5) (to_val (tpe_neg (to_val cI))))) tpa_nil))))) tpa_nil)))))))))) (gn 6 nd) (tps_cons (sx (me PySem.F.slot_list_append PySem.F.type_list_append mt_append ok_append (sl 3) (a1 (to_val (tpe_op op_addA (ok_add rfl) (to_val (tpe_op op_addA (ok_add rfl) (to_val (tpe_slice rfl (sl 2) tpo_none (tpo_some (sl 4)))) (to_val (tpe_tup (a1 (to_val (rd 6)) tpa_nil))))) (to_val (tpe_slice rfl (sl 2) (tpo_some (to_val (tpe_op op_addA (ok_add rfl) (sl 4) (to_val cI)))) tpo_none)))) tpa_nil))) tps_nil)) (tps_cons (fr PassesOwn.never rfl (tpi_seq rfl (to_val (tpe_tup (a1 (to_val (tpe_op op_addA (ok_add rfl) (to_val (tpe_tup (a1 (to_val cB) tpa_nil))) (to_val (tpe_slice rfl (sl 5) (tpo_some (to_val cI)) tpo_none)))) (a1 (to_val (ct call_tuple_of (ok_tuple rfl) B.tuple rfl (a1 (to_val (tpe_lc (own := [("one", 7)]) rfl nd (tpi_seq rfl (to_val (rd 5))) (blkOk_by (N := N_law_near_parting) (sc := (defScope (top 64))) (own := [("one", 7)]) (by decide +kernel)) (fun _ _ _ _ _ => (gn 7 nd)) (fun _ _ _ _ _ => tpts_nil) (fun _ _ _ _ _ => (to_val (ct call_str_int ok_strI B.str rfl (a1 (sl 7) tpa_nil)))) (by intro _; rfl) (by decide))) tpa_nil))) tpa_nil))))) (gn 6 nd) (tps_cons (sx (me PySem.F.slot_list_append PySem.F.type_list_append mt_append ok_append (sl 3) (a1 (to_val (tpe_op op_addA (ok_add rfl) (to_val (tpe_op op_addA (ok_add rfl) (to_val (tpe_slice rfl (sl 2) tpo_none (tpo_some (sl 4)))) (to_val (tpe_tup (a1 (to_val (rd 6)) tpa_nil))))) (to_val (tpe_slice rfl (sl 2) (tpo_some (to_val (tpe_op op_addA (ok_add rfl) (sl 4) (to_val cI)))) tpo_none)))) tpa_nil))) tps_nil)) (tps_cons (tps_ret (tpe_op op_addA (ok_add rfl) (sl 3) (to_val (tpe_lst (a1 (to_val (tpe_tup (a1 (to_val (tpe_tupRg2 rfl rfl B.tuple rfl B.range (to_val cI) (to_val (tpe_op op_addA (ok_add rfl) (sl 1) (to_val cI))) rfl rfl rfl rfl)) tpa_nil))) (a1 (to_val (tpe_tup (a1 (to_val (tpe_tup (a1 (to_val cI) tpa_nil))) tpa_nil))) (a1 (to_val cS) (a1 (to_val (tpe_op op_addA (ok_add rfl) (to_val (tpe_tup (a1 (to_val (tpe_tup (a1 (to_val (rd 1)) tpa_nil))) tpa_nil))) (sl 2))) (a1 (to_val (tpe_tupRg2 rfl rfl B.tuple rfl B.range (to_val cI) (to_val (tpe_op op_addA (ok_add rfl) (sl 1) (to_val cI))) rfl rfl rfl rfl)) tpa_nil))))))))) tps_nil))))))
abbrev F_law_near_parting := B_law_near_parting
def s_Poly_rows : Gam → OutS := (sSeq (sRet (eCall bTuple (aCons (fO (eLc (mItems (fO (eAt 1 0 (oSl 0)))) [1, 2] (gTp 2 (gsCons (gNm 1) (gsCons (gNm 2) gsNil))) mYes (fO (eTup (aStar (fO (eRd 1)) (aCons (fO (eRd 2)) aNil)))))) aNil))) sNx)
def B_Poly_rows : Gam → Out R := fnB 2 s_Poly_rows
theorem ok_Poly_rows (B : Blt mg) (CC : Cl K mg cls) (h : HereP K (cls 1) "rows" "Poly.rows" (mtop 20 4)) : HasP P w K mg base cls 1 1 "rows" B_Poly_rows := by
  obtain ⟨f, fd, FP, g⟩ := h.ex
  have nd := sc_Poly_rows.nd
  refine ⟨f, fd, ["self"], FP.ok (N := N_Poly_rows) sc_Poly_rows (fun vs H Q E h => h.1) (fun cdv A outer s H vs Q E hr h => ⟨_, PSs.nox ?_, fn_reads (N := N_Poly_rows) (m := 2) rfl vs Q E h⟩), g, FP.bindsN fun _ _ _ _ _ _ us hl => match us, hl with | [_], _ => rfl⟩
  exact (tps_cons (tps_ret (ct call_tuple_of (ok_tuple rfl) B.tuple rfl (a1 (to_val (tpe_lc (own := [("powers", 1), ("number", 2)]) rfl nd (it (to_val (tpe_at CC.s_own_terms (sl 0)))) (blkOk_by (N := N_Poly_rows) (sc := (defScope (mtop 20 4))) (own := [("powers", 1), ("number", 2)]) (by decide +kernel)) (fun _ _ _ _ _ => (gt rfl rfl (gc (gn 1 nd) (gc (gn 2 nd) tpgs_nil)))) (fun _ _ _ _ _ => tpts_nil) (fun _ _ _ _ _ => (to_val (tpe_tup (aS rfl (to_val (rd 1)) (a1 (to_val (rd 2)) tpa_nil))))) (by intro _; rfl) (by decide))) tpa_nil))) tps_nil)
abbrev F_Poly_rows := B_Poly_rows
def s_law_times : Gam → OutS := (sSeq (sSet 2 (eNewD true)) (sSeq (sFor (mIter (fO (eRd 0))) (gTp 2 (gsCons (gNm 3) (gsCons (gNm 4) gsNil))) (sSeq (sFor (mIter (fO (eRd 1))) (gTp 2 (gsCons (gNm 5) (gsCons (gNm 6) gsNil))) (sSeq (sPut 2 (fO (eOp fAdd (fO (eGet2 (oSl 2) (fO (eTup (aCons (fO (eOp fAdd (oSl 3) (oSl 5))) (aCons (fO (eOp fAdd (oSl 4) (oSl 6))) aNil)))) (fO (eC (.int 0))))) (fO (eOp fMulA (fO (eOp fIxD (oSl 0) (fO (eTup (aCons (fO (eRd 3)) (aCons (fO (eRd 4)) aNil)))))) (fO (eOp fIxD (oSl 1) (fO (eTup (aCons (fO (eRd 5)) (aCons (fO (eRd 6)) aNil)))))))))) (fO (eTup (aCons (fO (eOp fAdd (oSl 3) (oSl 5))) (aCons (fO (eOp fAdd (oSl 4) (oSl 6))) aNil))))) sNx)) sNx)) (sSeq (sRet (eCall (bDict true) (aCons (fO (eLc (mIter (fO (eRd 2))) [7] (gNm 7) (toT (eOp (fEqD true) (fO (eOp fIxD (oSl 2) (oSl 7))) (fO (eC (.int 0))))) (fO (eTup (aCons (fO (eRd 7)) (aCons (fO (eOp fIxD (oSl 2) (oSl 7))) aNil)))))) aNil))) sNx)))
def B_law_times : Gam → Out R := fnB 6 s_law_times
theorem ok_law_times (B : Blt mg) (CC : Cl K mg cls) (h : Here K mg "_law_times" 56) : Has P w K mg base cls 1 "_law_times" 2 B_law_times := by
  obtain ⟨f, fd, FP, g⟩ := h.ex
  have nd := sc_law_times.nd
  refine ⟨f, fd, ["one", "other"], FP.ok (N := N_law_times) sc_law_times (fun vs H Q E h => h.1) (fun cdv A outer s H vs Q E hr h => ⟨_, PSs.nox ?_, fn_reads (N := N_law_times) (m := 6) rfl vs Q E h⟩), g, FP.kp, FP.bindsN fun _ _ _ _ _ _ us hl => match us, hl with | [_, _], _ => rfl⟩
  exact (tps_cons (stv 2 nd tpe_newT) (tps_cons (fr PassesOwn.never rfl (tpi_seq rfl (to_val (rd 0))) (gt rfl rfl (gc (gn 3 nd) (gc (gn 4 nd) tpgs_nil))) (tps_cons (fr PassesOwn.never rfl (tpi_seq rfl (to_val (rd 1))) (gt rfl rfl (gc (gn 5 nd) (gc (gn 6 nd) tpgs_nil))) (tps_cons (pu hr.units (sl 2) (to_val (tpe_tup (a1 (to_val (tpe_op op_addA (ok_add rfl) (sl 3) (sl 5))) (a1 (to_val (tpe_op op_addA (ok_add rfl) (sl 4) (sl 6))) tpa_nil)))) (to_val (tpe_op op_addA (ok_add rfl) (to_val (gt2 hr.units (sl 2) (to_val (tpe_tup (a1 (to_val (tpe_op op_addA (ok_add rfl) (sl 3) (sl 5))) (a1 (to_val (tpe_op op_addA (ok_add rfl) (sl 4) (sl 6))) tpa_nil)))) (to_val cI))) (to_val (tpe_op op_mulA (ok_mulA rfl) (to_val (ixd hr.units rfl (sl 0) (to_val (tpe_tup (a1 (to_val (rd 3)) (a1 (to_val (rd 4)) tpa_nil)))))) (to_val (ixd hr.units rfl (sl 1) (to_val (tpe_tup (a1 (to_val (rd 5)) (a1 (to_val (rd 6)) tpa_nil))))))))))) tps_nil)) tps_nil)) (tps_cons (tps_ret (ct (call_dictA rfl hr.units true) (ok_dict rfl true) B.dict rfl (a1 (to_val (tpe_lc (own := [("key", 7)]) rfl nd (tpi_seq rfl (to_val (rd 2))) (blkOk_by (N := N_law_times) (sc := (defScope (top 56))) (own := [("key", 7)]) (by decide +kernel)) (fun _ _ _ _ _ => (gn 7 nd)) (fun _ _ _ _ _ => (tpts_one (cmT (op_neA hr.units) (ok_neA rfl) (to_val (ixd hr.units rfl (sl 2) (sl 7))) (to_val cI)))) (fun _ _ _ _ _ => (to_val (tpe_tup (a1 (to_val (rd 7)) (a1 (to_val (ixd hr.units rfl (sl 2) (sl 7))) tpa_nil))))) (by intro _; rfl) (by decide))) tpa_nil))) tps_nil)))
abbrev F_law_times := B_law_times
def s_law_plus : Gam → OutS := (sSeq (sSet 3 (eCall (bDict true) (aCons (fO (eRd 0)) aNil))) (sSeq (sFor (mIter (fO (eRd 1))) (gNm 4) (sSeq (sPut 3 (fO (eOp fAdd (fO (eGet2 (oSl 3) (oSl 4) (fO (eC (.int 0))))) (fO (eOp fMulA (oSl 2) (fO (eOp fIxD (oSl 1) (oSl 4))))))) (oSl 4)) sNx)) (sSeq (sRet (eCall (bDict true) (aCons (fO (eLc (mIter (fO (eRd 3))) [4] (gNm 4) (toT (eOp (fEqD true) (fO (eOp fIxD (oSl 3) (oSl 4))) (fO (eC (.int 0))))) (fO (eTup (aCons (fO (eRd 4)) (aCons (fO (eOp fIxD (oSl 3) (oSl 4))) aNil)))))) aNil))) sNx)))
def B_law_plus : Gam → Out R := fnB 2 s_law_plus
theorem ok_law_plus (B : Blt mg) (CC : Cl K mg cls) (h : Here K mg "_law_plus" 54) : Has P w K mg base cls 1 "_law_plus" 3 B_law_plus := by
  obtain ⟨f, fd, FP, g⟩ := h.ex
  have nd := sc_law_plus.nd
  refine ⟨f, fd, ["one", "other", "often"], FP.ok (N := N_law_plus) sc_law_plus (fun vs H Q E h => h.1) (fun cdv A outer s H vs Q E hr h => ⟨_, PSs.nox ?_, fn_reads (N := N_law_plus) (m := 2) rfl vs Q E h⟩), g, FP.kp, FP.bindsN fun _ _ _ _ _ _ us hl => match us, hl with | [_, _, _], _ => rfl⟩
  exact (tps_cons (stv 3 nd (ct (call_dictA rfl hr.units true) (ok_dict rfl true) B.dict rfl (a1 (to_val (rd 0)) tpa_nil))) (tps_cons (fr PassesOwn.never rfl (tpi_seq rfl (to_val (rd 1))) (gn 4 nd) (tps_cons (pu hr.units (sl 3) (sl 4) (to_val (tpe_op op_addA (ok_add rfl) (to_val (gt2 hr.units (sl 3) (sl 4) (to_val cI))) (to_val (tpe_op op_mulA (ok_mulA rfl) (sl 2) (to_val (ixd hr.units rfl (sl 1) (sl 4)))))))) tps_nil)) (tps_cons (tps_ret (ct (call_dictA rfl hr.units true) (ok_dict rfl true) B.dict rfl (a1 (to_val (tpe_lc (own := [("key", 4)]) rfl nd (tpi_seq rfl (to_val (rd 3))) (blkOk_by (N := N_law_plus) (sc := (defScope (top 54))) (own := [("key", 4)]) (by decide +kernel)) (fun _ _ _ _ _ => (gn 4 nd)) (fun _ _ _ _ _ => (tpts_one (cmT (op_neA hr.units) (ok_neA rfl) (to_val (ixd hr.units rfl (sl 3) (sl 4))) (to_val cI)))) (fun _ _ _ _ _ => (to_val (tpe_tup (a1 (to_val (rd 4)) (a1 (to_val (ixd hr.units rfl (sl 3) (sl 4))) tpa_nil))))) (by intro _; rfl) (by decide))) tpa_nil))) tps_nil)))
abbrev F_law_plus := B_law_plus
def s_law_steps_of : Gam → OutS := (sSeq (sRet (eCall (bDict true) (aCons (fO (eLc (mRng1 (aCons (oSl 0) aNil)) [1] (gNm 1) mYes (fO (eTup (aCons (fO (eTup (aCons (fO (eRd 1)) (aCons (fO (eC (.int 0))) aNil)))) (aCons (fO (eC (.int 1))) aNil)))))) aNil))) sNx)
def B_law_steps_of : Gam → Out R := fnB 1 s_law_steps_of
theorem ok_law_steps_of (B : Blt mg) (CC : Cl K mg cls) (h : Here K mg "_law_steps_of" 60) : Has P w K mg base cls 1 "_law_steps_of" 1 B_law_steps_of := by
  obtain ⟨f, fd, FP, g⟩ := h.ex
  have nd := sc_law_steps_of.nd
  refine ⟨f, fd, ["many"], FP.ok (N := N_law_steps_of) sc_law_steps_of (fun vs H Q E h => h.1) (fun cdv A outer s H vs Q E hr h => ⟨_, PSs.nox ?_, fn_reads (N := N_law_steps_of) (m := 1) rfl vs Q E h⟩), g, FP.kp, FP.bindsN fun _ _ _ _ _ _ us hl => match us, hl with | [_], _ => rfl⟩
  exact (tps_cons (tps_ret (ct (call_dictA rfl hr.units true) (ok_dict rfl true) B.dict rfl (a1 (to_val (tpe_lc (own := [("power", 1)]) rfl nd (r1 B.range (a1 (sl 0) tpa_nil)) (blkOk_by (N := N_law_steps_of) (sc := (defScope (top 60))) (own := [("power", 1)]) (by decide +kernel)) (fun _ _ _ _ _ => (gn 1 nd)) (fun _ _ _ _ _ => tpts_nil) (fun _ _ _ _ _ => (to_val (tpe_tup (a1 (to_val (tpe_tup (a1 (to_val (rd 1)) (a1 (to_val cI) tpa_nil)))) (a1 (to_val cI) tpa_nil))))) (by intro _; rfl) (by decide))) tpa_nil))) tps_nil)
abbrev F_law_steps_of := B_law_steps_of
def s_law_stirling (F : Gam → Out R) : Gam → OutS := (sSeq (sIf (bOr (toT (eOp (fEqD false) (oSl 0) (fO (eC (.int 0))))) (toT (eOp (fEqD false) (oSl 1) (fO (eC (.int 0)))))) (sSeq (sRet (eIf (toT (eOp (fEqD false) (oSl 0) (oSl 1))) (eDisp1 true (fO (eTup (aCons (fO (eC (.int 0))) (aCons (fO (eC (.int 0))) aNil)))) (fO (eC (.int 1)))) (eNewD true))) sNx) sNx) (sSeq (sSet 2 (eCallN 2 F_law_times (aCons (fO (eCallN 1 F_law_steps_of (aCons (fO (eRd 1)) aNil))) (aCons (fO (eCallN 2 F (aCons (fO (eOp fSub (oSl 0) (fO (eC (.int 1))))) (aCons (fO (eRd 1)) aNil)))) aNil)))) (sSeq (sRet (eCallN 3 F_law_plus (aCons (fO (eCallN 2 F (aCons (fO (eOp fSub (oSl 0) (fO (eC (.int 1))))) (aCons (fO (eOp fSub (oSl 1) (fO (eC (.int 1))))) aNil)))) (aCons (fO (eRd 2)) (aCons (fO (eC (.int 1))) aNil))))) sNx)))
def R_law_stirling : Nat → Gam → Out R
  | 0 => fun _ => .bad
  | n + 1 => fnB 1 (s_law_stirling (R_law_stirling n))
abbrev B_law_stirling : Gam → Out R := R_law_stirling 8
theorem step_law_stirling (B : Blt mg) (CC : Cl K mg cls) (h : Here K mg "_law_stirling" 61) (H_law_plus : Has P w K mg base cls 1 "_law_plus" 3 F_law_plus) (H_law_times : Has P w K mg base cls 1 "_law_times" 2 F_law_times) (H_law_steps_of : Has P w K mg base cls 1 "_law_steps_of" 1 F_law_steps_of) (k : Nat) (hk : 1 ≤ k) {F : Gam → Out R} (H_self : Has P w K mg base cls k "_law_stirling" 2 F) : Has P w K mg base cls (k + 1) "_law_stirling" 2 (fnB 1 (s_law_stirling F)) := by
  obtain ⟨f, fd, FP, g⟩ := h.ex
  obtain ⟨f_law_plus, fd_law_plus, ps_law_plus, O_law_plus, g_law_plus, k_law_plus, b_law_plus⟩ := H_law_plus.ex
  obtain ⟨f_law_times, fd_law_times, ps_law_times, O_law_times, g_law_times, k_law_times, b_law_times⟩ := H_law_times.ex
  obtain ⟨f_law_steps_of, fd_law_steps_of, ps_law_steps_of, O_law_steps_of, g_law_steps_of, k_law_steps_of, b_law_steps_of⟩ := H_law_steps_of.ex
  obtain ⟨f_self, fd_self, ps_self, O_self, g_self, k_self, b_self⟩ := H_self.ex
  have nd := sc_law_stirling.nd
  refine ⟨f, fd, ["size", "blocks"], FP.ok (N := N_law_stirling) sc_law_stirling (fun vs H Q E h => h.1) (fun cdv A outer s H vs Q E hr h => ⟨_, PSs.nox ?_, fn_reads (N := N_law_stirling) (m := 1) rfl vs Q E h⟩), g, FP.kp, FP.bindsN fun _ _ _ _ _ _ us hl => match us, hl with | [_, _], _ => rfl⟩
  exact (tps_cons (tps_if (PW.pt (tpw_or (cmT (op_eqA hr.units) (ok_eqA rfl) (sl 0) (to_val cI)) (tpw_or1 (cmT (op_eqA hr.units) (ok_eqA rfl) (sl 1) (to_val cI))))) (tps_cons (tps_ret (tpe_if (cmT (op_eqA hr.units) (ok_eqA rfl) (sl 0) (sl 1)) (di1 hr.units true (to_val (tpe_tup (a1 (to_val cI) (a1 (to_val cI) tpa_nil)))) (to_val cI)) tpe_newT)) tps_nil) tps_nil) (tps_cons (stv 2 nd (cu O_law_times hr g_law_times k_law_times b_law_times (a1 (to_val (cu O_law_steps_of hr g_law_steps_of k_law_steps_of b_law_steps_of (a1 (to_val (rd 1)) tpa_nil) (hj := by omega))) (a1 (to_val (cu O_self hr g_self k_self b_self (a1 (to_val (tpe_op op_sub ok_sub (sl 0) (to_val cI))) (a1 (to_val (rd 1)) tpa_nil)) (hj := by omega))) tpa_nil)) (hj := by omega))) (tps_cons (tps_ret (cu O_law_plus hr g_law_plus k_law_plus b_law_plus (a1 (to_val (cu O_self hr g_self k_self b_self (a1 (to_val (tpe_op op_sub ok_sub (sl 0) (to_val cI))) (a1 (to_val (tpe_op op_sub ok_sub (sl 1) (to_val cI))) tpa_nil)) (hj := by omega))) (a1 (to_val (rd 2)) (a1 (to_val cI) tpa_nil))) (hj := by omega))) tps_nil)))
theorem rec_law_stirling (B : Blt mg) (CC : Cl K mg cls) (h : Here K mg "_law_stirling" 61) (H_law_plus : Has P w K mg base cls 1 "_law_plus" 3 F_law_plus) (H_law_times : Has P w K mg base cls 1 "_law_times" 2 F_law_times) (H_law_steps_of : Has P w K mg base cls 1 "_law_steps_of" 1 F_law_steps_of) : ∀ n : Nat, Has P w K mg base cls (1 + 1 + n) "_law_stirling" 2 (R_law_stirling n)
  | 0 => by
    obtain ⟨f, fd, FP, g⟩ := h.ex
    exact ⟨f, fd, ["size", "blocks"], ⟨fun vs H Q E ⟨_, _, _, _, _, p⟩ => p.elim, fun A outer s H args us vs Q E _ _ _ _ ⟨_, _, _, _, _, p⟩ => p.elim⟩, g, FP.kp, FP.bindsN fun _ _ _ _ _ _ us hl => match us, hl with | [_, _], _ => rfl⟩
  | n + 1 => step_law_stirling B CC h H_law_plus H_law_times H_law_steps_of (1 + 1 + n) (by omega) (rec_law_stirling B CC h H_law_plus H_law_times H_law_steps_of n)
theorem ok_law_stirling (B : Blt mg) (CC : Cl K mg cls) (h : Here K mg "_law_stirling" 61) (H_law_plus : Has P w K mg base cls 1 "_law_plus" 3 F_law_plus) (H_law_times : Has P w K mg base cls 1 "_law_times" 2 F_law_times) (H_law_steps_of : Has P w K mg base cls 1 "_law_steps_of" 1 F_law_steps_of) : Has P w K mg base cls 10 "_law_stirling" 2 B_law_stirling := rec_law_stirling B CC h H_law_plus H_law_times H_law_steps_of 8
abbrev F_law_stirling := B_law_stirling
def s_law_parted : Gam → OutS := (sSeq (sSet 2 (eCallN 2 F_law_stirling (aCons (fO (eRd 0)) (aCons (fO (eRd 1)) aNil)))) (sSeq (sFor (mRng2 (aCons (fO (eC (.int 1))) (aCons (fO (eOp fAdd (oSl 1) (fO (eC (.int 1))))) aNil))) (gNm 3) (sSeq (sSet 2 (eCallN 2 F_law_times (aCons (fO (eRd 2)) (aCons (fO (eCallN 1 F_law_steps_of (aCons (fO (eRd 3)) aNil))) aNil)))) sNx)) (sSeq (sRet (eMv 2)) sNx)))
def B_law_parted : Gam → Out R := fnB 2 s_law_parted
theorem ok_law_parted (B : Blt mg) (CC : Cl K mg cls) (h : Here K mg "_law_parted" 62) (H_law_times : Has P w K mg base cls 1 "_law_times" 2 F_law_times) (H_law_steps_of : Has P w K mg base cls 1 "_law_steps_of" 1 F_law_steps_of) (H_law_stirling : Has P w K mg base cls 10 "_law_stirling" 2 F_law_stirling) : Has P w K mg base cls 11 "_law_parted" 2 B_law_parted := by
  obtain ⟨f, fd, FP, g⟩ := h.ex
  obtain ⟨f_law_times, fd_law_times, ps_law_times, O_law_times, g_law_times, k_law_times, b_law_times⟩ := H_law_times.ex
  obtain ⟨f_law_steps_of, fd_law_steps_of, ps_law_steps_of, O_law_steps_of, g_law_steps_of, k_law_steps_of, b_law_steps_of⟩ := H_law_steps_of.ex
  obtain ⟨f_law_stirling, fd_law_stirling, ps_law_stirling, O_law_stirling, g_law_stirling, k_law_stirling, b_law_stirling⟩ := H_law_stirling.ex
  have nd := sc_law_parted.nd
  refine ⟨f, fd, ["size", "blocks"], FP.ok (N := N_law_parted) sc_law_parted (fun vs H Q E h => h.1) (fun cdv A outer s H vs Q E hr h => ⟨_, PSs.nox ?_, fn_reads (N := N_law_parted) (m := 2) rfl vs Q E h⟩), g, FP.kp, FP.bindsN fun _ _ _ _ _ _ us hl => match us, hl with | [_, _], _ => rfl⟩
  exact (tps_cons (stv 2 nd (cu O_law_stirling hr g_law_stirling k_law_stirling b_law_stirling (a1 (to_val (rd 0)) (a1 (to_val (rd 1)) tpa_nil)) (hj := by omega))) (tps_cons (fr PassesOwn.never rfl (r2 B.range (a1 (to_val cI) (a1 (to_val (tpe_op op_addA (ok_add rfl) (sl 1) (to_val cI))) tpa_nil))) (gn 3 nd) (tps_cons (stv 2 nd (cu O_law_times hr g_law_times k_law_times b_law_times (a1 (to_val (rd 2)) (a1 (to_val (cu O_law_steps_of hr g_law_steps_of k_law_steps_of b_law_steps_of (a1 (to_val (rd 3)) tpa_nil) (hj := by omega))) tpa_nil)) (hj := by omega))) tps_nil)) (tps_cons (tps_ret (mv 2)) tps_nil)))
abbrev F_law_parted := B_law_parted
def s_law_upside : Gam → OutS := (sSeq (sSet 1 (eC (.int 0))) (sSeq (sFor (mEnum (aCons (fO (eRd 0)) aNil)) (gTp 2 (gsCons (gNm 2) (gsCons (gNm 3) gsNil))) (sSeq (sFor (mIter (fO (eSl (oSl 0) (pSome (fO (eOp fAdd (oSl 2) (fO (eC (.int 1)))))) pNone))) (gNm 4) (sSeq (sSet 1 (eOp fAdd (oSl 1) (fO (eCall bLen (aCons (fO (eLc (mIter (fO (eRd 3))) [5] (gNm 5) (toT (eOp fLtA (fO (eCall bMinA (aCons (oSl 4) aNil))) (oSl 5))) (fO (eC (.int 1))))) aNil))))) sNx)) sNx)) (sSeq (sRet (eMv 1)) sNx)))
def B_law_upside : Gam → Out R := fnB 5 s_law_upside
theorem ok_law_upside (B : Blt mg) (CC : Cl K mg cls) (h : Here K mg "_law_upside" 58) : Has P w K mg base cls 1 "_law_upside" 1 B_law_upside := by
  obtain ⟨f, fd, FP, g⟩ := h.ex
  have nd := sc_law_upside.nd
  refine ⟨f, fd, ["row"], FP.ok (N := N_law_upside) sc_law_upside (fun vs H Q E h => h.1) (fun cdv A outer s H vs Q E hr h => ⟨_, PSs.nox ?_, fn_reads (N := N_law_upside) (m := 5) rfl vs Q E h⟩), g, FP.kp, FP.bindsN fun _ _ _ _ _ _ us hl => match us, hl with | [_], _ => rfl⟩
  exact (tps_cons (stv 1 nd cI) (tps_cons (fr PassesOwn.never rfl (en rfl B.enumerate (a1 (to_val (rd 0)) tpa_nil)) (gt rfl rfl (gc (gn 2 nd) (gc (gn 3 nd) tpgs_nil))) (tps_cons (fr PassesOwn.never rfl (tpi_seq rfl (to_val (tpe_slice rfl (sl 0) (tpo_some (to_val (tpe_op op_addA (ok_add rfl) (sl 2) (to_val cI)))) tpo_none))) (gn 4 nd) (tps_cons (stv 1 nd (tpe_op op_addA (ok_add rfl) (sl 1) (to_val (cb call_len_seq (ok_len rfl) B.len rfl (a1 (to_val (tpe_lc (own := [("one", 5)]) rfl nd (tpi_seq rfl (to_val (rd 3))) (blkOk_by (N := N_law_upside) (sc := (defScope (top 58))) (own := [("one", 5)]) (by decide +kernel)) (fun _ _ _ _ _ => (gn 5 nd)) (fun _ _ _ _ _ => (tpts_one (cmT (op_ltA hr.units) (ok_ltA rfl) (to_val (cb (cr_minA rfl) (ok_minA rfl) B.min rfl (a1 (sl 4) tpa_nil))) (sl 5)))) (fun _ _ _ _ _ => (to_val cI)) (by intro _; rfl) (by decide))) tpa_nil))))) tps_nil)) tps_nil)) (tps_cons (tps_ret (mv 1)) tps_nil)))
abbrev F_law_upside := B_law_upside
def s_law_by_upside : Gam → OutS := (sSeq (sSet 1 (eNewD true)) (sSeq (sFor (mIter (fO (eRd 0))) (gNm 2) (sSeq (sSet 3 (eTup (aCons (fO (eCallN 1 F_law_upside (aCons (fO (eRd 2)) aNil))) (aCons (fO (eC (.int 0))) aNil)))) (sSeq (sPut 1 (fO (eOp fAdd (fO (eGet2 (oSl 1) (oSl 3) (fO (eC (.int 0))))) (fO (eC (.int 1))))) (oSl 3)) sNx))) (sSeq (sRet (eMv 1)) sNx)))
def B_law_by_upside : Gam → Out R := fnB 3 s_law_by_upside
theorem ok_law_by_upside (B : Blt mg) (CC : Cl K mg cls) (h : Here K mg "_law_by_upside" 59) (H_law_upside : Has P w K mg base cls 1 "_law_upside" 1 F_law_upside) : Has P w K mg base cls 2 "_law_by_upside" 1 B_law_by_upside := by
  obtain ⟨f, fd, FP, g⟩ := h.ex
  obtain ⟨f_law_upside, fd_law_upside, ps_law_upside, O_law_upside, g_law_upside, k_law_upside, b_law_upside⟩ := H_law_upside.ex
  have nd := sc_law_by_upside.nd
  refine ⟨f, fd, ["rows"], FP.ok (N := N_law_by_upside) sc_law_by_upside (fun vs H Q E h => h.1) (fun cdv A outer s H vs Q E hr h => ⟨_, PSs.nox ?_, fn_reads (N := N_law_by_upside) (m := 3) rfl vs Q E h⟩), g, FP.kp, FP.bindsN fun _ _ _ _ _ _ us hl => match us, hl with | [_], _ => rfl⟩
  exact (tps_cons (stv 1 nd tpe_newT) (tps_cons (fr PassesOwn.never rfl (tpi_seq rfl (to_val (rd 0))) (gn 2 nd) (tps_cons (stv 3 nd (tpe_tup (a1 (to_val (cu O_law_upside hr g_law_upside k_law_upside b_law_upside (a1 (to_val (rd 2)) tpa_nil) (hj := by omega))) (a1 (to_val cI) tpa_nil)))) (tps_cons (pu hr.units (sl 1) (sl 3) (to_val (tpe_op op_addA (ok_add rfl) (to_val (gt2 hr.units (sl 1) (sl 3) (to_val cI))) (to_val cI)))) tps_nil))) (tps_cons (tps_ret (mv 1)) tps_nil)))
abbrev F_law_by_upside := B_law_by_upside
def s_number_power : Gam → OutS := (sSeq (sSet 2 (eC (.int 1))) (sSeq (sFor (mRng1 (aCons (oSl 1) aNil)) (gNm 3) (sSeq (sSet 2 (eOp fMulA (oSl 2) (oSl 0))) sNx)) (sSeq (sRet (eMv 2)) sNx)))
def B_number_power : Gam → Out R := fnB 2 s_number_power
theorem ok_number_power (B : Blt mg) (CC : Cl K mg cls) (h : Here K mg "number_power" 30) : Has P w K mg base cls 1 "number_power" 2 B_number_power := by
  obtain ⟨f, fd, FP, g⟩ := h.ex
  have nd := sc_number_power.nd
  refine ⟨f, fd, ["number", "many"], FP.ok (N := N_number_power) sc_number_power (fun vs H Q E h => h.1) (fun cdv A outer s H vs Q E hr h => ⟨_, PSs.nox ?_, fn_reads (N := N_number_power) (m := 2) rfl vs Q E h⟩), g, FP.kp, FP.bindsN fun _ _ _ _ _ _ us hl => match us, hl with | [_, _], _ => rfl⟩
  exact (tps_cons (stv 2 nd cI) (tps_cons (fr PassesOwn.never rfl (r1 B.range (a1 (sl 1) tpa_nil)) (gn 3 nd) (tps_cons (stv 2 nd (tpe_op op_mulA (ok_mulA rfl) (sl 2) (sl 0))) tps_nil)) (tps_cons (tps_ret (mv 2)) tps_nil)))
abbrev F_number_power := B_number_power
def s_power_pair : Gam → OutS := (sSeq (sRet (eIf (toT (eOp fGe (oSl 1) (fO (eC (.int 0))))) (eTup (aCons (fO (eCallN 2 F_number_power (aCons (fO (eRd 0)) (aCons (fO (eRd 1)) aNil)))) (aCons (fO (eC (.int 1))) aNil))) (eTup (aCons (fO (eC (.int 1))) (aCons (fO (eCallN 2 F_number_power (aCons (fO (eRd 0)) (aCons (fO (eNeg (oSl 1))) aNil)))) aNil))))) sNx)
def B_power_pair : Gam → Out R := fnB 0 s_power_pair
theorem ok_power_pair (B : Blt mg) (CC : Cl K mg cls) (h : Here K mg "power_pair" 31) (H_number_power : Has P w K mg base cls 1 "number_power" 2 F_number_power) : Has P w K mg base cls 2 "power_pair" 2 B_power_pair := by
  obtain ⟨f, fd, FP, g⟩ := h.ex
  obtain ⟨f_number_power, fd_number_power, ps_number_power, O_number_power, g_number_power, k_number_power, b_number_power⟩ := H_number_power.ex
  have nd := sc_power_pair.nd
  refine ⟨f, fd, ["number", "power"], FP.ok (N := N_power_pair) sc_power_pair (fun vs H Q E h => h.1) (fun cdv A outer s H vs Q E hr h => ⟨_, PSs.nox ?_, fn_reads (N := N_power_pair) (m := 0) rfl vs Q E h⟩), g, FP.kp, FP.bindsN fun _ _ _ _ _ _ us hl => match us, hl with | [_, _], _ => rfl⟩
  exact (tps_cons (tps_ret (tpe_if (cmT op_ge ok_ge (sl 1) (to_val cI)) (tpe_tup (a1 (to_val (cu O_number_power hr g_number_power k_number_power b_number_power (a1 (to_val (rd 0)) (a1 (to_val (rd 1)) tpa_nil)) (hj := by omega))) (a1 (to_val cI) tpa_nil))) (tpe_tup (a1 (to_val cI) (a1 (to_val (cu O_number_power hr g_number_power k_number_power b_number_power (a1 (to_val (rd 0)) (a1 (to_val (tpe_neg (sl 1))) tpa_nil)) (hj := by omega))) tpa_nil))))) tps_nil)
abbrev F_power_pair := B_power_pair
def s_span_of : Gam → OutS := (sSeq (sSet 2 (eLc (mIter (fO (eAt 1 0 (oSl 0)))) [3] (gNm 3) mYes (fO (eOp fIxD (oSl 3) (oSl 1))))) (sSeq (sRet (eTup (aCons (fO (eCall bMinA (aCons (oSl 2) aNil))) (aCons (fO (eCall bMaxA (aCons (oSl 2) aNil))) aNil)))) sNx))
def B_span_of : Gam → Out R := fnB 2 s_span_of
theorem ok_span_of (B : Blt mg) (CC : Cl K mg cls) (h : Here K mg "span_of" 29) : Has P w K mg base cls 1 "span_of" 2 B_span_of := by
  obtain ⟨f, fd, FP, g⟩ := h.ex
  have nd := sc_span_of.nd
  refine ⟨f, fd, ["poly", "place"], FP.ok (N := N_span_of) sc_span_of (fun vs H Q E h => h.1) (fun cdv A outer s H vs Q E hr h => ⟨_, PSs.nox ?_, fn_reads (N := N_span_of) (m := 2) rfl vs Q E h⟩), g, FP.kp, FP.bindsN fun _ _ _ _ _ _ us hl => match us, hl with | [_, _], _ => rfl⟩
  exact (tps_cons (tps_setLc (i := 2) (own := [("powers", 3)]) rfl nd rfl rfl (sw_true rfl rfl rfl (by decide +kernel)) (tpi_seq rfl (to_val (tpe_at CC.s_own_terms (sl 0)))) (blkOk_by (N := N_span_of) (sc := (defScope (top 29))) (own := [("powers", 3)]) (by decide +kernel)) (fun _ _ _ _ _ => (gn 3 nd)) (fun _ _ _ _ _ => tpts_nil) (fun _ _ _ _ _ => (to_val (ixd hr.units rfl (sl 3) (sl 1)))) (by intro _; rfl) (by decide)) (tps_cons (tps_ret (tpe_tup (a1 (to_val (cb (cr_minA rfl) (ok_minA rfl) B.min rfl (a1 (sl 2) tpa_nil))) (a1 (to_val (cb (cr_maxA rfl) ok_maxA B.max rfl (a1 (sl 2) tpa_nil))) tpa_nil)))) tps_nil))
abbrev F_span_of := B_span_of
def s_value_at : Gam → OutS := (sSeq (sIf (toT (eOp (fEqD false) (fO (eAt 1 0 (oSl 0))) (fO (eNewD true)))) (sSeq (sRet (eTup (aCons (fO (eC (.int 0))) (aCons (fO (eC (.int 1))) aNil)))) sNx) sNx) (sSeq (sPar2 3 4 (eOp fIxD (fO (eCallN 2 F_span_of (aCons (fO (eRd 0)) (aCons (fO (eC (.int 0))) aNil)))) (fO (eC (.int 0)))) (eOp fIxD (fO (eCallN 2 F_span_of (aCons (fO (eRd 0)) (aCons (fO (eC (.int 1))) aNil)))) (fO (eC (.int 0))))) (sSeq (sSet 5 (eVw (fO (eAt 1 0 (oSl 0))))) (sSeq (sSet 6 (eCall bSum (aCons (fO (eLc (mVw (fO (eRd 5))) [16, 14, 15] (gTp 2 (gsCons (gTp 2 (gsCons (gNm 14) (gsCons (gNm 15) gsNil))) (gsCons (gNm 16) gsNil))) mYes (fO (eOp fMulA (fO (eOp fMulA (oSl 16) (fO (eCallN 2 F_number_power (aCons (fO (eRd 1)) (aCons (fO (eOp fSub (oSl 14) (oSl 3))) aNil)))))) (fO (eCallN 2 F_number_power (aCons (fO (eRd 2)) (aCons (fO (eOp fSub (oSl 15) (oSl 4))) aNil)))))))) aNil))) (sSeq (sAsg (fO (eTup (aCons (fO (eCallN 2 F_power_pair (aCons (fO (eRd 1)) (aCons (fO (eRd 3)) aNil)))) (aCons (fO (eCallN 2 F_power_pair (aCons (fO (eRd 2)) (aCons (fO (eRd 4)) aNil)))) aNil)))) (gTp 2 (gsCons (gTp 2 (gsCons (gNm 7) (gsCons (gNm 8) gsNil))) (gsCons (gTp 2 (gsCons (gNm 9) (gsCons (gNm 10) gsNil))) gsNil)))) (sSeq (sPar2 11 12 (eOp fMulA (fO (eOp fMulA (oSl 6) (oSl 7))) (oSl 9)) (eOp fMulA (oSl 8) (oSl 10))) (sSeq (sSet 13 (eIf (toT (eOp fGt (oSl 12) (fO (eC (.int 0))))) (eCall bGcd (aCons (oSl 11) (aCons (oSl 12) aNil))) (eNeg (fO (eCall bGcd (aCons (oSl 11) (aCons (oSl 12) aNil))))))) (sSeq (sRet (eTup (aCons (fO (eOp fDiv (oSl 11) (oSl 13))) (aCons (fO (eOp fDiv (oSl 12) (oSl 13))) aNil)))) sNx))))))))
def B_value_at : Gam → Out R := fnB 14 s_value_at
theorem ok_value_at (B : Blt mg) (CC : Cl K mg cls) (h : Here K mg "value_at" 32) (H_power_pair : Has P w K mg base cls 2 "power_pair" 2 F_power_pair) (H_number_power : Has P w K mg base cls 1 "number_power" 2 F_number_power) (H_span_of : Has P w K mg base cls 1 "span_of" 2 F_span_of) : Has P w K mg base cls 3 "value_at" 3 B_value_at := by
  obtain ⟨f, fd, FP, g⟩ := h.ex
  obtain ⟨f_power_pair, fd_power_pair, ps_power_pair, O_power_pair, g_power_pair, k_power_pair, b_power_pair⟩ := H_power_pair.ex
  obtain ⟨f_number_power, fd_number_power, ps_number_power, O_number_power, g_number_power, k_number_power, b_number_power⟩ := H_number_power.ex
  obtain ⟨f_span_of, fd_span_of, ps_span_of, O_span_of, g_span_of, k_span_of, b_span_of⟩ := H_span_of.ex
  have nd := sc_value_at.nd
  refine ⟨f, fd, ["poly", "q", "t"], FP.ok (N := N_value_at) sc_value_at (fun vs H Q E h => h.1) (fun cdv A outer s H vs Q E hr h => ⟨_, PSs.nox ?_, fn_reads (N := N_value_at) (m := 14) rfl vs Q E h⟩), g, FP.kp, FP.bindsN fun _ _ _ _ _ _ us hl => match us, hl with | [_, _, _], _ => rfl⟩
  exact (tps_cons (tps_if (cmT (op_eqA hr.units) (ok_eqA rfl) (to_val (tpe_at CC.s_own_terms (sl 0))) (to_val tpe_newT)) (tps_cons (tps_ret (tpe_tup (a1 (to_val cI) (a1 (to_val cI) tpa_nil)))) tps_nil) tps_nil) (tps_cons (tps_unp2 (i := 3) (j := 4) rfl rfl nd rfl rfl (by first | exact Or.inl rfl | exact Or.inr rfl) (by first | exact Or.inl rfl | exact Or.inr rfl) (by first | exact Or.inl rfl | exact Or.inr rfl) (by first | exact Or.inl rfl | exact Or.inr rfl) (ixd hr.units rfl (to_val (cu O_span_of hr g_span_of k_span_of b_span_of (a1 (to_val (rd 0)) (a1 (to_val cI) tpa_nil)) (hj := by omega))) (to_val cI)) (ixd hr.units rfl (to_val (cu O_span_of hr g_span_of k_span_of b_span_of (a1 (to_val (rd 0)) (a1 (to_val cI) tpa_nil)) (hj := by omega))) (to_val cI)) rfl rfl rfl rfl rfl rfl rfl rfl rfl) (tps_cons (stv 5 nd (vwv (to_val (tpe_at CC.s_own_terms (sl 0))))) (tps_cons (stv 6 nd (cb (cr_sumB rfl) (ok_sum rfl) B.sum rfl (a1 (to_val (tpe_lc (own := [("entry", 16), ("i", 14), ("j", 15)]) rfl nd (vwi (to_val (rd 5))) (blkOk_by (N := N_value_at) (sc := (defScope (top 32))) (own := [("entry", 16), ("i", 14), ("j", 15)]) (by decide +kernel)) (fun _ _ _ _ _ => (gt rfl rfl (gc (gt rfl rfl (gc (gn 14 nd) (gc (gn 15 nd) tpgs_nil))) (gc (gn 16 nd) tpgs_nil)))) (fun _ _ _ _ _ => tpts_nil) (fun _ _ _ _ _ => (to_val (tpe_op op_mulA (ok_mulA rfl) (to_val (tpe_op op_mulA (ok_mulA rfl) (sl 16) (to_val (cu O_number_power hr g_number_power k_number_power b_number_power (a1 (to_val (rd 1)) (a1 (to_val (tpe_op op_sub ok_sub (sl 14) (sl 3))) tpa_nil)) (hj := by omega))))) (to_val (cu O_number_power hr g_number_power k_number_power b_number_power (a1 (to_val (rd 2)) (a1 (to_val (tpe_op op_sub ok_sub (sl 15) (sl 4))) tpa_nil)) (hj := by omega)))))) (by intro _; rfl) (by decide))) tpa_nil))) (tps_cons (sa (to_val (tpe_tup (a1 (to_val (cu O_power_pair hr g_power_pair k_power_pair b_power_pair (a1 (to_val (rd 1)) (a1 (to_val (rd 3)) tpa_nil)) (hj := by omega))) (a1 (to_val (cu O_power_pair hr g_power_pair k_power_pair b_power_pair (a1 (to_val (rd 2)) (a1 (to_val (rd 4)) tpa_nil)) (hj := by omega))) tpa_nil)))) (gt rfl rfl (gc (gt rfl rfl (gc (gn 7 nd) (gc (gn 8 nd) tpgs_nil))) (gc (gt rfl rfl (gc (gn 9 nd) (gc (gn 10 nd) tpgs_nil))) tpgs_nil)))) (tps_cons (tps_par2 (i := 11) (j := 12) rfl nd rfl rfl (by decide) rfl rfl (tpe_op op_mulA (ok_mulA rfl) (to_val (tpe_op op_mulA (ok_mulA rfl) (sl 6) (sl 7))) (sl 9)) (tpe_op op_mulA (ok_mulA rfl) (sl 8) (sl 10)) rfl rfl rfl rfl) (tps_cons (stv 13 nd (tpe_if (cmT op_gt ok_gt (sl 12) (to_val cI)) (tpe_callG cr_gcd ok_gcd B.gcd (a1 (sl 11) (a1 (sl 12) tpa_nil))) (tpe_neg (to_val (tpe_callG cr_gcd ok_gcd B.gcd (a1 (sl 11) (a1 (sl 12) tpa_nil))))))) (tps_cons (tps_ret (tpe_tup (a1 (to_val (tpe_op op_fdivW ok_div (sl 11) (sl 13))) (a1 (to_val (tpe_op op_fdivW ok_div (sl 12) (sl 13))) tpa_nil)))) tps_nil))))))))
abbrev F_value_at := B_value_at
def s_Poly_at : Gam → OutS := (sSeq (sFor (mIter (fO (eTup (aCons (fO (eRd 1)) (aCons (fO (eRd 2)) aNil))))) (gNm 3) (sSeq (sIf (bOr (bNot (toT (eCallN 3 F_is_within (aCons (fO (eRd 3)) (aCons (fO (eNeg (fO (eC (.int 1000))))) (aCons (fO (eC (.int 1000))) aNil)))))) (toT (eOp (fEqD false) (oSl 3) (fO (eC (.int 0)))))) (sSeq sBad sNx) sNx) sNx)) (sSeq (sRet (eCallN 3 F_value_at (aCons (fO (eRd 0)) (aCons (fO (eRd 1)) (aCons (fO (eRd 2)) aNil))))) sNx))
def B_Poly_at : Gam → Out R := fnB 1 s_Poly_at
theorem ok_Poly_at (B : Blt mg) (CC : Cl K mg cls) (h : HereM K (cls 1) "at" "Poly.at" (mtop 20 10)) (H_value_at : Has P w K mg base cls 3 "value_at" 3 F_value_at) (H_is_within : Has P w K mg base cls 2 "is_within" 3 F_is_within) : HasM P w K mg base cls 4 1 "at" 3 B_Poly_at := by
  obtain ⟨f, fd, FP, g⟩ := h.ex
  obtain ⟨f_value_at, fd_value_at, ps_value_at, O_value_at, g_value_at, k_value_at, b_value_at⟩ := H_value_at.ex
  obtain ⟨f_is_within, fd_is_within, ps_is_within, O_is_within, g_is_within, k_is_within, b_is_within⟩ := H_is_within.ex
  have nd := sc_Poly_at.nd
  refine ⟨f, fd, ["self", "q", "t"], FP.ok (N := N_Poly_at) sc_Poly_at (fun vs H Q E h => h.1) (fun cdv A outer s H vs Q E hr h => ⟨_, PSs.nox ?_, fn_reads (N := N_Poly_at) (m := 1) rfl vs Q E h⟩), g, FP.bindsN fun _ _ _ _ _ _ us hl => match us, hl with | [_, _, _], _ => rfl⟩
  exact (tps_cons (fr PassesOwn.never rfl (tpi_seq rfl (to_val (tpe_tup (a1 (to_val (rd 1)) (a1 (to_val (rd 2)) tpa_nil))))) (gn 3 nd) (tps_cons (tps_if (PW.pt (tpw_or (tpt_not (tv (cu O_is_within hr g_is_within k_is_within b_is_within (a1 (to_val (rd 3)) (a1 (to_val (tpe_neg (to_val (gI B.MOST_VALUE)))) (a1 (to_val (gI B.MOST_VALUE)) tpa_nil))) (hj := by omega)))) (tpw_or1 (cmT (op_eqA hr.units) (ok_eqA rfl) (sl 3) (to_val cI))))) (tps_cons tps_never tps_nil) tps_nil) tps_nil)) (tps_cons (tps_ret (cu O_value_at hr g_value_at k_value_at b_value_at (a1 (to_val (rd 0)) (a1 (to_val (rd 1)) (a1 (to_val (rd 2)) tpa_nil))) (hj := by omega))) tps_nil))
abbrev F_Poly_at := B_Poly_at
def s_require_parted : Gam → OutS := (sSeq (sIf (bNot (toT (eCallN 3 F_is_within (aCons (fO (eRd 0)) (aCons (fO (eC (.int 1))) (aCons (fO (eC (.int 6))) aNil)))))) (sSeq sBad sNx) sNx) sNx)
def B_require_parted : Gam → Out R := fnB 0 s_require_parted
theorem ok_require_parted (B : Blt mg) (CC : Cl K mg cls) (h : Here K mg "require_parted" 44) (H_is_within : Has P w K mg base cls 2 "is_within" 3 F_is_within) : Has P w K mg base cls 3 "require_parted" 1 B_require_parted := by
  obtain ⟨f, fd, FP, g⟩ := h.ex
  obtain ⟨f_is_within, fd_is_within, ps_is_within, O_is_within, g_is_within, k_is_within, b_is_within⟩ := H_is_within.ex
  have nd := sc_require_parted.nd
  refine ⟨f, fd, ["size"], FP.ok (N := N_require_parted) sc_require_parted (fun vs H Q E h => h.1) (fun cdv A outer s H vs Q E hr h => ⟨_, PSs.nox ?_, fn_reads (N := N_require_parted) (m := 0) rfl vs Q E h⟩), g, FP.kp, FP.bindsN fun _ _ _ _ _ _ us hl => match us, hl with | [_], _ => rfl⟩
  exact (tps_cons (tps_if (tpt_not (tv (cu O_is_within hr g_is_within k_is_within b_is_within (a1 (to_val (rd 0)) (a1 (to_val cI) (a1 (to_val (gI B.MOST_PARTED)) tpa_nil))) (hj := by omega)))) (tps_cons tps_never tps_nil) tps_nil) tps_nil)
abbrev F_require_parted := B_require_parted
def s_require_blocks : Gam → OutS := (sSeq (sExpr (eCallN 1 F_require_parted (aCons (fO (eRd 0)) aNil))) (sSeq (sIf (bNot (toT (eCallN 3 F_is_within (aCons (fO (eRd 1)) (aCons (fO (eC (.int 1))) (aCons (fO (eRd 0)) aNil)))))) (sSeq sBad sNx) sNx) sNx))
def B_require_blocks : Gam → Out R := fnB 0 s_require_blocks
theorem ok_require_blocks (B : Blt mg) (CC : Cl K mg cls) (h : Here K mg "require_blocks" 45) (H_is_within : Has P w K mg base cls 2 "is_within" 3 F_is_within) (H_require_parted : Has P w K mg base cls 3 "require_parted" 1 F_require_parted) : Has P w K mg base cls 4 "require_blocks" 2 B_require_blocks := by
  obtain ⟨f, fd, FP, g⟩ := h.ex
  obtain ⟨f_is_within, fd_is_within, ps_is_within, O_is_within, g_is_within, k_is_within, b_is_within⟩ := H_is_within.ex
  obtain ⟨f_require_parted, fd_require_parted, ps_require_parted, O_require_parted, g_require_parted, k_require_parted, b_require_parted⟩ := H_require_parted.ex
  have nd := sc_require_blocks.nd
  refine ⟨f, fd, ["size", "blocks"], FP.ok (N := N_require_blocks) sc_require_blocks (fun vs H Q E h => h.1) (fun cdv A outer s H vs Q E hr h => ⟨_, PSs.nox ?_, fn_reads (N := N_require_blocks) (m := 0) rfl vs Q E h⟩), g, FP.kp, FP.bindsN fun _ _ _ _ _ _ us hl => match us, hl with | [_, _], _ => rfl⟩
  exact (tps_cons (sx (cu O_require_parted hr g_require_parted k_require_parted b_require_parted (a1 (to_val (rd 0)) tpa_nil) (hj := by omega))) (tps_cons (tps_if (tpt_not (tv (cu O_is_within hr g_is_within k_is_within b_is_within (a1 (to_val (rd 1)) (a1 (to_val cI) (a1 (to_val (rd 0)) tpa_nil))) (hj := by omega)))) (tps_cons tps_never tps_nil) tps_nil) tps_nil))
abbrev F_require_blocks := B_require_blocks
def s_blocks_with : Gam → OutS := (sSeq (sRet (eLc (mRng1 (aCons (fO (eCall bLen (aCons (oSl 0) aNil))) aNil)) [2] (gNm 2) mYes (fO (eTup (aStar (fO (eSl (oSl 0) pNone (pSome (oSl 2)))) (aCons (fO (eTup (aStar (fO (eOp fIxD (oSl 0) (oSl 2))) (aCons (fO (eRd 1)) aNil)))) (aStar (fO (eSl (oSl 0) (pSome (fO (eOp fAdd (oSl 2) (fO (eC (.int 1)))))) pNone)) aNil))))))) sNx)
def B_blocks_with : Gam → Out R := fnB 1 s_blocks_with
theorem ok_blocks_with (B : Blt mg) (CC : Cl K mg cls) (h : Here K mg "blocks_with" 36) : Has P w K mg base cls 1 "blocks_with" 2 B_blocks_with := by
  obtain ⟨f, fd, FP, g⟩ := h.ex
  have nd := sc_blocks_with.nd
  refine ⟨f, fd, ["blocks", "number"], FP.ok (N := N_blocks_with) sc_blocks_with (fun vs H Q E h => h.1) (fun cdv A outer s H vs Q E hr h => ⟨_, PSs.nox ?_, fn_reads (N := N_blocks_with) (m := 1) rfl vs Q E h⟩), g, FP.kp, FP.bindsN fun _ _ _ _ _ _ us hl => match us, hl with | [_, _], _ => rfl⟩
  exact (tps_cons (tps_ret (tpe_lc (own := [("at", 2)]) rfl nd (r1 B.range (a1 (to_val (cb call_len_seq (ok_len rfl) B.len rfl (a1 (sl 0) tpa_nil))) tpa_nil)) (blkOk_by (N := N_blocks_with) (sc := (defScope (top 36))) (own := [("at", 2)]) (by decide +kernel)) (fun _ _ _ _ _ => (gn 2 nd)) (fun _ _ _ _ _ => tpts_nil) (fun _ _ _ _ _ => (to_val (tpe_tup (aS rfl (to_val (tpe_slice rfl (sl 0) tpo_none (tpo_some (sl 2)))) (a1 (to_val (tpe_tup (aS rfl (to_val (ixd hr.units rfl (sl 0) (sl 2))) (a1 (to_val (rd 1)) tpa_nil)))) (aS rfl (to_val (tpe_slice rfl (sl 0) (tpo_some (to_val (tpe_op op_addA (ok_add rfl) (sl 2) (to_val cI)))) tpo_none)) tpa_nil)))))) (by intro _; rfl) (by decide))) tps_nil)
abbrev F_blocks_with := B_blocks_with
def s_partings_in : Gam → OutS := (sSeq (sSet 2 (eLst (aCons (fO (eOp fMulA (fO (eTup (aCons (fO (eTup aNil)) aNil))) (oSl 1))) aNil))) (sSeq (sFor (mRng2 (aCons (fO (eC (.int 1))) (aCons (fO (eOp fAdd (oSl 0) (fO (eC (.int 1))))) aNil))) (gNm 3) (sSeq (sSet 2 (eLc2 (mIter (fO (eRd 2))) [4, 5] (gNm 4) mYes (mIter (fO (eCallN 2 F_blocks_with (aCons (fO (eRd 4)) (aCons (fO (eRd 3)) aNil))))) [5] (gNm 5) mYes (fO (eRd 5)))) sNx)) (sSeq (sRet (eCall bSortA (aCons (fO (eLc (mIter (fO (eRd 2))) [4] (gNm 4) (toT (eCall bAll (aCons (fO (eLc (mIter (fO (eRd 4))) [6] (gNm 6) mYes (fO (eOp (fEqD true) (oSl 6) (fO (eTup aNil)))))) aNil))) (fO (eRd 4)))) aNil))) sNx)))
def B_partings_in : Gam → Out R := fnB 5 s_partings_in
theorem ok_partings_in (B : Blt mg) (CC : Cl K mg cls) (h : Here K mg "partings_in" 37) (H_blocks_with : Has P w K mg base cls 1 "blocks_with" 2 F_blocks_with) : Has P w K mg base cls 2 "partings_in" 2 B_partings_in := by
  obtain ⟨f, fd, FP, g⟩ := h.ex
  obtain ⟨f_blocks_with, fd_blocks_with, ps_blocks_with, O_blocks_with, g_blocks_with, k_blocks_with, b_blocks_with⟩ := H_blocks_with.ex
  have nd := sc_partings_in.nd
  refine ⟨f, fd, ["size", "many"], FP.ok (N := N_partings_in) sc_partings_in (fun vs H Q E h => h.1) (fun cdv A outer s H vs Q E hr h => ⟨_, PSs.nox ?_, fn_reads (N := N_partings_in) (m := 5) rfl vs Q E h⟩), g, FP.kp, FP.bindsN fun _ _ _ _ _ _ us hl => match us, hl with | [_, _], _ => rfl⟩
  exact (tps_cons (stv 2 nd (tpe_lst (a1 (to_val (tpe_op op_mulA (ok_mulA rfl) (to_val (tpe_tup (a1 (to_val (tpe_tup tpa_nil)) tpa_nil))) (sl 1))) tpa_nil))) (tps_cons (fr PassesOwn.never rfl (r2 B.range (a1 (to_val cI) (a1 (to_val (tpe_op op_addA (ok_add rfl) (sl 0) (to_val cI))) tpa_nil))) (gn 3 nd) (tps_cons (tps_setLc2 (i := 2) (own := [("blocks", 4), ("later", 5)]) (vs1 := [5]) rfl nd rfl rfl (sw_true rfl rfl rfl (by decide +kernel)) (tpi_seq rfl (to_val (rd 2))) (blkOk_by (N := N_partings_in) (sc := (defScope (top 37))) (own := [("blocks", 4), ("later", 5)]) (by decide +kernel)) (by decide) (fun _ _ _ _ _ => (gn 4 nd)) (fun _ _ _ _ _ => tpts_nil) (fun _ _ _ _ _ => (tpi_seq rfl (to_val (cu O_blocks_with hr g_blocks_with k_blocks_with b_blocks_with (a1 (to_val (rd 4)) (a1 (to_val (rd 3)) tpa_nil)) (hj := by omega))))) (fun _ _ _ _ _ => (gn 5 nd)) (fun _ _ _ _ _ => tpts_nil) (fun _ _ _ _ _ => (to_val (rd 5))) (by intro _; rfl) (by intro _ _; rfl) (by decide) (by decide)) tps_nil)) (tps_cons (tps_ret (cb (cr_sortA rfl hr.units) (ok_sortA rfl) B.sorted rfl (a1 (to_val (tpe_lc (own := [("blocks", 4)]) rfl nd (tpi_seq rfl (to_val (rd 2))) (blkOk_by (N := N_partings_in) (sc := (defScope (top 37))) (own := [("blocks", 4)]) (by decide +kernel)) (fun _ _ _ _ _ => (gn 4 nd)) (fun _ _ _ _ _ => (tpts_one (tv (cb (cr_all rfl) ok_all B.all rfl (a1 (to_val (tpe_lc (own := [("block", 6)]) rfl nd (tpi_seq rfl (to_val (rd 4))) (blkOk_by (N := N_partings_in) (sc := { kind := .function, names := [(".0", .local), ("blocks", .local), ("all", .globalImplicit)], isGenerator := false, isCoroutine := false }) (own := [("block", 6)]) (by decide +kernel)) (fun _ _ _ _ _ => (gn 6 nd)) (fun _ _ _ _ _ => tpts_nil) (fun _ _ _ _ _ => (to_val (cm (op_neA hr.units) (ok_neA rfl) (sl 6) (to_val (tpe_tup tpa_nil))))) (by intro _; rfl) (by decide))) tpa_nil))))) (fun _ _ _ _ _ => (to_val (rd 4))) (by intro _; rfl) (by decide))) tpa_nil))) tps_nil)))
abbrev F_partings_in := B_partings_in
def B_partings : Gam → Out (List D) := fnG 1 (sExpr (eCallN 2 F_require_blocks (aCons (fO (eRd 0)) (aCons (fO (eRd 1)) aNil)))) (mIter (fO (eCallN 2 F_partings_in (aCons (fO (eRd 0)) (aCons (fO (eRd 1)) aNil))))) (gNm 2) (eRd 2)
theorem ok_partings (B : Blt mg) (CC : Cl K mg cls) (h : Here K mg "partings" 46) (H_require_blocks : Has P w K mg base cls 4 "require_blocks" 2 F_require_blocks) (H_partings_in : Has P w K mg base cls 2 "partings_in" 2 F_partings_in) : HasG P w K mg base cls 5 "partings" 2 B_partings := by
  obtain ⟨f, fd, FP, g⟩ := h.ex
  obtain ⟨f_require_blocks, fd_require_blocks, ps_require_blocks, O_require_blocks, g_require_blocks, k_require_blocks, b_require_blocks⟩ := H_require_blocks.ex
  obtain ⟨f_partings_in, fd_partings_in, ps_partings_in, O_partings_in, g_partings_in, k_partings_in, b_partings_in⟩ := H_partings_in.ex
  have nd := sc_partings.nd
  obtain ⟨oc, od, dV, kV, doc, pm, an, cdv, ct, osl, e, lk, hcd, _, _⟩ := FP.ex
  have bb : Binds K fd ["size", "blocks"] [] := FP.bindsN fun _ _ _ _ _ _ us hl => match us, hl with | [_, _], _ => rfl
  subst e
  refine ⟨f, _, ["size", "blocks"], gfn_of lk hcd sc_partings (fun vs H Q E h => h.1) (fun A outer s H vs Q E pn hr h => ⟨_, ?_, gen_reads (N := N_partings) (S := [2]) (m := 1) rfl vs Q E h⟩), g, FP.kp, bb⟩
  exact gss_gen owns_gcx rfl (sx (cu O_require_blocks hr g_require_blocks k_require_blocks b_require_blocks (a1 (to_val (rd 0)) (a1 (to_val (rd 1)) tpa_nil)) (hj := by omega))) (tpi_seq rfl (to_val (cu O_partings_in hr g_partings_in k_partings_in b_partings_in (a1 (to_val (rd 0)) (a1 (to_val (rd 1)) tpa_nil)) (hj := by omega)))) (gn 2 nd) (rd 2) (by intro _; rfl) rfl rfl
abbrev F_partings := B_partings
def s_is_integer : Gam → OutS := (sSeq (sRet (eAnd (eCallN 1 F_is_whole_number (aCons (fO (eRd 0)) aNil)) (eChain fLtA fLtA (fO (eNeg (fO (eC (.int 1000000000000000000000000000000000000000000000000000000000000))))) (oSl 0) (fO (eC (.int 1000000000000000000000000000000000000000000000000000000000000)))))) sNx)
def B_is_integer : Gam → Out R := fnB 0 s_is_integer
theorem ok_is_integer (B : Blt mg) (CC : Cl K mg cls) (h : Here K mg "is_integer" 15) (H_is_whole_number : Has P w K mg base cls 1 "is_whole_number" 1 F_is_whole_number) : Has P w K mg base cls 2 "is_integer" 1 B_is_integer := by
  obtain ⟨f, fd, FP, g⟩ := h.ex
  obtain ⟨f_is_whole_number, fd_is_whole_number, ps_is_whole_number, O_is_whole_number, g_is_whole_number, k_is_whole_number, b_is_whole_number⟩ := H_is_whole_number.ex
  have nd := sc_is_integer.nd
  refine ⟨f, fd, ["value"], FP.ok (N := N_is_integer) sc_is_integer (fun vs H Q E h => h.1) (fun cdv A outer s H vs Q E hr h => ⟨_, PSs.nox ?_, fn_reads (N := N_is_integer) (m := 0) rfl vs Q E h⟩), g, FP.kp, FP.bindsN fun _ _ _ _ _ _ us hl => match us, hl with | [_], _ => rfl⟩
  exact (tps_cons (tps_ret (tpe_and (cu O_is_whole_number hr g_is_whole_number k_is_whole_number b_is_whole_number (a1 (to_val (rd 0)) tpa_nil) (hj := by omega)) (tpe_one (ch (op_ltA hr.units) (op_ltA hr.units) (ok_ltA rfl) (ok_ltA rfl) (to_val (tpe_neg (to_val (gI B.SIXTY)))) (sl 0) (to_val (gI B.SIXTY)))))) tps_nil)
abbrev F_is_integer := B_is_integer
def s_is_row : Gam → OutS := (sSeq (sIf (bOr (bNot (toT (eCall bIsi (aCons (oSl 0) (aCons (fO (eC (.ty "tuple"))) aNil))))) (bOr (toT (eOp (fEqD true) (fO (eCall bLen (aCons (oSl 0) aNil))) (fO (eC (.int 3))))) (bNot (toT (eCall bAll (aCons (fO (eLc (mIter (fO (eRd 0))) [1] (gNm 1) mYes (fO (eCallN 1 F_is_integer (aCons (fO (eRd 1)) aNil))))) aNil)))))) (sSeq (sRet (eC (.bl false))) sNx) sNx) (sSeq (sRet (eAnd (eOp fLe (fO (eCall bAbs (aCons (fO (eOp fIxD (oSl 0) (fO (eC (.int 0))))) aNil))) (fO (eC (.int 200)))) (eAnd (eOp fLe (fO (eCall bAbs (aCons (fO (eOp fIxD (oSl 0) (fO (eC (.int 1))))) aNil))) (fO (eC (.int 200)))) (eOp (fEqD true) (fO (eOp fIxD (oSl 0) (fO (eC (.int 2))))) (fO (eC (.int 0))))))) sNx))
def B_is_row : Gam → Out R := fnB 1 s_is_row
theorem ok_is_row (B : Blt mg) (CC : Cl K mg cls) (h : Here K mg "is_row" 17) (H_is_integer : Has P w K mg base cls 2 "is_integer" 1 F_is_integer) : Has P w K mg base cls 3 "is_row" 1 B_is_row := by
  obtain ⟨f, fd, FP, g⟩ := h.ex
  obtain ⟨f_is_integer, fd_is_integer, ps_is_integer, O_is_integer, g_is_integer, k_is_integer, b_is_integer⟩ := H_is_integer.ex
  have nd := sc_is_row.nd
  refine ⟨f, fd, ["value"], FP.ok (N := N_is_row) sc_is_row (fun vs H Q E h => h.1) (fun cdv A outer s H vs Q E hr h => ⟨_, PSs.nox ?_, fn_reads (N := N_is_row) (m := 1) rfl vs Q E h⟩), g, FP.kp, FP.bindsN fun _ _ _ _ _ _ us hl => match us, hl with | [_], _ => rfl⟩
  exact (tps_cons (tps_if (PW.pt (tpw_or (tpt_not (tv (cb call_isi (ok_isi rfl) B.isinstance rfl (a1 (sl 0) (a1 (to_val (bT B.tuple rfl)) tpa_nil))))) (tpw_or (cmT (op_neA hr.units) (ok_neA rfl) (to_val (cb call_len_seq (ok_len rfl) B.len rfl (a1 (sl 0) tpa_nil))) (to_val (gI B.ROW_SIZE))) (tpw_or1 (tpt_not (tv (cb (cr_all rfl) ok_all B.all rfl (a1 (to_val (tpe_lc (own := [("entry", 1)]) rfl nd (tpi_seq rfl (to_val (rd 0))) (blkOk_by (N := N_is_row) (sc := (defScope (top 17))) (own := [("entry", 1)]) (by decide +kernel)) (fun _ _ _ _ _ => (gn 1 nd)) (fun _ _ _ _ _ => tpts_nil) (fun _ _ _ _ _ => (to_val (cu O_is_integer hr g_is_integer k_is_integer b_is_integer (a1 (to_val (rd 1)) tpa_nil) (hj := by omega)))) (by intro _; rfl) (by decide))) tpa_nil)))))))) (tps_cons (tps_ret cB) tps_nil) tps_nil) (tps_cons (tps_ret (tpe_and (cm op_le ok_le (to_val (cb call_abs ok_abs B.abs rfl (a1 (to_val (ixd hr.units rfl (sl 0) (to_val cI))) tpa_nil))) (to_val (gI B.MOST_POWER))) (tpe_and (cm op_le ok_le (to_val (cb call_abs ok_abs B.abs rfl (a1 (to_val (ixd hr.units rfl (sl 0) (to_val cI))) tpa_nil))) (to_val (gI B.MOST_POWER))) (tpe_one (cm (op_neA hr.units) (ok_neA rfl) (to_val (ixd hr.units rfl (sl 0) (to_val cI))) (to_val cI)))))) tps_nil))
abbrev F_is_row := B_is_row
def s_are_rows : Gam → OutS := (sSeq (sIf (bOr (bNot (toT (eCall bIsi (aCons (oSl 0) (aCons (fO (eC (.ty "tuple"))) aNil))))) (bOr (toT (eOp fGt (fO (eCall bLen (aCons (oSl 0) aNil))) (fO (eC (.int 400))))) (bNot (toT (eCall bAll (aCons (fO (eLc (mIter (fO (eRd 0))) [1] (gNm 1) mYes (fO (eCallN 1 F_is_row (aCons (fO (eRd 1)) aNil))))) aNil)))))) (sSeq (sRet (eC (.bl false))) sNx) sNx) (sSeq (sRet (eCall bAll (aCons (fO (eLc (mZip (aCons (fO (eRd 0)) (aCons (fO (eSl (oSl 0) (pSome (fO (eC (.int 1)))) pNone)) aNil))) [1, 2] (gTp 2 (gsCons (gNm 1) (gsCons (gNm 2) gsNil))) mYes (fO (eOp fLtA (fO (eSl (oSl 1) pNone (pSome (fO (eC (.int 2)))))) (fO (eSl (oSl 2) pNone (pSome (fO (eC (.int 2)))))))))) aNil))) sNx))
def B_are_rows : Gam → Out R := fnB 2 s_are_rows
theorem ok_are_rows (B : Blt mg) (CC : Cl K mg cls) (h : Here K mg "are_rows" 18) (H_is_row : Has P w K mg base cls 3 "is_row" 1 F_is_row) : Has P w K mg base cls 4 "are_rows" 1 B_are_rows := by
  obtain ⟨f, fd, FP, g⟩ := h.ex
  obtain ⟨f_is_row, fd_is_row, ps_is_row, O_is_row, g_is_row, k_is_row, b_is_row⟩ := H_is_row.ex
  have nd := sc_are_rows.nd
  refine ⟨f, fd, ["value"], FP.ok (N := N_are_rows) sc_are_rows (fun vs H Q E h => h.1) (fun cdv A outer s H vs Q E hr h => ⟨_, PSs.nox ?_, fn_reads (N := N_are_rows) (m := 2) rfl vs Q E h⟩), g, FP.kp, FP.bindsN fun _ _ _ _ _ _ us hl => match us, hl with | [_], _ => rfl⟩
  exact (tps_cons (tps_if (PW.pt (tpw_or (tpt_not (tv (cb call_isi (ok_isi rfl) B.isinstance rfl (a1 (sl 0) (a1 (to_val (bT B.tuple rfl)) tpa_nil))))) (tpw_or (cmT op_gt ok_gt (to_val (cb call_len_seq (ok_len rfl) B.len rfl (a1 (sl 0) tpa_nil))) (to_val (gI B.MOST_ROWS))) (tpw_or1 (tpt_not (tv (cb (cr_all rfl) ok_all B.all rfl (a1 (to_val (tpe_lc (own := [("row", 1)]) rfl nd (tpi_seq rfl (to_val (rd 0))) (blkOk_by (N := N_are_rows) (sc := (defScope (top 18))) (own := [("row", 1)]) (by decide +kernel)) (fun _ _ _ _ _ => (gn 1 nd)) (fun _ _ _ _ _ => tpts_nil) (fun _ _ _ _ _ => (to_val (cu O_is_row hr g_is_row k_is_row b_is_row (a1 (to_val (rd 1)) tpa_nil) (hj := by omega)))) (by intro _; rfl) (by decide))) tpa_nil)))))))) (tps_cons (tps_ret cB) tps_nil) tps_nil) (tps_cons (tps_ret (cb (cr_all rfl) ok_all B.all rfl (a1 (to_val (tpe_lc (own := [("row", 1), ("later", 2)]) rfl nd (zp rfl B.zip (a1 (to_val (rd 0)) (a1 (to_val (tpe_slice rfl (sl 0) (tpo_some (to_val cI)) tpo_none)) tpa_nil))) (blkOk_by (N := N_are_rows) (sc := (defScope (top 18))) (own := [("row", 1), ("later", 2)]) (by decide +kernel)) (fun _ _ _ _ _ => (gt rfl rfl (gc (gn 1 nd) (gc (gn 2 nd) tpgs_nil)))) (fun _ _ _ _ _ => tpts_nil) (fun _ _ _ _ _ => (to_val (cm (op_ltA hr.units) (ok_ltA rfl) (to_val (tpe_slice rfl (sl 1) tpo_none (tpo_some (to_val cI)))) (to_val (tpe_slice rfl (sl 2) tpo_none (tpo_some (to_val cI))))))) (by intro _; rfl) (by decide))) tpa_nil))) tps_nil))
abbrev F_are_rows := B_are_rows
def s_Poly_init : Gam → OutS := (sSeq (sIf (toT (eCall (bIsiC 2 0) (aCons (oSl 1) (aCons (fO (eC (.fn 0))) aNil)))) (sSeq (sAt 0 1 0 (fO (eAt 0 0 (oSl 1)))) sNx) (sSeq (sIf (bNot (toT (eCallN 1 F_are_rows (aCons (fO (eRd 1)) aNil)))) (sSeq sBad sNx) sNx) (sSeq (sAt 0 1 0 (fO (eDc true (mIter (fO (eRd 1))) [2] (gNm 2) mYes (fO (eSl (oSl 2) pNone (pSome (fO (eC (.int 2)))))) (fO (eOp fIxD (oSl 2) (fO (eC (.int 2)))))))) sNx))) sNx)
def B_Poly_init : Gam → Out R := fnB 1 s_Poly_init
theorem ok_Poly_init (B : Blt mg) (CC : Cl K mg cls) (h : HereI K (cls 1) "Poly.__init__" (mtop 20 1)) (H_are_rows : Has P w K mg base cls 4 "are_rows" 1 F_are_rows) : HasI P w K mg base cls 5 1 2 B_Poly_init := by
  obtain ⟨f, fd, FP, g⟩ := h.ex
  obtain ⟨f_are_rows, fd_are_rows, ps_are_rows, O_are_rows, g_are_rows, k_are_rows, b_are_rows⟩ := H_are_rows.ex
  have nd := sc_Poly_init.nd
  refine ⟨f, fd, ["self", "rows"], FP.ok (N := N_Poly_init) sc_Poly_init (fun vs H Q E h => h.1) (fun cdv A outer s H vs Q E hr h => ⟨_, PSs.nox ?_, fn_reads (N := N_Poly_init) (m := 1) rfl vs Q E h⟩), g, FP.bindsN fun _ _ _ _ _ _ us hl => match us, hl with | [_, _], _ => rfl⟩
  exact (tps_cons (tps_if (tv (cb (SlX.call_isiSl _) (ok_isiC CC.i_KnownTerms) B.isinstance rfl (a1 (sl 1) (a1 (to_val (gC CC.g_KnownTerms)) tpa_nil)))) (tps_cons (tps_at CC.s_own_terms (sl 0) (to_val (tpe_at CC.s_own_dict (sl 1)))) tps_nil) (tps_cons (tps_if (tpt_not (tv (cu O_are_rows hr g_are_rows k_are_rows b_are_rows (a1 (to_val (rd 1)) tpa_nil) (hj := by omega)))) (tps_cons tps_never tps_nil) tps_nil) (tps_cons (tps_at CC.s_own_terms (sl 0) (to_val (dc (own := [("row", 2)]) true hr.units rfl nd (tpi_seq rfl (to_val (rd 1))) (blkOk_by (N := N_Poly_init) (sc := (defScope (mtop 20 1))) (own := [("row", 2)]) (by decide +kernel)) (fun _ _ _ _ _ => (gn 2 nd)) (fun _ _ _ _ _ => tpts_nil) (fun _ _ _ _ _ => (to_val (tpe_slice rfl (sl 2) tpo_none (tpo_some (to_val cI))))) (fun _ _ _ _ _ => (to_val (ixd hr.units rfl (sl 2) (to_val cI)))) (by intro _; rfl) (by decide)))) tps_nil))) tps_nil)
abbrev F_Poly_init := B_Poly_init
def s_KnownTerms_init : Gam → OutS := (sSeq (sAt 0 0 0 (fO (eRd 1))) sNx)
def B_KnownTerms_init : Gam → Out R := fnB 0 s_KnownTerms_init
theorem ok_KnownTerms_init (B : Blt mg) (CC : Cl K mg cls) (h : HereI K (cls 0) "KnownTerms.__init__" (mtop 19 1)) : HasI P w K mg base cls 1 0 2 B_KnownTerms_init := by
  obtain ⟨f, fd, FP, g⟩ := h.ex
  have nd := sc_KnownTerms_init.nd
  refine ⟨f, fd, ["self", "terms"], FP.ok (N := N_KnownTerms_init) sc_KnownTerms_init (fun vs H Q E h => h.1) (fun cdv A outer s H vs Q E hr h => ⟨_, PSs.nox ?_, fn_reads (N := N_KnownTerms_init) (m := 0) rfl vs Q E h⟩), g, FP.bindsN fun _ _ _ _ _ _ us hl => match us, hl with | [_, _], _ => rfl⟩
  exact (tps_cons (tps_at CC.s_own_dict (sl 0) (to_val (rd 1))) tps_nil)
abbrev F_KnownTerms_init := B_KnownTerms_init
def s_poly_of : Gam → OutS := (sSeq (sRet (eNewC 1 1 F_Poly_init (aCons (fO (eNewC 0 1 F_KnownTerms_init (aCons (fO (eDc true (mIter (fO (eCall bSortA (aCons (oSl 0) aNil)))) [1] (gNm 1) (toT (eOp (fEqD true) (fO (eOp fIxD (oSl 0) (oSl 1))) (fO (eC (.int 0))))) (oSl 1) (fO (eOp fIxD (oSl 0) (oSl 1))))) aNil))) aNil))) sNx)
def B_poly_of : Gam → Out R := fnB 1 s_poly_of
theorem ok_poly_of (B : Blt mg) (CC : Cl K mg cls) (h : Here K mg "poly_of" 21) (H_Poly_init : HasI P w K mg base cls 5 1 2 F_Poly_init) (H_KnownTerms_init : HasI P w K mg base cls 1 0 2 F_KnownTerms_init) : Has P w K mg base cls 7 "poly_of" 1 B_poly_of := by
  obtain ⟨f, fd, FP, g⟩ := h.ex
  obtain ⟨f_Poly_init, fd_Poly_init, ps_Poly_init, O_Poly_init, g_Poly_init, b_Poly_init⟩ := H_Poly_init.ex
  obtain ⟨f_KnownTerms_init, fd_KnownTerms_init, ps_KnownTerms_init, O_KnownTerms_init, g_KnownTerms_init, b_KnownTerms_init⟩ := H_KnownTerms_init.ex
  have nd := sc_poly_of.nd
  refine ⟨f, fd, ["terms"], FP.ok (N := N_poly_of) sc_poly_of (fun vs H Q E h => h.1) (fun cdv A outer s H vs Q E hr h => ⟨_, PSs.nox ?_, fn_reads (N := N_poly_of) (m := 1) rfl vs Q E h⟩), g, FP.kp, FP.bindsN fun _ _ _ _ _ _ us hl => match us, hl with | [_], _ => rfl⟩
  exact (tps_cons (tps_ret (nw g_Poly_init O_Poly_init (hr.mono (by omega)) CC.g_Poly b_Poly_init (a1 (to_val (nw g_KnownTerms_init O_KnownTerms_init (hr.mono (by omega)) CC.g_KnownTerms b_KnownTerms_init (a1 (to_val (dc (own := [("powers", 1)]) true hr.units rfl nd (tpi_seq rfl (to_val (cb (cr_sortA rfl hr.units) (ok_sortA rfl) B.sorted rfl (a1 (sl 0) tpa_nil)))) (blkOk_by (N := N_poly_of) (sc := (defScope (top 21))) (own := [("powers", 1)]) (by decide +kernel)) (fun _ _ _ _ _ => (gn 1 nd)) (fun _ _ _ _ _ => (tpts_one (cmT (op_neA hr.units) (ok_neA rfl) (to_val (ixd hr.units rfl (sl 0) (sl 1))) (to_val cI)))) (fun _ _ _ _ _ => (sl 1)) (fun _ _ _ _ _ => (to_val (ixd hr.units rfl (sl 0) (sl 1)))) (by intro _; rfl) (by decide))) tpa_nil))) tpa_nil))) tps_nil)
abbrev F_poly_of := B_poly_of
def s_one_poly : Gam → OutS := (sSeq (sRet (eCallN 1 F_poly_of (aCons (fO (eDisp1 true (fO (eTup (aCons (fO (eC (.int 0))) (aCons (fO (eC (.int 0))) aNil)))) (fO (eC (.int 1))))) aNil))) sNx)
def B_one_poly : Gam → Out R := fnB 0 s_one_poly
theorem ok_one_poly (B : Blt mg) (CC : Cl K mg cls) (h : Here K mg "one_poly" 23) (H_poly_of : Has P w K mg base cls 7 "poly_of" 1 F_poly_of) : Has P w K mg base cls 8 "one_poly" 0 B_one_poly := by
  obtain ⟨f, fd, FP, g⟩ := h.ex
  obtain ⟨f_poly_of, fd_poly_of, ps_poly_of, O_poly_of, g_poly_of, k_poly_of, b_poly_of⟩ := H_poly_of.ex
  have nd := sc_one_poly.nd
  refine ⟨f, fd, [], FP.ok (N := N_one_poly) sc_one_poly (fun vs H Q E h => h.1) (fun cdv A outer s H vs Q E hr h => ⟨_, PSs.nox ?_, fn_reads (N := N_one_poly) (m := 0) rfl vs Q E h⟩), g, FP.kp, FP.bindsN fun _ _ _ _ _ _ us hl => match us, hl with | [], _ => rfl⟩
  exact (tps_cons (tps_ret (cu O_poly_of hr g_poly_of k_poly_of b_poly_of (a1 (to_val (di1 hr.units true (to_val (tpe_tup (a1 (to_val cI) (a1 (to_val cI) tpa_nil)))) (to_val cI))) tpa_nil) (hj := by omega))) tps_nil)
abbrev F_one_poly := B_one_poly
def s_times_in : Gam → OutS := (sSeq (sSet 2 (eNewD true)) (sSeq (sFor (mItems (fO (eAt 1 0 (oSl 0)))) (gTp 2 (gsCons (gTp 2 (gsCons (gNm 3) (gsCons (gNm 4) gsNil))) (gsCons (gNm 5) gsNil))) (sSeq (sFor (mItems (fO (eAt 1 0 (oSl 1)))) (gTp 2 (gsCons (gTp 2 (gsCons (gNm 6) (gsCons (gNm 7) gsNil))) (gsCons (gNm 8) gsNil))) (sSeq (sPut 2 (fO (eOp fAdd (fO (eGet2 (oSl 2) (fO (eTup (aCons (fO (eOp fAdd (oSl 3) (oSl 6))) (aCons (fO (eOp fAdd (oSl 4) (oSl 7))) aNil)))) (fO (eC (.int 0))))) (fO (eOp fMulA (oSl 5) (oSl 8))))) (fO (eTup (aCons (fO (eOp fAdd (oSl 3) (oSl 6))) (aCons (fO (eOp fAdd (oSl 4) (oSl 7))) aNil))))) sNx)) sNx)) (sSeq (sRet (eCallN 1 F_poly_of (aCons (fO (eRd 2)) aNil))) sNx)))
def B_times_in : Gam → Out R := fnB 7 s_times_in
theorem ok_times_in (B : Blt mg) (CC : Cl K mg cls) (h : Here K mg "times_in" 26) (H_poly_of : Has P w K mg base cls 7 "poly_of" 1 F_poly_of) : Has P w K mg base cls 8 "times_in" 2 B_times_in := by
  obtain ⟨f, fd, FP, g⟩ := h.ex
  obtain ⟨f_poly_of, fd_poly_of, ps_poly_of, O_poly_of, g_poly_of, k_poly_of, b_poly_of⟩ := H_poly_of.ex
  have nd := sc_times_in.nd
  refine ⟨f, fd, ["one", "other"], FP.ok (N := N_times_in) sc_times_in (fun vs H Q E h => h.1) (fun cdv A outer s H vs Q E hr h => ⟨_, PSs.nox ?_, fn_reads (N := N_times_in) (m := 7) rfl vs Q E h⟩), g, FP.kp, FP.bindsN fun _ _ _ _ _ _ us hl => match us, hl with | [_, _], _ => rfl⟩
  exact (tps_cons (stv 2 nd tpe_newT) (tps_cons (fr PassesOwn.never rfl (it (to_val (tpe_at CC.s_own_terms (sl 0)))) (gt rfl rfl (gc (gt rfl rfl (gc (gn 3 nd) (gc (gn 4 nd) tpgs_nil))) (gc (gn 5 nd) tpgs_nil))) (tps_cons (fr PassesOwn.never rfl (it (to_val (tpe_at CC.s_own_terms (sl 1)))) (gt rfl rfl (gc (gt rfl rfl (gc (gn 6 nd) (gc (gn 7 nd) tpgs_nil))) (gc (gn 8 nd) tpgs_nil))) (tps_cons (pu hr.units (sl 2) (to_val (tpe_tup (a1 (to_val (tpe_op op_addA (ok_add rfl) (sl 3) (sl 6))) (a1 (to_val (tpe_op op_addA (ok_add rfl) (sl 4) (sl 7))) tpa_nil)))) (to_val (tpe_op op_addA (ok_add rfl) (to_val (gt2 hr.units (sl 2) (to_val (tpe_tup (a1 (to_val (tpe_op op_addA (ok_add rfl) (sl 3) (sl 6))) (a1 (to_val (tpe_op op_addA (ok_add rfl) (sl 4) (sl 7))) tpa_nil)))) (to_val cI))) (to_val (tpe_op op_mulA (ok_mulA rfl) (sl 5) (sl 8)))))) tps_nil)) tps_nil)) (tps_cons (tps_ret (cu O_poly_of hr g_poly_of k_poly_of b_poly_of (a1 (to_val (rd 2)) tpa_nil) (hj := by omega))) tps_nil)))
abbrev F_times_in := B_times_in
def s_poly_product : Gam → OutS := (sSeq (sSet 1 (eCallN 0 F_one_poly aNil)) (sSeq (sFor (mIter (fO (eRd 0))) (gNm 2) (sSeq (sSet 1 (eCallN 2 F_times_in (aCons (fO (eRd 1)) (aCons (fO (eRd 2)) aNil)))) sNx)) (sSeq (sRet (eMv 1)) sNx)))
def B_poly_product : Gam → Out R := fnB 2 s_poly_product
theorem ok_poly_product (B : Blt mg) (CC : Cl K mg cls) (h : Here K mg "poly_product" 27) (H_times_in : Has P w K mg base cls 8 "times_in" 2 F_times_in) (H_one_poly : Has P w K mg base cls 8 "one_poly" 0 F_one_poly) : Has P w K mg base cls 9 "poly_product" 1 B_poly_product := by
  obtain ⟨f, fd, FP, g⟩ := h.ex
  obtain ⟨f_times_in, fd_times_in, ps_times_in, O_times_in, g_times_in, k_times_in, b_times_in⟩ := H_times_in.ex
  obtain ⟨f_one_poly, fd_one_poly, ps_one_poly, O_one_poly, g_one_poly, k_one_poly, b_one_poly⟩ := H_one_poly.ex
  have nd := sc_poly_product.nd
  refine ⟨f, fd, ["polys"], FP.ok (N := N_poly_product) sc_poly_product (fun vs H Q E h => h.1) (fun cdv A outer s H vs Q E hr h => ⟨_, PSs.nox ?_, fn_reads (N := N_poly_product) (m := 2) rfl vs Q E h⟩), g, FP.kp, FP.bindsN fun _ _ _ _ _ _ us hl => match us, hl with | [_], _ => rfl⟩
  exact (tps_cons (stv 1 nd (cu0 O_one_poly hr g_one_poly k_one_poly b_one_poly (hj := by omega))) (tps_cons (fr PassesOwn.never rfl (tpi_seq rfl (to_val (rd 0))) (gn 2 nd) (tps_cons (stv 1 nd (cu O_times_in hr g_times_in k_times_in b_times_in (a1 (to_val (rd 1)) (a1 (to_val (rd 2)) tpa_nil)) (hj := by omega))) tps_nil)) (tps_cons (tps_ret (mv 1)) tps_nil)))
abbrev F_poly_product := B_poly_product
def s_poly_sum : Gam → OutS := (sSeq (sSet 1 (eNewD true)) (sSeq (sFor (mIter (fO (eRd 0))) (gNm 2) (sSeq (sFor (mItems (fO (eAt 1 0 (oSl 2)))) (gTp 2 (gsCons (gNm 3) (gsCons (gNm 4) gsNil))) (sSeq (sPut 1 (fO (eOp fAdd (fO (eGet2 (oSl 1) (oSl 3) (fO (eC (.int 0))))) (oSl 4))) (oSl 3)) sNx)) sNx)) (sSeq (sRet (eCallN 1 F_poly_of (aCons (fO (eRd 1)) aNil))) sNx)))
def B_poly_sum : Gam → Out R := fnB 4 s_poly_sum
theorem ok_poly_sum (B : Blt mg) (CC : Cl K mg cls) (h : Here K mg "poly_sum" 25) (H_poly_of : Has P w K mg base cls 7 "poly_of" 1 F_poly_of) : Has P w K mg base cls 8 "poly_sum" 1 B_poly_sum := by
  obtain ⟨f, fd, FP, g⟩ := h.ex
  obtain ⟨f_poly_of, fd_poly_of, ps_poly_of, O_poly_of, g_poly_of, k_poly_of, b_poly_of⟩ := H_poly_of.ex
  have nd := sc_poly_sum.nd
  refine ⟨f, fd, ["polys"], FP.ok (N := N_poly_sum) sc_poly_sum (fun vs H Q E h => h.1) (fun cdv A outer s H vs Q E hr h => ⟨_, PSs.nox ?_, fn_reads (N := N_poly_sum) (m := 4) rfl vs Q E h⟩), g, FP.kp, FP.bindsN fun _ _ _ _ _ _ us hl => match us, hl with | [_], _ => rfl⟩
  exact (tps_cons (stv 1 nd tpe_newT) (tps_cons (fr PassesOwn.never rfl (tpi_seq rfl (to_val (rd 0))) (gn 2 nd) (tps_cons (fr PassesOwn.never rfl (it (to_val (tpe_at CC.s_own_terms (sl 2)))) (gt rfl rfl (gc (gn 3 nd) (gc (gn 4 nd) tpgs_nil))) (tps_cons (pu hr.units (sl 1) (sl 3) (to_val (tpe_op op_addA (ok_add rfl) (to_val (gt2 hr.units (sl 1) (sl 3) (to_val cI))) (sl 4)))) tps_nil)) tps_nil)) (tps_cons (tps_ret (cu O_poly_of hr g_poly_of k_poly_of b_poly_of (a1 (to_val (rd 1)) tpa_nil) (hj := by omega))) tps_nil)))
abbrev F_poly_sum := B_poly_sum
def s_steps_poly : Gam → OutS := (sSeq (sRet (eCallN 1 F_poly_of (aCons (fO (eDc true (mRng1 (aCons (oSl 0) aNil)) [1] (gNm 1) mYes (fO (eTup (aCons (fO (eRd 1)) (aCons (fO (eC (.int 0))) aNil)))) (fO (eC (.int 1))))) aNil))) sNx)
def B_steps_poly : Gam → Out R := fnB 1 s_steps_poly
theorem ok_steps_poly (B : Blt mg) (CC : Cl K mg cls) (h : Here K mg "steps_poly" 41) (H_poly_of : Has P w K mg base cls 7 "poly_of" 1 F_poly_of) : Has P w K mg base cls 8 "steps_poly" 1 B_steps_poly := by
  obtain ⟨f, fd, FP, g⟩ := h.ex
  obtain ⟨f_poly_of, fd_poly_of, ps_poly_of, O_poly_of, g_poly_of, k_poly_of, b_poly_of⟩ := H_poly_of.ex
  have nd := sc_steps_poly.nd
  refine ⟨f, fd, ["many"], FP.ok (N := N_steps_poly) sc_steps_poly (fun vs H Q E h => h.1) (fun cdv A outer s H vs Q E hr h => ⟨_, PSs.nox ?_, fn_reads (N := N_steps_poly) (m := 1) rfl vs Q E h⟩), g, FP.kp, FP.bindsN fun _ _ _ _ _ _ us hl => match us, hl with | [_], _ => rfl⟩
  exact (tps_cons (tps_ret (cu O_poly_of hr g_poly_of k_poly_of b_poly_of (a1 (to_val (dc (own := [("power", 1)]) true hr.units rfl nd (r1 B.range (a1 (sl 0) tpa_nil)) (blkOk_by (N := N_steps_poly) (sc := (defScope (top 41))) (own := [("power", 1)]) (by decide +kernel)) (fun _ _ _ _ _ => (gn 1 nd)) (fun _ _ _ _ _ => tpts_nil) (fun _ _ _ _ _ => (to_val (tpe_tup (a1 (to_val (rd 1)) (a1 (to_val cI) tpa_nil))))) (fun _ _ _ _ _ => (to_val cI)) (by intro _; rfl) (by decide))) tpa_nil) (hj := by omega))) tps_nil)
abbrev F_steps_poly := B_steps_poly
def s_zero_poly : Gam → OutS := (sSeq (sRet (eCallN 1 F_poly_of (aCons (fO (eNewD true)) aNil))) sNx)
def B_zero_poly : Gam → Out R := fnB 0 s_zero_poly
theorem ok_zero_poly (B : Blt mg) (CC : Cl K mg cls) (h : Here K mg "zero_poly" 22) (H_poly_of : Has P w K mg base cls 7 "poly_of" 1 F_poly_of) : Has P w K mg base cls 8 "zero_poly" 0 B_zero_poly := by
  obtain ⟨f, fd, FP, g⟩ := h.ex
  obtain ⟨f_poly_of, fd_poly_of, ps_poly_of, O_poly_of, g_poly_of, k_poly_of, b_poly_of⟩ := H_poly_of.ex
  have nd := sc_zero_poly.nd
  refine ⟨f, fd, [], FP.ok (N := N_zero_poly) sc_zero_poly (fun vs H Q E h => h.1) (fun cdv A outer s H vs Q E hr h => ⟨_, PSs.nox ?_, fn_reads (N := N_zero_poly) (m := 0) rfl vs Q E h⟩), g, FP.kp, FP.bindsN fun _ _ _ _ _ _ us hl => match us, hl with | [], _ => rfl⟩
  exact (tps_cons (tps_ret (cu O_poly_of hr g_poly_of k_poly_of b_poly_of (a1 (to_val tpe_newT) tpa_nil) (hj := by omega))) tps_nil)
abbrev F_zero_poly := B_zero_poly
def s_stirling_in (F : Gam → Out R) : Gam → OutS := (sSeq (sIf (bOr (toT (eOp (fEqD false) (oSl 0) (fO (eC (.int 0))))) (toT (eOp (fEqD false) (oSl 1) (fO (eC (.int 0)))))) (sSeq (sRet (eIf (toT (eOp (fEqD false) (oSl 0) (oSl 1))) (eCallN 0 F_one_poly aNil) (eCallN 0 F_zero_poly aNil))) sNx) sNx) (sSeq (sSet 2 (eCallN 2 F_times_in (aCons (fO (eCallN 1 F_steps_poly (aCons (fO (eRd 1)) aNil))) (aCons (fO (eCallN 2 F (aCons (fO (eOp fSub (oSl 0) (fO (eC (.int 1))))) (aCons (fO (eRd 1)) aNil)))) aNil)))) (sSeq (sRet (eCallN 1 F_poly_sum (aCons (fO (eLst (aCons (fO (eCallN 2 F (aCons (fO (eOp fSub (oSl 0) (fO (eC (.int 1))))) (aCons (fO (eOp fSub (oSl 1) (fO (eC (.int 1))))) aNil)))) (aCons (fO (eRd 2)) aNil)))) aNil))) sNx)))
def R_stirling_in : Nat → Gam → Out R
  | 0 => fun _ => .bad
  | n + 1 => fnB 1 (s_stirling_in (R_stirling_in n))
abbrev B_stirling_in : Gam → Out R := R_stirling_in 8
theorem step_stirling_in (B : Blt mg) (CC : Cl K mg cls) (h : Here K mg "stirling_in" 42) (H_poly_sum : Has P w K mg base cls 8 "poly_sum" 1 F_poly_sum) (H_times_in : Has P w K mg base cls 8 "times_in" 2 F_times_in) (H_steps_poly : Has P w K mg base cls 8 "steps_poly" 1 F_steps_poly) (H_one_poly : Has P w K mg base cls 8 "one_poly" 0 F_one_poly) (H_zero_poly : Has P w K mg base cls 8 "zero_poly" 0 F_zero_poly) (k : Nat) (hk : 8 ≤ k) {F : Gam → Out R} (H_self : Has P w K mg base cls k "stirling_in" 2 F) : Has P w K mg base cls (k + 1) "stirling_in" 2 (fnB 1 (s_stirling_in F)) := by
  obtain ⟨f, fd, FP, g⟩ := h.ex
  obtain ⟨f_poly_sum, fd_poly_sum, ps_poly_sum, O_poly_sum, g_poly_sum, k_poly_sum, b_poly_sum⟩ := H_poly_sum.ex
  obtain ⟨f_times_in, fd_times_in, ps_times_in, O_times_in, g_times_in, k_times_in, b_times_in⟩ := H_times_in.ex
  obtain ⟨f_steps_poly, fd_steps_poly, ps_steps_poly, O_steps_poly, g_steps_poly, k_steps_poly, b_steps_poly⟩ := H_steps_poly.ex
  obtain ⟨f_one_poly, fd_one_poly, ps_one_poly, O_one_poly, g_one_poly, k_one_poly, b_one_poly⟩ := H_one_poly.ex
  obtain ⟨f_zero_poly, fd_zero_poly, ps_zero_poly, O_zero_poly, g_zero_poly, k_zero_poly, b_zero_poly⟩ := H_zero_poly.ex
  obtain ⟨f_self, fd_self, ps_self, O_self, g_self, k_self, b_self⟩ := H_self.ex
  have nd := sc_stirling_in.nd
  refine ⟨f, fd, ["size", "many"], FP.ok (N := N_stirling_in) sc_stirling_in (fun vs H Q E h => h.1) (fun cdv A outer s H vs Q E hr h => ⟨_, PSs.nox ?_, fn_reads (N := N_stirling_in) (m := 1) rfl vs Q E h⟩), g, FP.kp, FP.bindsN fun _ _ _ _ _ _ us hl => match us, hl with | [_, _], _ => rfl⟩
  exact (tps_cons (tps_if (PW.pt (tpw_or (cmT (op_eqA hr.units) (ok_eqA rfl) (sl 0) (to_val cI)) (tpw_or1 (cmT (op_eqA hr.units) (ok_eqA rfl) (sl 1) (to_val cI))))) (tps_cons (tps_ret (tpe_if (cmT (op_eqA hr.units) (ok_eqA rfl) (sl 0) (sl 1)) (cu0 O_one_poly hr g_one_poly k_one_poly b_one_poly (hj := by omega)) (cu0 O_zero_poly hr g_zero_poly k_zero_poly b_zero_poly (hj := by omega)))) tps_nil) tps_nil) (tps_cons (stv 2 nd (cu O_times_in hr g_times_in k_times_in b_times_in (a1 (to_val (cu O_steps_poly hr g_steps_poly k_steps_poly b_steps_poly (a1 (to_val (rd 1)) tpa_nil) (hj := by omega))) (a1 (to_val (cu O_self hr g_self k_self b_self (a1 (to_val (tpe_op op_sub ok_sub (sl 0) (to_val cI))) (a1 (to_val (rd 1)) tpa_nil)) (hj := by omega))) tpa_nil)) (hj := by omega))) (tps_cons (tps_ret (cu O_poly_sum hr g_poly_sum k_poly_sum b_poly_sum (a1 (to_val (tpe_lst (a1 (to_val (cu O_self hr g_self k_self b_self (a1 (to_val (tpe_op op_sub ok_sub (sl 0) (to_val cI))) (a1 (to_val (tpe_op op_sub ok_sub (sl 1) (to_val cI))) tpa_nil)) (hj := by omega))) (a1 (to_val (rd 2)) tpa_nil)))) tpa_nil) (hj := by omega))) tps_nil)))
theorem rec_stirling_in (B : Blt mg) (CC : Cl K mg cls) (h : Here K mg "stirling_in" 42) (H_poly_sum : Has P w K mg base cls 8 "poly_sum" 1 F_poly_sum) (H_times_in : Has P w K mg base cls 8 "times_in" 2 F_times_in) (H_steps_poly : Has P w K mg base cls 8 "steps_poly" 1 F_steps_poly) (H_one_poly : Has P w K mg base cls 8 "one_poly" 0 F_one_poly) (H_zero_poly : Has P w K mg base cls 8 "zero_poly" 0 F_zero_poly) : ∀ n : Nat, Has P w K mg base cls (8 + 1 + n) "stirling_in" 2 (R_stirling_in n)
  | 0 => by
    obtain ⟨f, fd, FP, g⟩ := h.ex
    exact ⟨f, fd, ["size", "many"], ⟨fun vs H Q E ⟨_, _, _, _, _, p⟩ => p.elim, fun A outer s H args us vs Q E _ _ _ _ ⟨_, _, _, _, _, p⟩ => p.elim⟩, g, FP.kp, FP.bindsN fun _ _ _ _ _ _ us hl => match us, hl with | [_, _], _ => rfl⟩
  | n + 1 => step_stirling_in B CC h H_poly_sum H_times_in H_steps_poly H_one_poly H_zero_poly (8 + 1 + n) (by omega) (rec_stirling_in B CC h H_poly_sum H_times_in H_steps_poly H_one_poly H_zero_poly n)
theorem ok_stirling_in (B : Blt mg) (CC : Cl K mg cls) (h : Here K mg "stirling_in" 42) (H_poly_sum : Has P w K mg base cls 8 "poly_sum" 1 F_poly_sum) (H_times_in : Has P w K mg base cls 8 "times_in" 2 F_times_in) (H_steps_poly : Has P w K mg base cls 8 "steps_poly" 1 F_steps_poly) (H_one_poly : Has P w K mg base cls 8 "one_poly" 0 F_one_poly) (H_zero_poly : Has P w K mg base cls 8 "zero_poly" 0 F_zero_poly) : Has P w K mg base cls 17 "stirling_in" 2 B_stirling_in := rec_stirling_in B CC h H_poly_sum H_times_in H_steps_poly H_one_poly H_zero_poly 8
abbrev F_stirling_in := B_stirling_in
def s_parting_polynomial_in : Gam → OutS := (sSeq (sRet (eCallN 1 F_poly_product (aCons (fO (eLst (aStar (fO (eLc (mRng2 (aCons (fO (eC (.int 1))) (aCons (fO (eOp fAdd (oSl 1) (fO (eC (.int 1))))) aNil))) [2] (gNm 2) mYes (fO (eCallN 1 F_steps_poly (aCons (fO (eRd 2)) aNil))))) (aCons (fO (eCallN 2 F_stirling_in (aCons (fO (eRd 0)) (aCons (fO (eRd 1)) aNil)))) aNil)))) aNil))) sNx)
def B_parting_polynomial_in : Gam → Out R := fnB 1 s_parting_polynomial_in
theorem ok_parting_polynomial_in (B : Blt mg) (CC : Cl K mg cls) (h : Here K mg "parting_polynomial_in" 43) (H_poly_product : Has P w K mg base cls 9 "poly_product" 1 F_poly_product) (H_stirling_in : Has P w K mg base cls 17 "stirling_in" 2 F_stirling_in) (H_steps_poly : Has P w K mg base cls 8 "steps_poly" 1 F_steps_poly) : Has P w K mg base cls 18 "parting_polynomial_in" 2 B_parting_polynomial_in := by
  obtain ⟨f, fd, FP, g⟩ := h.ex
  obtain ⟨f_poly_product, fd_poly_product, ps_poly_product, O_poly_product, g_poly_product, k_poly_product, b_poly_product⟩ := H_poly_product.ex
  obtain ⟨f_stirling_in, fd_stirling_in, ps_stirling_in, O_stirling_in, g_stirling_in, k_stirling_in, b_stirling_in⟩ := H_stirling_in.ex
  obtain ⟨f_steps_poly, fd_steps_poly, ps_steps_poly, O_steps_poly, g_steps_poly, k_steps_poly, b_steps_poly⟩ := H_steps_poly.ex
  have nd := sc_parting_polynomial_in.nd
  refine ⟨f, fd, ["size", "many"], FP.ok (N := N_parting_polynomial_in) sc_parting_polynomial_in (fun vs H Q E h => h.1) (fun cdv A outer s H vs Q E hr h => ⟨_, PSs.nox ?_, fn_reads (N := N_parting_polynomial_in) (m := 1) rfl vs Q E h⟩), g, FP.kp, FP.bindsN fun _ _ _ _ _ _ us hl => match us, hl with | [_, _], _ => rfl⟩
  exact (tps_cons (tps_ret (cu O_poly_product hr g_poly_product k_poly_product b_poly_product (a1 (to_val (tpe_lst (aS rfl (to_val (tpe_lc (own := [("one", 2)]) rfl nd (r2 B.range (a1 (to_val cI) (a1 (to_val (tpe_op op_addA (ok_add rfl) (sl 1) (to_val cI))) tpa_nil))) (blkOk_by (N := N_parting_polynomial_in) (sc := (defScope (top 43))) (own := [("one", 2)]) (by decide +kernel)) (fun _ _ _ _ _ => (gn 2 nd)) (fun _ _ _ _ _ => tpts_nil) (fun _ _ _ _ _ => (to_val (cu O_steps_poly hr g_steps_poly k_steps_poly b_steps_poly (a1 (to_val (rd 2)) tpa_nil) (hj := by omega)))) (by intro _; rfl) (by decide))) (a1 (to_val (cu O_stirling_in hr g_stirling_in k_stirling_in b_stirling_in (a1 (to_val (rd 0)) (a1 (to_val (rd 1)) tpa_nil)) (hj := by omega))) tpa_nil)))) tpa_nil) (hj := by omega))) tps_nil)
abbrev F_parting_polynomial_in := B_parting_polynomial_in
def s_parting_polynomial : Gam → OutS := (sSeq (sExpr (eCallN 2 F_require_blocks (aCons (fO (eRd 0)) (aCons (fO (eRd 1)) aNil)))) (sSeq (sRet (eCallN 2 F_parting_polynomial_in (aCons (fO (eRd 0)) (aCons (fO (eRd 1)) aNil)))) sNx))
def B_parting_polynomial : Gam → Out R := fnB 0 s_parting_polynomial
theorem ok_parting_polynomial (B : Blt mg) (CC : Cl K mg cls) (h : Here K mg "parting_polynomial" 49) (H_parting_polynomial_in : Has P w K mg base cls 18 "parting_polynomial_in" 2 F_parting_polynomial_in) (H_require_blocks : Has P w K mg base cls 4 "require_blocks" 2 F_require_blocks) : Has P w K mg base cls 19 "parting_polynomial" 2 B_parting_polynomial := by
  obtain ⟨f, fd, FP, g⟩ := h.ex
  obtain ⟨f_parting_polynomial_in, fd_parting_polynomial_in, ps_parting_polynomial_in, O_parting_polynomial_in, g_parting_polynomial_in, k_parting_polynomial_in, b_parting_polynomial_in⟩ := H_parting_polynomial_in.ex
  obtain ⟨f_require_blocks, fd_require_blocks, ps_require_blocks, O_require_blocks, g_require_blocks, k_require_blocks, b_require_blocks⟩ := H_require_blocks.ex
  have nd := sc_parting_polynomial.nd
  refine ⟨f, fd, ["size", "blocks"], FP.ok (N := N_parting_polynomial) sc_parting_polynomial (fun vs H Q E h => h.1) (fun cdv A outer s H vs Q E hr h => ⟨_, PSs.nox ?_, fn_reads (N := N_parting_polynomial) (m := 0) rfl vs Q E h⟩), g, FP.kp, FP.bindsN fun _ _ _ _ _ _ us hl => match us, hl with | [_, _], _ => rfl⟩
  exact (tps_cons (sx (cu O_require_blocks hr g_require_blocks k_require_blocks b_require_blocks (a1 (to_val (rd 0)) (a1 (to_val (rd 1)) tpa_nil)) (hj := by omega))) (tps_cons (tps_ret (cu O_parting_polynomial_in hr g_parting_polynomial_in k_parting_polynomial_in b_parting_polynomial_in (a1 (to_val (rd 0)) (a1 (to_val (rd 1)) tpa_nil)) (hj := by omega))) tps_nil))
abbrev F_parting_polynomial := B_parting_polynomial
def s_is_parting : Gam → OutS := (sSeq (sExpr (eCallN 1 F_require_parted (aCons (fO (eRd 0)) aNil))) (sSeq (sRet (eCallN 2 F_is_parting_in (aCons (fO (eRd 0)) (aCons (fO (eRd 1)) aNil)))) sNx))
def B_is_parting : Gam → Out R := fnB 0 s_is_parting
theorem ok_is_parting (B : Blt mg) (CC : Cl K mg cls) (h : Here K mg "is_parting" 47) (H_is_parting_in : Has P w K mg base cls 4 "is_parting_in" 2 F_is_parting_in) (H_require_parted : Has P w K mg base cls 3 "require_parted" 1 F_require_parted) : Has P w K mg base cls 5 "is_parting" 2 B_is_parting := by
  obtain ⟨f, fd, FP, g⟩ := h.ex
  obtain ⟨f_is_parting_in, fd_is_parting_in, ps_is_parting_in, O_is_parting_in, g_is_parting_in, k_is_parting_in, b_is_parting_in⟩ := H_is_parting_in.ex
  obtain ⟨f_require_parted, fd_require_parted, ps_require_parted, O_require_parted, g_require_parted, k_require_parted, b_require_parted⟩ := H_require_parted.ex
  have nd := sc_is_parting.nd
  refine ⟨f, fd, ["size", "value"], FP.ok (N := N_is_parting) sc_is_parting (fun vs H Q E h => h.1) (fun cdv A outer s H vs Q E hr h => ⟨_, PSs.nox ?_, fn_reads (N := N_is_parting) (m := 0) rfl vs Q E h⟩), g, FP.kp, FP.bindsN fun _ _ _ _ _ _ us hl => match us, hl with | [_, _], _ => rfl⟩
  exact (tps_cons (sx (cu O_require_parted hr g_require_parted k_require_parted b_require_parted (a1 (to_val (rd 0)) tpa_nil) (hj := by omega))) (tps_cons (tps_ret (cu O_is_parting_in hr g_is_parting_in k_is_parting_in b_is_parting_in (a1 (to_val (rd 0)) (a1 (to_val (rd 1)) tpa_nil)) (hj := by omega))) tps_nil))
abbrev F_is_parting := B_is_parting
def s_law_is_parting : Gam → OutS := (sSeq (sIf (bNot (toT (eCall bIsi (aCons (oSl 1) (aCons (fO (eC (.ty "tuple"))) aNil))))) (sSeq (sRet (eC (.bl false))) sNx) sNx) (sSeq (sSet 2 (eLst aNil)) (sSeq (sFor (mIter (fO (eRd 1))) (gNm 3) (sSeq (sIf (bOr (bNot (toT (eCall bIsi (aCons (oSl 3) (aCons (fO (eC (.ty "tuple"))) aNil))))) (toT (eOp (fEqD false) (oSl 3) (fO (eTup aNil))))) (sSeq (sRet (eC (.bl false))) sNx) sNx) (sSeq (sIf (toT (eOp (fEqD true) (fO (eLc (mIter (fO (eRd 3))) [4] (gNm 4) (bOr (bNot (toT (eCall bIsi (aCons (oSl 4) (aCons (fO (eC (.ty "int"))) aNil))))) (toT (eCall bIsi (aCons (oSl 4) (aCons (fO (eC (.ty "bool"))) aNil))))) (fO (eC (.int 1))))) (fO (eLst aNil)))) (sSeq (sRet (eC (.bl false))) sNx) sNx) (sSeq (sIf (toT (eOp (fEqD true) (fO (eLc (mZip (aCons (fO (eRd 3)) (aCons (fO (eSl (oSl 3) (pSome (fO (eC (.int 1)))) pNone)) aNil))) [4, 5] (gTp 2 (gsCons (gNm 4) (gsCons (gNm 5) gsNil))) (toT (eOp fGe (oSl 4) (oSl 5))) (fO (eC (.int 1))))) (fO (eLst aNil)))) (sSeq (sRet (eC (.bl false))) sNx) sNx) (sSeq (sExpr (eMeth 2 fExtA (aCons (fO (eRd 3)) aNil))) sNx))))) (sSeq (sRet (eOp (fEqD false) (fO (eCall bSortA (aCons (oSl 2) aNil))) (fO (eLstRg2 (fO (eC (.int 1))) (fO (eOp fAdd (oSl 0) (fO (eC (.int 1))))))))) sNx))))
def B_law_is_parting : Gam → Out R := fnB 4 s_law_is_parting
theorem ok_law_is_parting (B : Blt mg) (CC : Cl K mg cls) (h : Here K mg "_law_is_parting" 63) : Has P w K mg base cls 1 "_law_is_parting" 2 B_law_is_parting := by
  obtain ⟨f, fd, FP, g⟩ := h.ex
  have nd := sc_law_is_parting.nd
  refine ⟨f, fd, ["size", "value"], FP.ok (N := N_law_is_parting) sc_law_is_parting (fun vs H Q E h => h.1) (fun cdv A outer s H vs Q E hr h => ⟨_, PSs.nox ?_, fn_reads (N := N_law_is_parting) (m := 4) rfl vs Q E h⟩), g, FP.kp, FP.bindsN fun _ _ _ _ _ _ us hl => match us, hl with | [_, _], _ => rfl⟩
  exact (tps_cons (tps_if (tpt_not (tv (cb call_isi (ok_isi rfl) B.isinstance rfl (a1 (sl 1) (a1 (to_val (bT B.tuple rfl)) tpa_nil))))) (tps_cons (tps_ret cB) tps_nil) tps_nil) (tps_cons (stv 2 nd (tpe_lst tpa_nil)) (tps_cons (fr PassesOwn.never rfl (tpi_seq rfl (to_val (rd 1))) (gn 3 nd) (tps_cons (tps_if (PW.pt (tpw_or (tpt_not (tv (cb call_isi (ok_isi rfl) B.isinstance rfl (a1 (sl 3) (a1 (to_val (bT B.tuple rfl)) tpa_nil))))) (tpw_or1 (cmT (op_eqA hr.units) (ok_eqA rfl) (sl 3) (to_val (tpe_tup tpa_nil)))))) (tps_cons (tps_ret cB) tps_nil) tps_nil) (tps_cons (tps_if (cmT (op_neA hr.units) (ok_neA rfl) (to_val (tpe_lc (own := [("one", 4)]) rfl nd (tpi_seq rfl (to_val (rd 3))) (blkOk_by (N := N_law_is_parting) (sc := (defScope (top 63))) (own := [("one", 4)]) (by decide +kernel)) (fun _ _ _ _ _ => (gn 4 nd)) (fun _ _ _ _ _ => (tpts_one (PW.pt (tpw_or (tpt_not (tv (cb call_isi (ok_isi rfl) B.isinstance rfl (a1 (sl 4) (a1 (to_val (bT B.int rfl)) tpa_nil))))) (tpw_or1 (tv (cb call_isi (ok_isi rfl) B.isinstance rfl (a1 (sl 4) (a1 (to_val (bT B.bool rfl)) tpa_nil))))))))) (fun _ _ _ _ _ => (to_val cI)) (by intro _; rfl) (by decide))) (to_val (tpe_lst tpa_nil))) (tps_cons (tps_ret cB) tps_nil) tps_nil) (tps_cons (tps_if (cmT (op_neA hr.units) (ok_neA rfl) (to_val (tpe_lc (own := [("one", 4), ("other", 5)]) rfl nd (zp rfl B.zip (a1 (to_val (rd 3)) (a1 (to_val (tpe_slice rfl (sl 3) (tpo_some (to_val cI)) tpo_none)) tpa_nil))) (blkOk_by (N := N_law_is_parting) (sc := (defScope (top 63))) (own := [("one", 4), ("other", 5)]) (by decide +kernel)) (fun _ _ _ _ _ => (gt rfl rfl (gc (gn 4 nd) (gc (gn 5 nd) tpgs_nil)))) (fun _ _ _ _ _ => (tpts_one (cmT op_ge ok_ge (sl 4) (sl 5)))) (fun _ _ _ _ _ => (to_val cI)) (by intro _; rfl) (by decide))) (to_val (tpe_lst tpa_nil))) (tps_cons (tps_ret cB) tps_nil) tps_nil) (tps_cons (sx (me PySem.F.slot_list_extend PySem.F.type_list_extend mt_extA ok_extA (sl 2) (a1 (to_val (rd 3)) tpa_nil))) tps_nil))))) (tps_cons (tps_ret (cm (op_eqA hr.units) (ok_eqA rfl) (to_val (cb (cr_sortA rfl hr.units) (ok_sortA rfl) B.sorted rfl (a1 (sl 2) tpa_nil))) (to_val (tpe_lstRg2 rfl rfl B.list rfl B.range (to_val cI) (to_val (tpe_op op_addA (ok_add rfl) (sl 0) (to_val cI))) rfl rfl rfl rfl)))) tps_nil))))
abbrev F_law_is_parting := B_law_is_parting
def s_law_right : Gam → OutS := (sSeq (sSet 1 (eOp fAdd (fO (eC (.int 1))) (fO (eCallN 2 F_law_roll (aCons (oSl 0) (aCons (fO (eC (.int 5))) aNil)))))) (sSeq (sSet 2 (eOp fAdd (fO (eC (.int 1))) (fO (eCallN 2 F_law_roll (aCons (oSl 0) (aCons (fO (eRd 1)) aNil)))))) (sSeq (sSet 3 (eCallN 2 F_law_partings (aCons (fO (eRd 1)) (aCons (fO (eRd 2)) aNil)))) (sSeq (sIf (bOr (toT (eOp (fEqD true) (fO (eListG 2 F_partings (aCons (fO (eRd 1)) (aCons (fO (eRd 2)) aNil)))) (oSl 3))) (toT (eOp (fEqD true) (fO (eProp 1 F_Poly_rows (fO (eCallN 2 F_parting_polynomial (aCons (fO (eRd 1)) (aCons (fO (eRd 2)) aNil)))))) (fO (eCallN 1 F_law_rows (aCons (fO (eCallN 1 F_law_by_upside (aCons (fO (eRd 3)) aNil))) aNil)))))) (sSeq (sRet (eC (.bl false))) sNx) sNx) (sSeq (sIf (toT (eOp (fEqD true) (fO (eCallN 1 F_law_rows (aCons (fO (eCallN 2 F_law_parted (aCons (fO (eRd 1)) (aCons (fO (eRd 2)) aNil)))) aNil))) (fO (eCallN 1 F_law_rows (aCons (fO (eCallN 1 F_law_by_upside (aCons (fO (eRd 3)) aNil))) aNil))))) (sSeq (sRet (eC (.bl false))) sNx) sNx) (sSeq (sFor (mRng1 (aCons (fO (eC (.int 4))) aNil)) (gNm 4) (sSeq (sSet 5 (eCallN 2 F_law_one_of (aCons (oSl 0) (aCons (fO (eRd 3)) aNil)))) (sSeq (sIf (toT (eOp (fEqD true) (fO (eCall bReprA (aCons (fO (eCallN 1 F_inversions (aCons (fO (eRd 5)) aNil))) aNil))) (fO (eCall bReprA (aCons (fO (eCallN 1 F_law_upside (aCons (fO (eRd 5)) aNil))) aNil))))) (sSeq (sRet (eC (.bl false))) sNx) sNx) (sSeq (sFor (mIter (fO (eCallN 3 F_law_near_parting (aCons (oSl 0) (aCons (fO (eRd 1)) (aCons (fO (eRd 5)) aNil)))))) (gNm 6) (sSeq (sIf (toT (eOp (fEqD true) (fO (eCall bReprA (aCons (fO (eCallN 2 F_is_parting (aCons (fO (eRd 1)) (aCons (fO (eRd 6)) aNil)))) aNil))) (fO (eCall bReprA (aCons (fO (eCallN 2 F_law_is_parting (aCons (fO (eRd 1)) (aCons (fO (eRd 6)) aNil)))) aNil))))) (sSeq (sRet (eC (.bl false))) sNx) sNx) sNx)) sNx)))) (sSeq (sRet (eOp (fEqD false) (fO (eMethC 1 2 F_Poly_at (fO (eCallN 2 F_parting_polynomial (aCons (fO (eRd 1)) (aCons (fO (eRd 2)) aNil)))) (aCons (fO (eC (.int 1))) (aCons (fO (eC (.int 1))) aNil)))) (fO (eTup (aCons (fO (eCall bLen (aCons (oSl 3) aNil))) (aCons (fO (eC (.int 1))) aNil)))))) sNx)))))))
def B_law_right : Gam → Out R := fnB 6 s_law_right
theorem ok_law_right (B : Blt mg) (CC : Cl K mg cls) (h : Here K mg "_law_right" 65) (H_Poly_at : HasM P w K mg base cls 4 1 "at" 3 F_Poly_at) (H_parting_polynomial : Has P w K mg base cls 19 "parting_polynomial" 2 F_parting_polynomial) (H_law_near_parting : Has P w K mg base cls 2 "_law_near_parting" 3 F_law_near_parting) (H_is_parting : Has P w K mg base cls 5 "is_parting" 2 F_is_parting) (H_law_is_parting : Has P w K mg base cls 1 "_law_is_parting" 2 F_law_is_parting) (H_inversions : Has P w K mg base cls 5 "inversions" 1 F_inversions) (H_law_upside : Has P w K mg base cls 1 "_law_upside" 1 F_law_upside) (H_law_one_of : Has P w K mg base cls 2 "_law_one_of" 2 F_law_one_of) (H_law_rows : Has P w K mg base cls 1 "_law_rows" 1 F_law_rows) (H_law_parted : Has P w K mg base cls 11 "_law_parted" 2 F_law_parted) (H_law_by_upside : Has P w K mg base cls 2 "_law_by_upside" 1 F_law_by_upside) (H_partings : HasG P w K mg base cls 5 "partings" 2 F_partings) (H_Poly_rows : HasP P w K mg base cls 1 1 "rows" F_Poly_rows) (H_law_partings : Has P w K mg base cls 1 "_law_partings" 2 F_law_partings) (H_law_roll : Has P w K mg base cls 1 "_law_roll" 2 F_law_roll) : Has P w K mg base cls 20 "_law_right" 1 B_law_right := by
  obtain ⟨f, fd, FP, g⟩ := h.ex
  obtain ⟨f_Poly_at, fd_Poly_at, ps_Poly_at, O_Poly_at, g_Poly_at, b_Poly_at⟩ := H_Poly_at.ex
  obtain ⟨f_parting_polynomial, fd_parting_polynomial, ps_parting_polynomial, O_parting_polynomial, g_parting_polynomial, k_parting_polynomial, b_parting_polynomial⟩ := H_parting_polynomial.ex
  obtain ⟨f_law_near_parting, fd_law_near_parting, ps_law_near_parting, O_law_near_parting, g_law_near_parting, k_law_near_parting, b_law_near_parting⟩ := H_law_near_parting.ex
  obtain ⟨f_is_parting, fd_is_parting, ps_is_parting, O_is_parting, g_is_parting, k_is_parting, b_is_parting⟩ := H_is_parting.ex
  obtain ⟨f_law_is_parting, fd_law_is_parting, ps_law_is_parting, O_law_is_parting, g_law_is_parting, k_law_is_parting, b_law_is_parting⟩ := H_law_is_parting.ex
  obtain ⟨f_inversions, fd_inversions, ps_inversions, O_inversions, g_inversions, k_inversions, b_inversions⟩ := H_inversions.ex
  obtain ⟨f_law_upside, fd_law_upside, ps_law_upside, O_law_upside, g_law_upside, k_law_upside, b_law_upside⟩ := H_law_upside.ex
  obtain ⟨f_law_one_of, fd_law_one_of, ps_law_one_of, O_law_one_of, g_law_one_of, k_law_one_of, b_law_one_of⟩ := H_law_one_of.ex
  obtain ⟨f_law_rows, fd_law_rows, ps_law_rows, O_law_rows, g_law_rows, k_law_rows, b_law_rows⟩ := H_law_rows.ex
  obtain ⟨f_law_parted, fd_law_parted, ps_law_parted, O_law_parted, g_law_parted, k_law_parted, b_law_parted⟩ := H_law_parted.ex
  obtain ⟨f_law_by_upside, fd_law_by_upside, ps_law_by_upside, O_law_by_upside, g_law_by_upside, k_law_by_upside, b_law_by_upside⟩ := H_law_by_upside.ex
  obtain ⟨f_partings, fd_partings, ps_partings, O_partings, g_partings, k_partings, b_partings⟩ := H_partings.ex
  obtain ⟨f_Poly_rows, fd_Poly_rows, ps_Poly_rows, O_Poly_rows, g_Poly_rows, b_Poly_rows⟩ := H_Poly_rows.ex
  obtain ⟨f_law_partings, fd_law_partings, ps_law_partings, O_law_partings, g_law_partings, k_law_partings, b_law_partings⟩ := H_law_partings.ex
  obtain ⟨f_law_roll, fd_law_roll, ps_law_roll, O_law_roll, g_law_roll, k_law_roll, b_law_roll⟩ := H_law_roll.ex
  have nd := sc_law_right.nd
  refine ⟨f, fd, ["dice"], FP.ok (N := N_law_right) sc_law_right (fun vs H Q E h => h.1) (fun cdv A outer s H vs Q E hr h => ⟨_, PSs.nox ?_, fn_reads (N := N_law_right) (m := 6) rfl vs Q E h⟩), g, FP.kp, FP.bindsN fun _ _ _ _ _ _ us hl => match us, hl with | [_], _ => rfl⟩
  exact (tps_cons (stv 1 nd (tpe_op op_addA (ok_add rfl) (to_val cI) (to_val (cu O_law_roll hr g_law_roll k_law_roll b_law_roll (a1 (sl 0) (a1 (to_val cI) tpa_nil)) (hj := by omega))))) (tps_cons (stv 2 nd (tpe_op op_addA (ok_add rfl) (to_val cI) (to_val (cu O_law_roll hr g_law_roll k_law_roll b_law_roll (a1 (sl 0) (a1 (to_val (rd 1)) tpa_nil)) (hj := by omega))))) (tps_cons (stv 3 nd (cu O_law_partings hr g_law_partings k_law_partings b_law_partings (a1 (to_val (rd 1)) (a1 (to_val (rd 2)) tpa_nil)) (hj := by omega))) (tps_cons (tps_if (PW.pt (tpw_or (cmT (op_neA hr.units) (ok_neA rfl) (to_val (cg O_partings hr g_partings k_partings b_partings B.list (a1 (to_val (rd 1)) (a1 (to_val (rd 2)) tpa_nil)))) (sl 3)) (tpw_or1 (cmT (op_neA hr.units) (ok_neA rfl) (to_val (tpe_prop g_Poly_rows O_Poly_rows b_Poly_rows (hr.mono (by omega)) (to_val (cu O_parting_polynomial hr g_parting_polynomial k_parting_polynomial b_parting_polynomial (a1 (to_val (rd 1)) (a1 (to_val (rd 2)) tpa_nil)) (hj := by omega))))) (to_val (cu O_law_rows hr g_law_rows k_law_rows b_law_rows (a1 (to_val (cu O_law_by_upside hr g_law_by_upside k_law_by_upside b_law_by_upside (a1 (to_val (rd 3)) tpa_nil) (hj := by omega))) tpa_nil) (hj := by omega))))))) (tps_cons (tps_ret cB) tps_nil) tps_nil) (tps_cons (tps_if (cmT (op_neA hr.units) (ok_neA rfl) (to_val (cu O_law_rows hr g_law_rows k_law_rows b_law_rows (a1 (to_val (cu O_law_parted hr g_law_parted k_law_parted b_law_parted (a1 (to_val (rd 1)) (a1 (to_val (rd 2)) tpa_nil)) (hj := by omega))) tpa_nil) (hj := by omega))) (to_val (cu O_law_rows hr g_law_rows k_law_rows b_law_rows (a1 (to_val (cu O_law_by_upside hr g_law_by_upside k_law_by_upside b_law_by_upside (a1 (to_val (rd 3)) tpa_nil) (hj := by omega))) tpa_nil) (hj := by omega)))) (tps_cons (tps_ret cB) tps_nil) tps_nil) (tps_cons (fr PassesOwn.never rfl (r1 B.range (a1 (to_val cI) tpa_nil)) (gn 4 nd) (tps_cons (stv 5 nd (cu O_law_one_of hr g_law_one_of k_law_one_of b_law_one_of (a1 (sl 0) (a1 (to_val (rd 3)) tpa_nil)) (hj := by omega))) (tps_cons (tps_if (cmT (op_neA hr.units) (ok_neA rfl) (to_val (cb cr_reprA ok_reprA B.repr rfl (a1 (to_val (cu O_inversions hr g_inversions k_inversions b_inversions (a1 (to_val (rd 5)) tpa_nil) (hj := by omega))) tpa_nil))) (to_val (cb cr_reprA ok_reprA B.repr rfl (a1 (to_val (cu O_law_upside hr g_law_upside k_law_upside b_law_upside (a1 (to_val (rd 5)) tpa_nil) (hj := by omega))) tpa_nil)))) (tps_cons (tps_ret cB) tps_nil) tps_nil) (tps_cons (fr PassesOwn.never rfl (tpi_seq rfl (to_val (cu O_law_near_parting hr g_law_near_parting k_law_near_parting b_law_near_parting (a1 (sl 0) (a1 (to_val (rd 1)) (a1 (to_val (rd 5)) tpa_nil))) (hj := by omega)))) (gn 6 nd) (tps_cons (tps_if (cmT (op_neA hr.units) (ok_neA rfl) (to_val (cb cr_reprA ok_reprA B.repr rfl (a1 (to_val (cu O_is_parting hr g_is_parting k_is_parting b_is_parting (a1 (to_val (rd 1)) (a1 (to_val (rd 6)) tpa_nil)) (hj := by omega))) tpa_nil))) (to_val (cb cr_reprA ok_reprA B.repr rfl (a1 (to_val (cu O_law_is_parting hr g_law_is_parting k_law_is_parting b_law_is_parting (a1 (to_val (rd 1)) (a1 (to_val (rd 6)) tpa_nil)) (hj := by omega))) tpa_nil)))) (tps_cons (tps_ret cB) tps_nil) tps_nil) tps_nil)) tps_nil)))) (tps_cons (tps_ret (cm (op_eqA hr.units) (ok_eqA rfl) (to_val (tpe_methC g_Poly_at.1 g_Poly_at.2 O_Poly_at b_Poly_at (hr.mono (by omega)) (to_val (cu O_parting_polynomial hr g_parting_polynomial k_parting_polynomial b_parting_polynomial (a1 (to_val (rd 1)) (a1 (to_val (rd 2)) tpa_nil)) (hj := by omega))) (a1 (to_val cI) (a1 (to_val cI) tpa_nil)))) (to_val (tpe_tup (a1 (to_val (cb call_len_seq (ok_len rfl) B.len rfl (a1 (sl 3) tpa_nil))) (a1 (to_val cI) tpa_nil)))))) tps_nil)))))))
abbrev F_law_right := B_law_right
def s_law : Gam → OutS := (sSeq (sFor (mRng1 (aCons (fO (eCall bMaxA (aCons (fO (eC (.int 1))) (aCons (fO (eCall bMinA (aCons (fO (eC (.int 3))) (aCons (fO (eCall bLen (aCons (oSl 0) aNil))) aNil)))) aNil)))) aNil)) (gNm 1) (sSeq (sSet 2 (eCallN 2 F_law_dice (aCons (fO (eRd 0)) (aCons (fO (eRd 1)) aNil)))) (sSeq (sSet 3 (eOp fAdd (fO (eC (.int 1))) (fO (eCallN 2 F_law_roll (aCons (oSl 2) (aCons (fO (eC (.int 6))) aNil)))))) (sSeq (sIf (bOr (bNot (toT (eCallN 1 F_law_right (aCons (oSl 2) aNil)))) (toT (eOp (fEqD true) (fO (eProp 1 F_Poly_rows (fO (eCallN 2 F_parting_polynomial (aCons (fO (eC (.int 6))) (aCons (fO (eRd 3)) aNil)))))) (fO (eCallN 1 F_law_rows (aCons (fO (eCallN 2 F_law_parted (aCons (fO (eC (.int 6))) (aCons (fO (eRd 3)) aNil)))) aNil)))))) (sSeq (sRet (eC (.bl false))) sNx) sNx) sNx)))) (sSeq (sRet (eOp (fEqD false) (fO (eLst (aCons (fO (eCallN 1 F_inversions (aCons (fO (eTup (aCons (fO (eTup (aCons (fO (eC (.int 2))) (aCons (fO (eC (.int 3))) aNil)))) (aCons (fO (eTup (aCons (fO (eC (.int 1))) aNil))) aNil)))) aNil))) (aCons (fO (eCallN 1 F_inversions (aCons (fO (eTup (aCons (fO (eTup (aCons (fO (eC (.int 1))) (aCons (fO (eC (.int 3))) aNil)))) (aCons (fO (eTup (aCons (fO (eC (.int 2))) aNil))) aNil)))) aNil))) (aCons (fO (eCall bLen (aCons (fO (eListG 2 F_partings (aCons (fO (eC (.int 4))) (aCons (fO (eC (.int 2))) aNil)))) aNil))) aNil))))) (fO (eLst (aCons (fO (eC (.int 2))) (aCons (fO (eC (.int 1))) (aCons (fO (eC (.int 14))) aNil))))))) sNx))
def B_law : Gam → Out R := fnB 3 s_law
theorem ok_law (B : Blt mg) (CC : Cl K mg cls) (h : Here K mg "law" 66) (H_partings : HasG P w K mg base cls 5 "partings" 2 F_partings) (H_inversions : Has P w K mg base cls 5 "inversions" 1 F_inversions) (H_law_right : Has P w K mg base cls 20 "_law_right" 1 F_law_right) (H_Poly_rows : HasP P w K mg base cls 1 1 "rows" F_Poly_rows) (H_parting_polynomial : Has P w K mg base cls 19 "parting_polynomial" 2 F_parting_polynomial) (H_law_rows : Has P w K mg base cls 1 "_law_rows" 1 F_law_rows) (H_law_parted : Has P w K mg base cls 11 "_law_parted" 2 F_law_parted) (H_law_roll : Has P w K mg base cls 1 "_law_roll" 2 F_law_roll) (H_law_dice : Has P w K mg base cls 1 "_law_dice" 2 F_law_dice) : Has P w K mg base cls 21 "law" 1 B_law := by
  obtain ⟨f, fd, FP, g⟩ := h.ex
  obtain ⟨f_partings, fd_partings, ps_partings, O_partings, g_partings, k_partings, b_partings⟩ := H_partings.ex
  obtain ⟨f_inversions, fd_inversions, ps_inversions, O_inversions, g_inversions, k_inversions, b_inversions⟩ := H_inversions.ex
  obtain ⟨f_law_right, fd_law_right, ps_law_right, O_law_right, g_law_right, k_law_right, b_law_right⟩ := H_law_right.ex
  obtain ⟨f_Poly_rows, fd_Poly_rows, ps_Poly_rows, O_Poly_rows, g_Poly_rows, b_Poly_rows⟩ := H_Poly_rows.ex
  obtain ⟨f_parting_polynomial, fd_parting_polynomial, ps_parting_polynomial, O_parting_polynomial, g_parting_polynomial, k_parting_polynomial, b_parting_polynomial⟩ := H_parting_polynomial.ex
  obtain ⟨f_law_rows, fd_law_rows, ps_law_rows, O_law_rows, g_law_rows, k_law_rows, b_law_rows⟩ := H_law_rows.ex
  obtain ⟨f_law_parted, fd_law_parted, ps_law_parted, O_law_parted, g_law_parted, k_law_parted, b_law_parted⟩ := H_law_parted.ex
  obtain ⟨f_law_roll, fd_law_roll, ps_law_roll, O_law_roll, g_law_roll, k_law_roll, b_law_roll⟩ := H_law_roll.ex
  obtain ⟨f_law_dice, fd_law_dice, ps_law_dice, O_law_dice, g_law_dice, k_law_dice, b_law_dice⟩ := H_law_dice.ex
  have nd := sc_law.nd
  refine ⟨f, fd, ["script"], FP.ok (N := N_law) sc_law (fun vs H Q E h => h.1) (fun cdv A outer s H vs Q E hr h => ⟨_, PSs.nox ?_, fn_reads (N := N_law) (m := 3) rfl vs Q E h⟩), g, FP.kp, FP.bindsN fun _ _ _ _ _ _ us hl => match us, hl with | [_], _ => rfl⟩
  exact (tps_cons (fr PassesOwn.never rfl (r1 B.range (a1 (to_val (cb (cr_maxA rfl) ok_maxA B.max rfl (a1 (to_val cI) (a1 (to_val (cb (cr_minA rfl) (ok_minA rfl) B.min rfl (a1 (to_val cI) (a1 (to_val (cb call_len_seq (ok_len rfl) B.len rfl (a1 (sl 0) tpa_nil))) tpa_nil)))) tpa_nil)))) tpa_nil)) (gn 1 nd) (tps_cons (stv 2 nd (cu O_law_dice hr g_law_dice k_law_dice b_law_dice (a1 (to_val (rd 0)) (a1 (to_val (rd 1)) tpa_nil)) (hj := by omega))) (tps_cons (stv 3 nd (tpe_op op_addA (ok_add rfl) (to_val cI) (to_val (cu O_law_roll hr g_law_roll k_law_roll b_law_roll (a1 (sl 2) (a1 (to_val cI) tpa_nil)) (hj := by omega))))) (tps_cons (tps_if (PW.pt (tpw_or (tpt_not (tv (cu O_law_right hr g_law_right k_law_right b_law_right (a1 (sl 2) tpa_nil) (hj := by omega)))) (tpw_or1 (cmT (op_neA hr.units) (ok_neA rfl) (to_val (tpe_prop g_Poly_rows O_Poly_rows b_Poly_rows (hr.mono (by omega)) (to_val (cu O_parting_polynomial hr g_parting_polynomial k_parting_polynomial b_parting_polynomial (a1 (to_val cI) (a1 (to_val (rd 3)) tpa_nil)) (hj := by omega))))) (to_val (cu O_law_rows hr g_law_rows k_law_rows b_law_rows (a1 (to_val (cu O_law_parted hr g_law_parted k_law_parted b_law_parted (a1 (to_val cI) (a1 (to_val (rd 3)) tpa_nil)) (hj := by omega))) tpa_nil) (hj := by omega))))))) (tps_cons (tps_ret cB) tps_nil) tps_nil) tps_nil)))) (tps_cons (tps_ret (cm (op_eqA hr.units) (ok_eqA rfl) (to_val (tpe_lst (a1 (to_val (cu O_inversions hr g_inversions k_inversions b_inversions (a1 (to_val (tpe_tup (a1 (to_val (tpe_tup (a1 (to_val cI) (a1 (to_val cI) tpa_nil)))) (a1 (to_val (tpe_tup (a1 (to_val cI) tpa_nil))) tpa_nil)))) tpa_nil) (hj := by omega))) (a1 (to_val (cu O_inversions hr g_inversions k_inversions b_inversions (a1 (to_val (tpe_tup (a1 (to_val (tpe_tup (a1 (to_val cI) (a1 (to_val cI) tpa_nil)))) (a1 (to_val (tpe_tup (a1 (to_val cI) tpa_nil))) tpa_nil)))) tpa_nil) (hj := by omega))) (a1 (to_val (cb call_len_seq (ok_len rfl) B.len rfl (a1 (to_val (cg O_partings hr g_partings k_partings b_partings B.list (a1 (to_val cI) (a1 (to_val cI) tpa_nil)))) tpa_nil))) tpa_nil))))) (to_val (tpe_lst (a1 (to_val cI) (a1 (to_val cI) (a1 (to_val cI) tpa_nil))))))) tps_nil))
abbrev F_law := B_law
end
end T

-- text L1
set_option Elab.async false
set_option linter.all false
set_option maxRecDepth 100000
set_option maxHeartbeats 4000000
namespace T
open PySem L2

section
variable {a b c n : Int}
theorem roll_pos (h : 0 < a) (hn : 0 < n) (hn2 : n ≤ 1000) : B_law_roll [.io (.lst [.int a, .int b, .int c]), .fz (.int n)] = .ok (.fz (.int (a % n))) [.io (.lst [.int (a / n), .int b, .int c]), .fz (.int n)] := by
  have e2 : cMod a n = true := by simp [cMod, hn]
  have e3 : cDiv a n = true := by
    unfold cDiv
    rw [decide_eq_true hn, Bool.true_and, Nat.blt_eq]
    have : n.natAbs < 2 ^ 10 := by omega
    by_cases hz : n.natAbs = 0
    · omega
    · have := (Nat.log2_lt hz).mpr this
      omega
  simp [B_law_roll, s_law_roll, fnB, sSeq, sNx, sIf, sRet, sRetN, sSet, sSetIx, sExpr, Out.toS, Out.bind, Out.bindN, eOp, eCall, aCons, aNil, look, looks, slD, fO, eRd, eMv, oSl, eC, ofB, BR.out, nxO, stG, R.sl, Sl.isIo, eAnd, eOr, eNot, bAnd, bOr, bNot, toT, eTup, eLst, dsOf, fI, fIc, Sl.lst, Sl.putL, ioOut, List.replicate, List.cons_append, List.nil_append, List.getElem?_cons_zero, List.getElem?_cons_succ, List.set_cons_zero, List.set_cons_succ, eCallN, mkArgs, mkArg, mkSl, disA, slIn, putArgs, reSl, eChain, eIf, eNeg, sPut, Sl.dat, Sl.put, setD, fIxD, fMulA, bInt, fGt, fMod, fDiv, ix3_0, ix3_1, ix3_2, h, e2, e3, ixN3_0, ixN3_2]
end
section
variable {a b c n : Int}
theorem roll_zero (h : ¬ 0 < a) (hn : 0 < n) (hn2 : n ≤ 1000) (hb0 : 0 ≤ b) (hb : b < 2147482409) (hc0 : 0 ≤ c) (hc : c < 1000) : ∃ k, B_law_roll [.io (.lst [.int a, .int b, .int c]), .fz (.int n)] = .ok (.fz (.int (k % n))) [.io (.lst [.int a, .int b, .int (c + 1)]), .fz (.int n)] := by
  have p61 : (0 : Int) < 2305843009213693951 := by decide
  have m1 : cMul 1000409 (c + 1) = true := cMul_200 (by decide) (by decide) (by omega) (Int.lt_of_lt_of_le (show c + 1 < 2000 by omega) (by decide))
  have m3 : cMul 9533 (c + 1) = true := cMul_200 (by decide) (by decide) (by omega) (Int.lt_of_lt_of_le (show c + 1 < 2000 by omega) (by decide))
  generalize ho : (b + 1000409 * (c + 1)) % 2305843009213693951 = one
  have o0 : 0 ≤ one := by rw [← ho]; exact Int.emod_nonneg _ (by decide)
  have o1 : one < 2305843009213693951 := by rw [← ho]; exact Int.emod_lt_of_pos _ (by decide)
  have m2 : cMul one one = true := cMul_200 o0 (Int.lt_of_lt_of_le o1 (by decide)) o0 (Int.lt_of_lt_of_le o1 (by decide))
  have t0 : 0 ≤ one * one % 2305843009213693921 := Int.emod_nonneg _ (by decide)
  have t1 : one * one % 2305843009213693921 < 2305843009213693921 := Int.emod_lt_of_pos _ (by decide)
  have m4 : cMul (one * one % 2305843009213693921) one = true := cMul_200 t0 (Int.lt_of_lt_of_le t1 (by decide)) o0 (Int.lt_of_lt_of_le o1 (by decide))
  have e2 : ∀ i, cMod i n = true := fun i => cMod_of hn
  have q1 : ∀ i, cMod i 2305843009213693951 = true := fun i => cMod_of (by decide)
  have q2 : ∀ i, cMod i 2305843009213693921 = true := fun i => cMod_of (by decide)
  have q3 : ∀ i, cMod i 2305843009213693907 = true := fun i => cMod_of (by decide)
  have q4 : ∀ i, cDiv i 4096 = true := fun i => cDiv_of (by decide) (by decide)
  exact ⟨_, by simp [B_law_roll, s_law_roll, fnB, sSeq, sNx, sIf, sRet, sRetN, sSet, sSetIx, sExpr, Out.toS, Out.bind, Out.bindN, eOp, eCall, aCons, aNil, look, looks, slD, fO, eRd, eMv, oSl, eC, ofB, BR.out, nxO, stG, R.sl, Sl.isIo, eAnd, eOr, eNot, bAnd, bOr, bNot, toT, eTup, eLst, dsOf, fI, fIc, Sl.lst, Sl.putL, ioOut, List.replicate, List.cons_append, List.nil_append, List.getElem?_cons_zero, List.getElem?_cons_succ, List.set_cons_zero, List.set_cons_succ, eCallN, mkArgs, mkArg, mkSl, disA, slIn, putArgs, reSl, eChain, eIf, eNeg, sPut, Sl.dat, Sl.put, setD, fIxD, fMulA, bInt, fGt, fMod, fDiv, fMul, fAdd, fMulA, ix3_0, ix3_1, ix3_2, h, ixN3_0, ixN3_2, m1, m2, m3, m4, e2, q1, q2, q3, q4, ho]; rfl⟩
end
section
variable {a b c n : Int}
/-- dice: the counter is at most m -/
def Dice (m : Int) (d : D) : Prop := ∃ a b c, d = .lst [.int a, .int b, .int c] ∧ 0 ≤ b ∧ b < 2147482409 ∧ 0 ≤ c ∧ c ≤ m
end
section
variable {a b c n : Int}
theorem Dice.mono {m m' : Int} {d : D} (h : Dice m d) (l : m ≤ m') : Dice m' d := by
  obtain ⟨a, b, c, e, h1, h2, h3, h4⟩ := h
  exact ⟨a, b, c, e, h1, h2, h3, by omega⟩
end
section
variable {a b c n : Int}
theorem roll_ok {m : Int} {d : D} (h : Dice m d) (hm : m < 999) (hn : 0 < n) (hn2 : n ≤ 1000) : ∃ k d', B_law_roll [.io d, .fz (.int n)] = .ok (.fz (.int k)) [.io d', .fz (.int n)] ∧ Dice (m + 1) d' ∧ 0 ≤ k ∧ k < n := by
  obtain ⟨a, b, c, rfl, h1, h2, h3, h4⟩ := h
  by_cases ha : 0 < a
  · exact ⟨_, _, roll_pos ha hn hn2, ⟨_, _, _, rfl, h1, h2, h3, by omega⟩, Int.emod_nonneg _ (by omega), Int.emod_lt_of_pos _ hn⟩
  · obtain ⟨k, e⟩ := roll_zero (a := a) (b := b) (c := c) ha hn hn2 h1 h2 h3 (by omega)
    exact ⟨_, _, e, ⟨_, _, _, rfl, h1, h2, by omega, by omega⟩, Int.emod_nonneg _ (by omega), Int.emod_lt_of_pos _ hn⟩
end
/-- what a roll does -/
def Rolls (F : Gam → Out R) : Prop := ∀ (m : Int) (d : D) (n : Int), Dice m d → m < 999 → 0 < n → n ≤ 1000 → ∃ k d', F [.io d, .fz (.int n)] = .ok (.fz (.int k)) [.io d', .fz (.int n)] ∧ Dice (m + 1) d' ∧ 0 ≤ k ∧ k < n
theorem rolls : Rolls B_law_roll := fun _ _ _ h hm hn hn2 => roll_ok h hm hn hn2
theorem roll_call {F : Gam → Out R} {m : Gam → Out Ar} {r : Gam} {d d' d2 : D} {x : R} (h1 : m (.io d :: r) = .ok (.d d2) (.io d :: r)) (h : F [.io d, .fz d2] = .ok x [.io d', .fz d2]) : eCallN 2 F (aCons (oSl 0) (aCons m aNil)) (.io d :: r) = .ok x (.io d' :: r) := by
  simp only [fnB, sSeq, sNx, sIf, sRet, sRetN, sSet, sSetIx, sExpr, Out.toS, Out.bind, Out.bindN, eOp, eCall, aCons, aNil, look, looks, slD, fO, eRd, eMv, oSl, eC, ofB, BR.out, nxO, stG, R.sl, Sl.isIo, eAnd, eOr, eNot, bAnd, bOr, bNot, toT, eTup, eLst, dsOf, fI, fIc, Sl.lst, Sl.putL, ioOut, List.replicate, List.cons_append, List.nil_append, List.getElem?_cons_zero, List.getElem?_cons_succ, List.set_cons_zero, List.set_cons_succ, eCallN, mkArgs, mkArg, mkSl, disA, slIn, putArgs, reSl, eChain, eIf, eNeg, sPut, Sl.dat, Sl.put, setD, fIxD, fMulA, Nat.beq, List.length_cons, List.length_nil, Bool.and_self, Bool.not_false, h1, h]
theorem rollN (m : Int) (d : D) (n : Nat) (h : Dice m d) (hm : m < 999) (h1 : 1 ≤ n) (hn : n ≤ 1000) : ∃ (j : Nat) (d' : D), B_law_roll [.io d, .fz (.int (n : Int))] = .ok (.fz (.int (Int.ofNat j))) [.io d', .fz (.int (n : Int))] ∧ Dice (m + 1) d' ∧ j < n := by
  obtain ⟨k, d', e, hd, k0, k1⟩ := rolls m d (n : Int) h hm (by omega) (by omega)
  obtain ⟨j, rfl⟩ : ∃ j : Nat, k = (j : Int) := ⟨k.toNat, by omega⟩
  exact ⟨j, d', e, hd, by omega⟩
/-- a start of dice -/
theorem dice_ok (ns : List Int) (k : Nat) (hk : k < 64) : ∃ d, B_law_dice [.fz (.frz (intD ns)), .fz (.int (k : Int))] = .ok (.own d) [.fz (.frz (intD ns)), .fz (.int (k : Int))] ∧ Dice 0 d := by
  have q1 : ∀ i, cMod i 2147482417 = true := fun i => cMod_of (by decide)
  have q2 : ∀ i, cMod i 2147482409 = true := fun i => cMod_of (by decide)
  have p1 : cPow 10 61 = true := by decide +kernel
  have p2 : cPow (10 ^ (61 : Int).toNat) 10 = true := by decide +kernel
  have p3 : cPow 10 18 = true := by decide +kernel
  have q3 : ∀ i, cMod i ((10 ^ (61 : Int).toNat) ^ (10 : Int).toNat) = true := fun i => cMod_of (by decide +kernel)
  have q4 : ∀ i, cDiv i (10 ^ (18 : Int).toNat) = true := fun i => by
    have : cDiv 0 (10 ^ (18 : Int).toNat) = true := by decide +kernel
    exact this
  have m1 : cMul 113 (k : Int) = true := cMul_200 (by decide) (by decide) (by omega) (Int.lt_of_lt_of_le (show (k : Int) < 64 by omega) (by decide))
  have m2 : cMul 4099 (k : Int) = true := cMul_200 (by decide) (by decide) (by omega) (Int.lt_of_lt_of_le (show (k : Int) < 64 by omega) (by decide))
  have m3 : ∀ i : Int, cMul (i % 2147482417) 70001 = true := fun i => cMul_200 (Int.emod_nonneg _ (by decide)) (Int.lt_of_lt_of_le (Int.emod_lt_of_pos _ (by decide)) (by decide)) (by decide) (by decide)
  have m4 : ∀ b : Bool, cMul 113 (if b = true then 1 else 0) = true := fun b => by cases b <;> decide
  have f3 : ∀ x y z : D, fitN ([x, y, z].length) = true := fun _ _ _ => rfl
  have big : ∃ x y : Int, B_law_dice [.fz (.frz (intD ns)), .fz (.int (k : Int))] = .ok (.own (.lst [.int x, .int (y % 2147482409), .int 0])) [.fz (.frz (intD ns)), .fz (.int (k : Int))] := by
    by_cases hb : k < ns.length
    · have h1 : decide ((k : Int) < ((intD ns).length : Int)) = true := decide_eq_true (by rw [intD_len]; omega)
      have h2 : fIx (.frz (intD ns)) (.int (k : Int)) = some (.val (.int ns[k])) := by
        have := fIx_lst (ds := intD ns) k rfl (d := .int ns[k]) (by rw [intD_get, List.getElem?_eq_getElem hb]; rfl)
        exact this
      generalize (k : Int) = i at h1 h2 m1 m2 ⊢
      exact ⟨_, _, by simp only [B_law_dice, s_law_dice, fnB, sSeq, sNx, sIf, sRet, sRetN, sSet, sSetIx, sExpr, Out.toS, Out.bind, Out.bindN, eOp, eCall, aCons, aNil, look, looks, slD, fO, eRd, eMv, oSl, eC, ofB, BR.out, nxO, stG, R.sl, Sl.isIo, eAnd, eOr, eNot, bAnd, bOr, bNot, toT, eTup, eLst, dsOf, fI, fIc, Sl.lst, Sl.putL, ioOut, List.replicate, List.cons_append, List.nil_append, List.getElem?_cons_zero, List.getElem?_cons_succ, List.set_cons_zero, List.set_cons_succ, eCallN, mkArgs, mkArg, mkSl, disA, slIn, putArgs, reSl, eChain, eIf, eNeg, sPut, Sl.dat, Sl.put, setD, fIxD, fMulA, bLen, bInt, bAbs, fMod, fDiv, fMul, fAdd, fPow, fLtA, fLt, p1, p2, p3, q1, q2, q3, q4, m1, m2, m3, m4, f3, h1, h2, if_true]; rfl⟩
    · have h1 : decide ((k : Int) < ((intD ns).length : Int)) = false := decide_eq_false (by rw [intD_len]; omega)
      generalize (k : Int) = i at h1 m1 m2 ⊢
      exact ⟨_, _, by simp only [B_law_dice, s_law_dice, fnB, sSeq, sNx, sIf, sRet, sRetN, sSet, sSetIx, sExpr, Out.toS, Out.bind, Out.bindN, eOp, eCall, aCons, aNil, look, looks, slD, fO, eRd, eMv, oSl, eC, ofB, BR.out, nxO, stG, R.sl, Sl.isIo, eAnd, eOr, eNot, bAnd, bOr, bNot, toT, eTup, eLst, dsOf, fI, fIc, Sl.lst, Sl.putL, ioOut, List.replicate, List.cons_append, List.nil_append, List.getElem?_cons_zero, List.getElem?_cons_succ, List.set_cons_zero, List.set_cons_succ, eCallN, mkArgs, mkArg, mkSl, disA, slIn, putArgs, reSl, eChain, eIf, eNeg, sPut, Sl.dat, Sl.put, setD, fIxD, fMulA, bLen, bInt, bAbs, fMod, fDiv, fMul, fAdd, fPow, fLtA, fLt, p1, p2, p3, q1, q2, q3, q4, m1, m2, m3, m4, f3, h1, if_true, Bool.false_eq_true, if_false]; rfl⟩
  obtain ⟨x, y, e⟩ := big
  exact ⟨_, e, _, _, _, rfl, Int.emod_nonneg _ (by decide), Int.emod_lt_of_pos _ (by decide), Int.le_refl _, Int.le_refl _⟩
end T

-- text X2
set_option Elab.async false
set_option linter.all false
set_option maxRecDepth 100000
set_option maxHeartbeats 4000000
namespace T
open PySem L2
theorem within_int (i a b : Int) : B_is_within [.fz (.int i), .fz (.int a), .fz (.int b)] = .ok (.fz (.bl (decide (a ≤ i) && decide (i ≤ b)))) [.fz (.int i), .fz (.int a), .fz (.int b)] := by
  have hw : B_is_whole_number [.fz (.int i)] = .ok (.fz (.bl true)) [.fz (.int i)] := rfl
  cases h1 : decide (a ≤ i) with
  | true => simp only [B_is_within, s_is_within, F_is_whole_number, fnB, sSeq, sNx, sIf, sRet, sRetN, sSet, sSetIx, sExpr, Out.toS, Out.bind, Out.bindN, eOp, eCall, aCons, aNil, look, looks, slD, fO, eRd, eMv, oSl, eC, ofB, BR.out, nxO, stG, R.sl, Sl.isIo, eAnd, eOr, eNot, bAnd, bOr, bNot, toT, eTup, eLst, dsOf, fI, fIc, Sl.lst, Sl.putL, ioOut, List.replicate, List.cons_append, List.nil_append, List.getElem?_cons_zero, List.getElem?_cons_succ, List.set_cons_zero, List.set_cons_succ, eCallN, mkArgs, mkArg, mkSl, disA, slIn, putArgs, reSl, eChain, eIf, eNeg, sPut, Sl.dat, Sl.put, setD, fIxD, fMulA, Nat.beq, List.length_cons, List.length_nil, hw, fLe, h1, Bool.true_and, Bool.and_self, Bool.not_false]
  | false => simp only [B_is_within, s_is_within, F_is_whole_number, fnB, sSeq, sNx, sIf, sRet, sRetN, sSet, sSetIx, sExpr, Out.toS, Out.bind, Out.bindN, eOp, eCall, aCons, aNil, look, looks, slD, fO, eRd, eMv, oSl, eC, ofB, BR.out, nxO, stG, R.sl, Sl.isIo, eAnd, eOr, eNot, bAnd, bOr, bNot, toT, eTup, eLst, dsOf, fI, fIc, Sl.lst, Sl.putL, ioOut, List.replicate, List.cons_append, List.nil_append, List.getElem?_cons_zero, List.getElem?_cons_succ, List.set_cons_zero, List.set_cons_succ, eCallN, mkArgs, mkArg, mkSl, disA, slIn, putArgs, reSl, eChain, eIf, eNeg, sPut, Sl.dat, Sl.put, setD, fIxD, fMulA, Nat.beq, List.length_cons, List.length_nil, hw, fLe, h1, Bool.false_and, Bool.and_self, Bool.not_false]
inductive At where
  | i (n : Int) | b (b : Bool) | s (x : Str)
def At.d : At → D
  | .i n => D.int n
  | .b t => D.bl t
  | .s x => D.str x
def At.ok : At → Bool
  | .s x => x.cps.all (· < 0x110000)
  | _ => true
def At.wi (s : Int) : At → Bool
  | .i n => decide (1 ≤ n) && decide (n ≤ s)
  | _ => false
def At.int : At → Bool
  | .i _ => true
  | _ => false
def At.n : At → Int
  | .i n => n
  | _ => 0
inductive Bk where
  | tup (as : List At) | lst (is : List Int) | non | int (i : Int)
def Bk.d : Bk → D
  | .tup as => .tup (as.map At.d)
  | .lst is => .lst (intD is)
  | .non => .non
  | .int i => .int i
def Bk.ok : Bk → Bool
  | .tup as => as.all At.ok && decide (as.length ≤ 1000)
  | _ => true
def asc (l : List Int) : Bool := (l.zip l.tail).all fun p => decide (p.1 < p.2)
def Bk.good : Bk → Option (List Int)
  | .tup as => if !as.isEmpty && (as.all At.int && asc (as.map At.n)) then some (as.map At.n) else none
  | _ => none
def Bk.blk (s : Int) : Bk → Bool
  | .tup as => !as.isEmpty && (as.all (At.wi s) && asc (as.map At.n))
  | _ => false
theorem wi_ok (s : Int) (a : At) : B_is_within [.fz a.d, .fz (.int 1), .fz (.int s)] = .ok (.fz (.bl (a.wi s))) [.fz a.d, .fz (.int 1), .fz (.int s)] := by
  cases a with
  | i n => exact within_int n 1 s
  | b b => rfl
  | s x => rfl
theorem sh_at (n : Nat) : ∀ as : List At, as.all At.ok = true → shL n (as.map At.d) = true
  | [], _ => by cases n <;> rfl
  | a :: as, h => by
    rw [List.all_cons, Bool.and_eq_true] at h
    rw [List.map_cons]
    unfold shL
    rw [sh_at n as h.2, Bool.and_true]
    cases a with
    | i k => unfold At.d shD; cases n <;> rfl
    | b k => unfold At.d shD; cases n <;> rfl
    | s x => exact (show shD n (.str x) = true by unfold shD; exact h.1)
theorem eq_nil (as : List At) (h : as.all At.ok = true) : fEqD false (.tup (as.map At.d)) (.tup []) = some (.val (.bl as.isEmpty)) := by
  show fEq false _ _ = _
  unfold fEq
  have h1 : shD 12 (.tup (as.map At.d)) = true := by unfold shD; exact sh_at 11 as h
  have h2 : shD 12 (.tup []) = true := rfl
  rw [h1, h2]
  cases as <;> rfl
theorem map_i (as : List At) (h : as.all At.int = true) : as.map At.d = (as.map At.n).map D.int := by
  rw [List.map_map]
  refine List.map_congr_left fun a ha => ?_
  have := List.all_eq_true.mp h a ha
  cases a with
  | i n => rfl
  | b b => cases this
  | s x => cases this
theorem wi_int {s : Int} {as : List At} (h : as.all (At.wi s) = true) : as.all At.int = true := List.all_eq_true.mpr fun a ha => by
  have := List.all_eq_true.mp h a ha
  cases a with
  | i n => rfl
  | b b => cases this
  | s x => cases this
theorem fLt_z (i j : Int) : fLtA (.int i) (.int j) = some (.val (.bl (decide (i < j)))) := rfl
theorem blk_ok (s : Int) (b : Bk) (h : b.ok = true) : B_is_block [.fz (.int s), .fz b.d] = .ok (.fz (.bl (b.blk s))) [.fz (.int s), .fz b.d] := by
  cases b with
  | lst is => rfl
  | non => rfl
  | int i => rfl
  | tup as =>
    obtain ⟨h1, h2⟩ := Bool.and_eq_true_iff.mp h
    have h2 : as.length ≤ 1000 := of_decide_eq_true h2
    generalize hV : D.tup (as.map At.d) = V
    show B_is_block [.fz (.int s), .fz (.tup (as.map At.d))] = .ok (.fz (.bl (Bk.blk s (.tup as)))) [.fz (.int s), .fz (.tup (as.map At.d))]
    rw [hV]
    have c1 : bNot (toT (eCall bIsi (aCons (oSl 1) (aCons (fO (eC (.ty "tuple"))) aNil)))) [.fz (.int s), .fz V, .un, .un] = .ok false [.fz (.int s), .fz V, .un, .un] := by rw [← hV]; rfl
    have c2 := tT_v (op_v (f := fEqD false) (ma := oSl 1) (mb := fO (eTup aNil)) (γ := [.fz (.int s), .fz V, .un, .un]) (a := .sl 1) (b := .d (.tup [])) rfl rfl rfl rfl (by rw [← hV]; exact eq_nil as h1))
    have lc := eLc_mapg (mi := mIter (fO (eRd 1))) (vs := [2]) (f := gNm 2) (t := mYes) (e := fO (eCallN 3 F_is_within (aCons (fO (eRd 2)) (aCons (fO (eC (.int 1))) (aCons (fO (eRd 0)) aNil))))) (γ0 := [.fz (.int s), .fz V, .un, .un]) (γ1 := [.fz (.int s), .fz V, .un, .un]) (γ := [.fz (.int s), .fz V, .un, .un])
      At.d (fun a => [.fz (.int s), .fz V, .fz a.d, .un]) (fun _ => true) (fun a => D.bl (a.wi s)) as
      (by rw [← hV]; rfl) rfl (fun _ _ => rfl) (fun _ _ => rfl) (fun a _ _ => fo_fz (callN_3 (F := F_is_within) (d1 := a.d) (d2 := .int 1) (d3 := .int s) rfl rfl rfl (wi_ok s a))) (fun _ _ => rfl) (by omega)
    rw [filter_yes] at lc
    have al := all_ok lc
    refine fnB_rt (γ := [.fz (.int s), .fz V, .un, .un]) ?_
    unfold s_is_block
    show sSeq _ _ [.fz (.int s), .fz V, .un, .un] = _
    cases he : as.isEmpty with
    | true =>
      rw [he] at c2
      have e0 : Bk.blk s (.tup as) = false := by show (!as.isEmpty && (as.all (At.wi s) && asc (as.map At.n))) = false; rw [he]; rfl
      rw [e0]
      exact seq_rt ((if_t (or_f c1 (or_t c2))).trans (seq_rt (ret_ok rfl)))
    | false =>
      rw [he] at c2
      cases hw : as.all (At.wi s) with
      | false =>
        rw [hw] at al
        have e0 : Bk.blk s (.tup as) = false := by show (!as.isEmpty && (as.all (At.wi s) && asc (as.map At.n))) = false; rw [hw]; simp
        rw [e0]
        exact seq_rt ((if_t (or_f c1 (or_f c2 (not_v (tT_v al))))).trans (seq_rt (ret_ok rfl)))
      | true =>
        rw [hw] at al
        have hi := wi_int hw
        have e0 : Bk.blk s (.tup as) = asc (as.map At.n) := by show (!as.isEmpty && (as.all (At.wi s) && asc (as.map At.n))) = _; rw [hw, he]; simp
        rw [e0]
        have n1 := if_f (a := sSeq (sRet (eC (.bl false))) sNx) (b := sNx) (or_f c1 (or_f c2 (not_v (tT_v al))))
        have em := map_i as hi
        have hlen : (as.map At.n).length = as.length := List.length_map _
        generalize as.map At.n = is at em hlen ⊢
        have e1 : eSl (oSl 1) (pSome (fO (eC (.int 1)))) pNone [.fz (.int s), .fz V, .un, .un] = .ok (.fz (.tup (is.tail.map D.int))) [.fz (.int s), .fz V, .un, .un] := by
          rw [← hV, em]
          cases is with
          | nil => rfl
          | cons t Q =>
            have := sl_lo (m := oSl 1) (mh := fO (eC (.int 1))) (γ := [.fz (.int s), .fz (.tup ((t :: Q).map D.int)), .un, .un]) (a := .sl 1) (b := .d (.int 1)) (ds := (t :: Q).map D.int) (k := 1) (i := 1) rfl rfl rfl rfl rfl (by simp)
            exact this
        have mz : mZip (aCons (fO (eRd 1)) (aCons (fO (eSl (oSl 1) (pSome (fO (eC (.int 1)))) pNone)) aNil)) [.fz (.int s), .fz V, .un, .un] = .ok ((is.zip is.tail).map fun p => D.tup [D.int p.1, D.int p.2]) [.fz (.int s), .fz V, .un, .un] := by
          unfold mZip
          rw [args2 (m := fO (eRd 1)) (a := .d V) rfl (fo_fz e1)]
          rw [← hV, em]
          show Out.ok (zipD (is.map D.int) (is.tail.map D.int)) _ = _
          rw [zipD_map]
        have lz := eLc_mapg (mi := mZip (aCons (fO (eRd 1)) (aCons (fO (eSl (oSl 1) (pSome (fO (eC (.int 1)))) pNone)) aNil))) (vs := [2, 3]) (f := gTp 2 (gsCons (gNm 2) (gsCons (gNm 3) gsNil))) (t := mYes) (e := fO (eOp fLtA (oSl 2) (oSl 3))) (γ0 := [.fz (.int s), .fz V, .un, .un]) (γ1 := [.fz (.int s), .fz V, .un, .un]) (γ := [.fz (.int s), .fz V, .un, .un])
          (fun p : Int × Int => D.tup [D.int p.1, D.int p.2]) (fun p => [.fz (.int s), .fz V, .fz (.int p.1), .fz (.int p.2)]) (fun _ => true) (fun p => D.bl (decide (p.1 < p.2))) (is.zip is.tail)
          mz rfl (fun _ _ => rfl) (fun _ _ => rfl) (fun p _ _ => fo_fz (op_v (a := .sl 2) (b := .sl 3) rfl rfl rfl rfl (fLt_z p.1 p.2))) (fun _ _ => rfl) (by rw [List.length_zip]; omega)
        rw [filter_yes] at lz
        have az := all_ok lz
        exact (seq_nx (n1.trans rfl)).trans (seq_rt (ret_ok az))
end T

-- text X3
set_option Elab.async false
set_option linter.all false
set_option maxRecDepth 100000
set_option maxHeartbeats 4000000
namespace T
open PySem L2
theorem lc2_map {α β : Type} {vs vs1 : List Nat} {f f1 : D → Gam → Option Gam} {mi1 : Gam → Out (List D)} {e : Gam → Out Ar} {γ : Gam} (cst : α → D) (gx g4 : α → Gam) (ls : α → List β) (cs : β → D) (gy : α → β → Gam) (g : β → D) : ∀ (xs : List α) (c : Nat), (∀ x ∈ xs, f (cst x) γ = some (gx x)) → (∀ x ∈ xs, mi1 (gx x) = .ok ((ls x).map cs) (gx x)) → (∀ x ∈ xs, unO vs1 (gx x) = some (g4 x)) →
    (∀ x ∈ xs, ∀ y ∈ ls x, f1 (cs y) (g4 x) = some (gy x y)) → (∀ x ∈ xs, ∀ y ∈ ls x, e (gy x y) = .ok (.d (g y)) (gy x y)) → (∀ x ∈ xs, ∀ y ∈ ls x, unO vs1 (gy x y) = some (g4 x)) → (∀ x ∈ xs, unO vs (g4 x) = some γ) → c + (xs.flatMap ls).length ≤ 16777216 →
    lc2Go vs f mYes mi1 vs1 f1 mYes e (xs.map cst) c γ = .ok ((xs.flatMap ls).map g) γ
  | [], c, _, _, _, _, _, _, _, _ => rfl
  | x :: xs, c, h1, h2, h3, h4, h5, h6, h7, h8 => by
    have mx : x ∈ x :: xs := List.mem_cons_self
    have i1 : ∀ y ∈ xs, y ∈ x :: xs := fun y hy => List.mem_cons_of_mem _ hy
    have hl : ((x :: xs).flatMap ls).length = (ls x).length + (xs.flatMap ls).length := by rw [List.flatMap_cons, List.length_append]
    have inner := lc_map (vs := vs1) (f := f1) (t := mYes) (e := e) (γ := g4 x) cs (gy x) (fun _ => true) g (ls x) c (h4 x mx) (fun _ _ => rfl) (fun y hy _ => h5 x mx y hy) (h6 x mx) (by omega)
    rw [filter_yes] at inner
    have rest := lc2_map (vs := vs) (vs1 := vs1) (f := f) (f1 := f1) (mi1 := mi1) (e := e) (γ := γ) cst gx g4 ls cs gy g xs (c + ((ls x).map g).length) (fun y hy => h1 y (i1 y hy)) (fun y hy => h2 y (i1 y hy)) (fun y hy => h3 y (i1 y hy)) (fun y hy => h4 y (i1 y hy)) (fun y hy => h5 y (i1 y hy)) (fun y hy => h6 y (i1 y hy)) (fun y hy => h7 y (i1 y hy)) (by rw [List.length_map]; omega)
    rw [List.map_cons, List.flatMap_cons, List.map_append]
    unfold lc2Go
    simp only [h1 x mx, mYes, Out.bindN, h2 x mx, h3 x mx]
    simp only [inner, Out.bind, h7 x mx, rest]
/-- sorted ints are 1 .. s -/
def oneTo (s : Nat) : List Int := (List.range s).map fun k => (1 : Int) + Int.ofNat k
def isAll (s : Nat) (l : List Int) : Bool := decide (srt l = oneTo s)
theorem isAll_in {s : Nat} {l : List Int} (h : isAll s l = true) : ∀ x ∈ l, 1 ≤ x ∧ x ≤ (s : Int) := fun x hx => by
  have e : srt l = oneTo s := of_decide_eq_true h
  have hx2 : x ∈ srt l := (srt_perm l).mem_iff.mpr hx
  rw [e] at hx2
  obtain ⟨k, hk, rfl⟩ := List.mem_map.mp hx2
  have := List.mem_range.mp hk
  show 1 ≤ (1 : Int) + (k : Int) ∧ (1 : Int) + (k : Int) ≤ s
  omega
theorem sort_end {m : Gam → Out R} {γ : Gam} {s : Nat} {l : List Int} (hs : s ≤ 6) (h : fO m γ = .ok (.d (.lst (intD l))) γ) (h0 : look γ (.sl 0) = some (.int (s : Int))) :
    eOp (fEqD false) (fO (eCall bSortA (aCons (fO m) aNil))) (fO (eLstRg2 (fO (eC (.int 1))) (fO (eOp fAdd (oSl 0) (fO (eC (.int 1))))))) γ = .ok (.fz (.bl (isAll s l))) γ := by
  have bs : bSortA [.lst (intD l)] = some (.newL (intD (srt l))) := by
    show (match intsOf (intD l) with
      | some _ => bSorted [.lst (intD l)]
      | none => _) = _
    rw [intsOf_intD]
    show (match intsOf (intD l) with
      | some is => some (BR.newL (intD (srt is)))
      | none => none) = _
    rw [intsOf_intD]
  have e1 : eCall bSortA (aCons (fO m) aNil) γ = .ok (.own (.lst (intD (srt l)))) γ := call_1 h rfl (by rw [bs]; rfl)
  have p1 : fO (eOp fAdd (oSl 0) (fO (eC (.int 1)))) γ = .ok (.d (.int ((s : Int) + 1))) γ := fo_fz (op_v (f := fAdd) (a := .sl 0) (b := .d (.int 1)) (osl_ok h0) rfl h0 rfl rfl)
  have gen : ∀ j : Int, fO (eOp fAdd (oSl 0) (fO (eC (.int 1)))) γ = .ok (.d (.int j)) γ → rgB 1 j = true → eLstRg2 (fO (eC (.int 1))) (fO (eOp fAdd (oSl 0) (fO (eC (.int 1))))) γ = .ok (.own (.lst (rgD 1 (j - 1).toNat))) γ := fun j hj hb => by
    unfold eLstRg2
    rw [show fO (eC (.int 1)) γ = .ok (.d (.int 1)) γ from rfl]
    simp only [Out.bind, hj, look, hb]
  have rb : ∀ s : Nat, s ≤ 6 → rgB 1 ((s : Int) + 1) = true := by decide +kernel
  have e2 := gen _ p1 (rb s hs)
  rw [show ((s : Int) + 1 - 1).toNat = s by omega, rgD_map] at e2
  have e3 : (List.range s).map (fun k => D.int (1 + ((k : Nat) : Int))) = intD (oneTo s) := by
    rw [intD_map]
    unfold oneTo
    rw [List.map_map]
    rfl
  rw [e3] at e2
  have fin := fEq_lst false (srt l) (oneTo s)
  exact op_v (f := fEqD false) (fo_own e1) (fo_own e2) rfl rfl fin
def Bk.is : Bk → List Int
  | .tup as => as.map At.n
  | _ => []
theorem blk_tup {s : Int} {b : Bk} (h : b.blk s = true) : b.d = .tup (b.is.map D.int) := by
  cases b with
  | tup as =>
    have h2 : (!as.isEmpty && (as.all (At.wi s) && asc (as.map At.n))) = true := h
    simp only [Bool.and_eq_true] at h2
    show D.tup (as.map At.d) = D.tup ((as.map At.n).map D.int)
    rw [map_i as (wi_int h2.2.1)]
  | lst is => cases h
  | non => cases h
  | int i => cases h
structure Bks (bs : List Bk) : Prop where
  ok : ∀ b ∈ bs, b.ok = true
  len : bs.length ≤ 1000
  tot : (bs.flatMap Bk.is).length ≤ 10000
theorem parting_in_ok {s : Nat} (hs : s ≤ 6) {bs : List Bk} (h : Bks bs) : B_is_parting_in [.fz (.int (s : Int)), .fz (.tup (bs.map Bk.d))] = .ok (.fz (.bl (bs.all (Bk.blk s) && isAll s (bs.flatMap Bk.is)))) [.fz (.int (s : Int)), .fz (.tup (bs.map Bk.d))] := by
  generalize hV : D.tup (bs.map Bk.d) = V
  have c1 : bNot (toT (eCall bIsi (aCons (oSl 1) (aCons (fO (eC (.ty "tuple"))) aNil)))) [.fz (.int (s : Int)), .fz V, .un, .un] = .ok false [.fz (.int (s : Int)), .fz V, .un, .un] := by rw [← hV]; rfl
  have lc := eLc_mapg (mi := mIter (fO (eRd 1))) (vs := [2]) (f := gNm 2) (t := mYes) (e := fO (eCallN 2 F_is_block (aCons (fO (eRd 0)) (aCons (fO (eRd 2)) aNil)))) (γ0 := [.fz (.int (s : Int)), .fz V, .un, .un]) (γ1 := [.fz (.int (s : Int)), .fz V, .un, .un]) (γ := [.fz (.int (s : Int)), .fz V, .un, .un])
    Bk.d (fun b => [.fz (.int (s : Int)), .fz V, .fz b.d, .un]) (fun _ => true) (fun b => D.bl (b.blk s)) bs
    (by rw [← hV]; rfl) rfl (fun _ _ => rfl) (fun _ _ => rfl) (fun b hb _ => fo_fz (callN_2 (F := F_is_block) (d1 := .int (s : Int)) (d2 := b.d) rfl rfl (blk_ok s b (h.ok b hb)))) (fun _ _ => rfl) (by have := h.len; omega)
  rw [filter_yes] at lc
  have al := all_ok lc
  refine fnB_rt (γ := [.fz (.int (s : Int)), .fz V, .un, .un]) ?_
  unfold s_is_parting_in
  show sSeq _ _ [.fz (.int (s : Int)), .fz V, .un, .un] = _
  cases ha : bs.all (Bk.blk s) with
  | false =>
    rw [ha] at al
    rw [Bool.false_and]
    exact seq_rt ((if_t (or_f c1 (not_v (tT_v al)))).trans (seq_rt (ret_ok rfl)))
  | true =>
    rw [ha] at al
    rw [Bool.true_and]
    have n1 := if_f (a := sSeq (sRet (eC (.bl false))) sNx) (b := sNx) (or_f c1 (not_v (tT_v al)))
    have bt : ∀ b ∈ bs, b.d = .tup (b.is.map D.int) := fun b hb => blk_tup (List.all_eq_true.mp ha b hb)
    have l2 := lc2_map (vs := [2, 3]) (vs1 := [3]) (f := gNm 2) (f1 := gNm 3) (mi1 := mIter (fO (eRd 2))) (e := fO (eRd 3)) (γ := [.fz (.int (s : Int)), .fz V, .un, .un]) Bk.d (fun b => [.fz (.int (s : Int)), .fz V, .fz b.d, .un]) (fun b => [.fz (.int (s : Int)), .fz V, .fz b.d, .un]) Bk.is D.int (fun b i => [.fz (.int (s : Int)), .fz V, .fz b.d, .fz (.int i)]) D.int bs 0
      (fun _ _ => rfl) (fun b hb => by rw [bt b hb]; rfl) (fun _ _ => rfl) (fun _ _ _ _ => rfl) (fun _ _ _ _ => rfl) (fun _ _ _ _ => rfl) (fun _ _ => rfl) (by have := h.tot; omega)
    have e2 : eLc2 (mIter (fO (eRd 1))) [2, 3] (gNm 2) mYes (mIter (fO (eRd 2))) [3] (gNm 3) mYes (fO (eRd 3)) [.fz (.int (s : Int)), .fz V, .un, .un] = .ok (.own (.lst (intD (bs.flatMap Bk.is)))) [.fz (.int (s : Int)), .fz V, .un, .un] := by
      unfold eLc2
      rw [show mIter (fO (eRd 1)) [.fz (.int (s : Int)), .fz V, .un, .un] = .ok (bs.map Bk.d) [.fz (.int (s : Int)), .fz V, .un, .un] by rw [← hV]; rfl]
      simp only [Out.bind]
      rw [show unO [2, 3] [.fz (.int (s : Int)), .fz V, .un, .un] = some [.fz (.int (s : Int)), .fz V, .un, .un] from rfl]
      simp only
      rw [l2, ← intD_map]
    have fin := sort_end (m := eLc2 (mIter (fO (eRd 1))) [2, 3] (gNm 2) mYes (mIter (fO (eRd 2))) [3] (gNm 3) mYes (fO (eRd 3))) hs (fo_own e2) (γ := [.fz (.int (s : Int)), .fz V, .un, .un]) rfl
    exact (seq_nx (n1.trans rfl)).trans (seq_rt (ret_ok fin))
theorem not_tup (s : Nat) (v : D) (k : Kd) (hk : kdOf v = some k) (ht : k ≠ .tup) : B_is_parting_in [.fz (.int (s : Int)), .fz v] = .ok (.fz (.bl false)) [.fz (.int (s : Int)), .fz v] ∧ B_law_is_parting [.fz (.int (s : Int)), .fz v] = .ok (.fz (.bl false)) [.fz (.int (s : Int)), .fz v] := by
  have hb : bIsi [v, .ty "tuple"] = some (.val (.bl false)) := by
    show (match kdOf v with
      | some k => (match isK k "tuple" with
        | some b => some (BR.val (.bl b))
        | none => none)
      | none => none) = _
    rw [hk]
    cases k <;> first | exact absurd rfl ht | rfl
  constructor
  · refine fnB_rt (γ := [.fz (.int (s : Int)), .fz v, .un, .un]) ?_
    have c : bNot (toT (eCall bIsi (aCons (oSl 1) (aCons (fO (eC (.ty "tuple"))) aNil)))) [.fz (.int (s : Int)), .fz v, .un, .un] = .ok true [.fz (.int (s : Int)), .fz v, .un, .un] := not_v (b := false) (tT_v (by
      unfold eCall
      rw [args2 (m := oSl 1) (m2 := fO (eC (.ty "tuple"))) (a := .sl 1) (b := .d (.ty "tuple")) rfl rfl]
      simp only [Out.bind, looks2 (γ := [.fz (.int (s : Int)), .fz v, .un, .un]) (a := .sl 1) (b := .d (.ty "tuple")) (d := v) (e := .ty "tuple") rfl rfl, hb]
      rfl))
    unfold s_is_parting_in
    exact seq_rt ((if_t (or_t c)).trans (seq_rt (ret_ok rfl)))
  · refine fnB_rt (γ := [.fz (.int (s : Int)), .fz v, .un, .un, .un, .un]) ?_
    have c : bNot (toT (eCall bIsi (aCons (oSl 1) (aCons (fO (eC (.ty "tuple"))) aNil)))) [.fz (.int (s : Int)), .fz v, .un, .un, .un, .un] = .ok true [.fz (.int (s : Int)), .fz v, .un, .un, .un, .un] := not_v (b := false) (tT_v (by
      unfold eCall
      rw [args2 (m := oSl 1) (m2 := fO (eC (.ty "tuple"))) (a := .sl 1) (b := .d (.ty "tuple")) rfl rfl]
      simp only [Out.bind, looks2 (γ := [.fz (.int (s : Int)), .fz v, .un, .un, .un, .un]) (a := .sl 1) (b := .d (.ty "tuple")) (d := v) (e := .ty "tuple") rfl rfl, hb]
      rfl))
    unfold s_law_is_parting
    exact seq_rt ((if_t c).trans (seq_rt (ret_ok rfl)))
end T

-- text X4
set_option Elab.async false
set_option linter.all false
set_option maxRecDepth 100000
set_option maxHeartbeats 4000000
namespace T
open PySem L2
abbrev jBody : Gam → OutS := (sSeq (sIf (bOr (bNot (toT (eCall bIsi (aCons (oSl 3) (aCons (fO (eC (.ty "tuple"))) aNil))))) (toT (eOp (fEqD false) (oSl 3) (fO (eTup aNil))))) (sSeq (sRet (eC (.bl false))) sNx) sNx) (sSeq (sIf (toT (eOp (fEqD true) (fO (eLc (mIter (fO (eRd 3))) [4] (gNm 4) (bOr (bNot (toT (eCall bIsi (aCons (oSl 4) (aCons (fO (eC (.ty "int"))) aNil))))) (toT (eCall bIsi (aCons (oSl 4) (aCons (fO (eC (.ty "bool"))) aNil))))) (fO (eC (.int 1))))) (fO (eLst aNil)))) (sSeq (sRet (eC (.bl false))) sNx) sNx) (sSeq (sIf (toT (eOp (fEqD true) (fO (eLc (mZip (aCons (fO (eRd 3)) (aCons (fO (eSl (oSl 3) (pSome (fO (eC (.int 1)))) pNone)) aNil))) [4, 5] (gTp 2 (gsCons (gNm 4) (gsCons (gNm 5) gsNil))) (toT (eOp fGe (oSl 4) (oSl 5))) (fO (eC (.int 1))))) (fO (eLst aNil)))) (sSeq (sRet (eC (.bl false))) sNx) sNx) (sSeq (sExpr (eMeth 2 fExtA (aCons (fO (eRd 3)) aNil))) sNx))))
theorem if_tgT {c : Gam → Out Bool} {a b : Gam → OutS} {γ γ1 : Gam} (h : c γ = .ok true γ1) : sIf c a b γ = a γ1 := by unfold sIf; rw [h]; rfl
theorem fGe_z (i j : Int) : fGe (.int i) (.int j) = some (.val (.bl (decide (j ≤ i)))) := rfl
theorem ones_eq {α : Type} (p : α → Bool) (xs : List α) : fEqD true (.lst ((xs.filter p).map fun _ => D.int 1)) (.lst []) = some (.val (.bl (xs.any p))) := by
  have e : ((xs.filter p).map fun _ => D.int 1) = intD ((xs.filter p).map fun _ => (1 : Int)) := by rw [intD_map, List.map_map]; rfl
  rw [e, show ([] : List D) = intD [] from rfl]
  have := fEq_lst true ((xs.filter p).map fun _ => (1 : Int)) []
  refine Eq.trans this ?_
  congr 3
  simp only [if_true]
  cases h : xs.any p with
  | true =>
    obtain ⟨x, hx, hp⟩ := List.any_eq_true.mp h
    have : x ∈ xs.filter p := List.mem_filter.mpr ⟨hx, hp⟩
    have n : ¬ ((xs.filter p).map fun _ => (1 : Int)) = [] := fun z => by
      rw [List.map_eq_nil_iff] at z
      rw [z] at this
      cases this
    simp [n]
  | false =>
    have : xs.filter p = [] := List.filter_eq_nil_iff.mpr fun x hx hp => by
      have := List.any_eq_false.mp h x hx
      exact this hp
    rw [this]
    rfl
theorem nint_ok (a : At) (X0 X1 X2 X3 X5 : Sl) : bOr (bNot (toT (eCall bIsi (aCons (oSl 4) (aCons (fO (eC (.ty "int"))) aNil))))) (toT (eCall bIsi (aCons (oSl 4) (aCons (fO (eC (.ty "bool"))) aNil)))) [X0, X1, X2, X3, .fz a.d, X5] = .ok (!a.int) [X0, X1, X2, X3, .fz a.d, X5] := by
  cases a with
  | i n => rfl
  | b t => cases t <;> rfl
  | s x => rfl
theorem asc_any (l : List Int) : (l.zip l.tail).any (fun p => decide (p.2 ≤ p.1)) = !asc l := by
  unfold asc
  rw [List.all_eq_not_any_not, Bool.not_not]
  congr 1
  funext p
  by_cases h : p.1 < p.2
  · have : ¬ p.2 ≤ p.1 := by omega
    simp [h, this]
  · have : p.2 ≤ p.1 := by omega
    simp [h, this]
theorem any_int (as : List At) : as.any (fun a => !a.int) = !(as.all At.int) := by
  rw [List.all_eq_not_any_not, Bool.not_not]
/-- a block by the law's judge -/
theorem j_block (b : Bk) (h : b.ok = true) (A B : Sl) (flat : List Int) (hf : flat.length + b.is.length ≤ 100000) (S4 S5 : Sl) (h4 : S4.isIo = false) (h5 : S5.isIo = false) :
    (∃ γ, b.good = none ∧ jBody [A, B, .own (.lst (intD flat)), .fz b.d, S4, S5] = .rt (.fz (.bl false)) γ) ∨
    (b.good = some b.is ∧ ∃ S4' S5', S4'.isIo = false ∧ S5'.isIo = false ∧ jBody [A, B, .own (.lst (intD flat)), .fz b.d, S4, S5] = .nx [A, B, .own (.lst (intD (flat ++ b.is))), .fz b.d, S4', S5']) := by
  cases b with
  | lst is => exact .inl ⟨_, rfl, rfl⟩
  | non => exact .inl ⟨_, rfl, rfl⟩
  | int i => exact .inl ⟨_, rfl, rfl⟩
  | tup as =>
    obtain ⟨h1, h2⟩ := Bool.and_eq_true_iff.mp h
    have h2 : as.length ≤ 1000 := of_decide_eq_true h2
    generalize hV : D.tup (as.map At.d) = V
    have eV : (Bk.tup as).d = V := hV
    rw [eV]
    have c1 : bNot (toT (eCall bIsi (aCons (oSl 3) (aCons (fO (eC (.ty "tuple"))) aNil)))) [A, B, .own (.lst (intD flat)), .fz V, S4, S5] = .ok false [A, B, .own (.lst (intD flat)), .fz V, S4, S5] := by rw [← hV]; rfl
    have c2 := tT_v (op_v (f := fEqD false) (ma := oSl 3) (mb := fO (eTup aNil)) (γ := [A, B, .own (.lst (intD flat)), .fz V, S4, S5]) (a := .sl 3) (b := .d (.tup [])) rfl rfl rfl rfl (by rw [← hV]; exact eq_nil as h1))
    have gd : (Bk.tup as).good = if !as.isEmpty && (as.all At.int && asc (as.map At.n)) then some (as.map At.n) else none := rfl
    cases he : as.isEmpty with
    | true =>
      rw [he] at c2
      rw [gd, he]
      exact .inl ⟨_, rfl, seq_rt ((if_t (or_f c1 c2)).trans (seq_rt (ret_ok rfl)))⟩
    | false =>
      rw [he] at c2
      have n1 := if_f (a := sSeq (sRet (eC (.bl false))) sNx) (b := sNx) (or_f c1 c2)
      have u4 : unO [4] [A, B, .own (.lst (intD flat)), .fz V, S4, S5] = some [A, B, .own (.lst (intD flat)), .fz V, .un, S5] := by
        show (match S4.isIo with | true => none | false => some _) = _
        rw [h4]
        rfl
      have lc := eLc_mapg (mi := mIter (fO (eRd 3))) (vs := [4]) (f := gNm 4) (t := bOr (bNot (toT (eCall bIsi (aCons (oSl 4) (aCons (fO (eC (.ty "int"))) aNil))))) (toT (eCall bIsi (aCons (oSl 4) (aCons (fO (eC (.ty "bool"))) aNil))))) (e := fO (eC (.int 1))) (γ0 := [A, B, .own (.lst (intD flat)), .fz V, S4, S5]) (γ1 := [A, B, .own (.lst (intD flat)), .fz V, S4, S5]) (γ := [A, B, .own (.lst (intD flat)), .fz V, .un, S5])
        At.d (fun a => [A, B, .own (.lst (intD flat)), .fz V, .fz a.d, S5]) (fun a => !a.int) (fun _ => D.int 1) as
        (by rw [← hV]; rfl) u4 (fun _ _ => rfl) (fun a _ => nint_ok a _ _ _ _ _) (fun _ _ _ => rfl) (fun _ _ => rfl) (by omega)
      have d2 := tT_g (op_g (f := fEqD true) (a := .d _) (b := .d (.lst [])) (fo_og lc) (fo_og (m := eLst aNil) rfl) rfl rfl (by rw [ones_eq]; rfl))
      rw [any_int] at d2
      cases hi : as.all At.int with
      | false =>
        rw [hi] at d2
        rw [gd, hi, Bool.false_and, Bool.and_false]
        exact .inl ⟨_, rfl, (seq_nx (n1.trans rfl)).trans (seq_rt ((if_tgT d2).trans (seq_rt (ret_ok rfl))))⟩
      | true =>
        rw [hi] at d2
        have n2 := if_tg (a := sSeq (sRet (eC (.bl false))) sNx) (b := sNx) d2
        have em := map_i as hi
        have hlen : (as.map At.n).length = as.length := List.length_map _
        have eis : (Bk.tup as).is = as.map At.n := rfl
        rw [gd, hi, he, eis]
        rw [eis] at hf
        generalize as.map At.n = is at em hlen hf ⊢
        have e1 : eSl (oSl 3) (pSome (fO (eC (.int 1)))) pNone [A, B, .own (.lst (intD flat)), .fz V, .un, S5] = .ok (.fz (.tup (is.tail.map D.int))) [A, B, .own (.lst (intD flat)), .fz V, .un, S5] := by
          rw [← hV, em]
          cases is with
          | nil => rfl
          | cons t Q =>
            have := sl_lo (m := oSl 3) (mh := fO (eC (.int 1))) (γ := [A, B, .own (.lst (intD flat)), .fz (.tup ((t :: Q).map D.int)), .un, S5]) (a := .sl 3) (b := .d (.int 1)) (ds := (t :: Q).map D.int) (k := 1) (i := 1) rfl rfl rfl rfl rfl (by simp)
            exact this
        have mz : mZip (aCons (fO (eRd 3)) (aCons (fO (eSl (oSl 3) (pSome (fO (eC (.int 1)))) pNone)) aNil)) [A, B, .own (.lst (intD flat)), .fz V, .un, S5] = .ok ((is.zip is.tail).map fun p => D.tup [D.int p.1, D.int p.2]) [A, B, .own (.lst (intD flat)), .fz V, .un, S5] := by
          unfold mZip
          rw [args2 (m := fO (eRd 3)) (a := .d V) rfl (fo_fz e1)]
          rw [← hV, em]
          show Out.ok (zipD (is.map D.int) (is.tail.map D.int)) _ = _
          rw [zipD_map]
        have u5 : unO [4, 5] [A, B, .own (.lst (intD flat)), .fz V, .un, S5] = some [A, B, .own (.lst (intD flat)), .fz V, .un, .un] := by
          unfold unO unO unO
          show (match (match S5.isIo with | true => none | false => some _) with | some γ1 => stG 4 .un γ1 | none => none) = _
          rw [h5]
          rfl
        have lz := eLc_mapg (mi := mZip (aCons (fO (eRd 3)) (aCons (fO (eSl (oSl 3) (pSome (fO (eC (.int 1)))) pNone)) aNil))) (vs := [4, 5]) (f := gTp 2 (gsCons (gNm 4) (gsCons (gNm 5) gsNil))) (t := toT (eOp fGe (oSl 4) (oSl 5))) (e := fO (eC (.int 1))) (γ0 := [A, B, .own (.lst (intD flat)), .fz V, .un, S5]) (γ1 := [A, B, .own (.lst (intD flat)), .fz V, .un, S5]) (γ := [A, B, .own (.lst (intD flat)), .fz V, .un, .un])
          (fun p : Int × Int => D.tup [D.int p.1, D.int p.2]) (fun p => [A, B, .own (.lst (intD flat)), .fz V, .fz (.int p.1), .fz (.int p.2)]) (fun p => decide (p.2 ≤ p.1)) (fun _ => D.int 1) (is.zip is.tail)
          mz u5 (fun _ _ => rfl) (fun p _ => tT_v (op_v (a := .sl 4) (b := .sl 5) rfl rfl rfl rfl (fGe_z p.1 p.2))) (fun _ _ _ => rfl) (fun _ _ => rfl) (by rw [List.length_zip]; omega)
        have d3 := tT_g (op_g (f := fEqD true) (a := .d _) (b := .d (.lst [])) (fo_og lz) (fo_og (m := eLst aNil) rfl) rfl rfl (by rw [ones_eq]; rfl))
        rw [asc_any] at d3
        cases hac : asc is with
        | false =>
          rw [hac] at d3
          exact .inl ⟨_, rfl, (seq_nx (n1.trans rfl)).trans ((seq_nx (n2.trans rfl)).trans (seq_rt ((if_tgT d3).trans (seq_rt (ret_ok rfl)))))⟩
        | true =>
          rw [hac] at d3
          have n3 := if_tg (a := sSeq (sRet (eC (.bl false))) sNx) (b := sNx) d3
          have ext : eMeth 2 fExtA (aCons (fO (eRd 3)) aNil) [A, B, .own (.lst (intD flat)), .fz V, .un, .un] = .ok (.fz .non) [A, B, .own (.lst (intD (flat ++ is))), .fz V, .un, .un] := by
            rw [← hV, em]
            have ff : fitN ((intD flat).length + (is.map D.int).length) = true := fitN_of (by rw [intD_len, List.length_map]; omega)
            show (match fExtA [.tup (is.map D.int)] (intD flat) with
              | some (d, es) => Out.ok (R.fz d) [A, B, .own (.lst es), .fz (.tup (is.map D.int)), .un, .un]
              | none => .bad) = _
            unfold fExtA
            simp only [ff]
            rw [intD_app, intD_map is]
          exact .inr ⟨rfl, .un, .un, rfl, rfl, (seq_nx (n1.trans rfl)).trans ((seq_nx (n2.trans rfl)).trans ((seq_nx (n3.trans rfl)).trans ((seq_nx (ex_ok ext)).trans rfl)))⟩
end T

-- text X5
set_option Elab.async false
set_option linter.all false
set_option maxRecDepth 100000
set_option maxHeartbeats 4000000
namespace T
open PySem L2
def goods (bs : List Bk) : Bool := bs.all fun b => b.good.isSome
theorem j_loop {A B : Sl} : ∀ (bs : List Bk) (flat : List Int) (S3 S4 S5 : Sl), S3.isIo = false → S4.isIo = false → S5.isIo = false → (∀ b ∈ bs, b.ok = true) → flat.length + (bs.flatMap Bk.is).length ≤ 100000 →
    (∃ γ, goods bs = false ∧ loopS (gNm 3) jBody (bs.map Bk.d) [A, B, .own (.lst (intD flat)), S3, S4, S5] = .rt (.fz (.bl false)) γ) ∨
    (goods bs = true ∧ ∃ S3' S4' S5', loopS (gNm 3) jBody (bs.map Bk.d) [A, B, .own (.lst (intD flat)), S3, S4, S5] = .nx [A, B, .own (.lst (intD (flat ++ bs.flatMap Bk.is))), S3', S4', S5'])
  | [], flat, S3, S4, S5, _, _, _, _, _ => .inr ⟨rfl, S3, S4, S5, by rw [List.flatMap_nil, List.append_nil]; rfl⟩
  | b :: bs, flat, S3, S4, S5, h3, h4, h5, hok, hl => by
    have hl2 : ((b :: bs).flatMap Bk.is).length = b.is.length + (bs.flatMap Bk.is).length := by rw [List.flatMap_cons, List.length_append]
    have g3 : gNm 3 b.d [A, B, .own (.lst (intD flat)), S3, S4, S5] = some [A, B, .own (.lst (intD flat)), .fz b.d, S4, S5] := by
      show (match S3.isIo with | true => none | false => some _) = _
      rw [h3]
      rfl
    rw [List.map_cons]
    unfold loopS
    rw [g3]
    rcases j_block b (hok b List.mem_cons_self) A B flat (by omega) S4 S5 h4 h5 with ⟨γ, e1, e2⟩ | ⟨e1, S4', S5', h4', h5', e2⟩
    · refine .inl ⟨γ, ?_, ?_⟩
      · unfold goods
        rw [List.all_cons, e1]
        rfl
      · simp only [e2]
    · rcases j_loop (A := A) (B := B) bs (flat ++ b.is) (.fz b.d) S4' S5' rfl h4' h5' (fun x hx => hok x (List.mem_cons_of_mem _ hx)) (by rw [List.length_append]; omega) with ⟨γ, f1, f2⟩ | ⟨f1, S3'', S4'', S5'', f2⟩
      · refine .inl ⟨γ, ?_, ?_⟩
        · unfold goods at f1 ⊢
          rw [List.all_cons, e1, f1]
          rfl
        · simp only [e2, f2]
      · refine .inr ⟨?_, S3'', S4'', S5'', ?_⟩
        · unfold goods at f1 ⊢
          rw [List.all_cons, e1, f1]
          rfl
        · simp only [e2, f2, List.flatMap_cons, List.append_assoc]
theorem sort_end2 {m : Gam → Out Ar} {a : Ar} {γ : Gam} {s : Nat} {l : List Int} (hs : s ≤ 6) (h : m γ = .ok a γ) (hl : look γ a = some (.lst (intD l))) (h0 : look γ (.sl 0) = some (.int (s : Int))) :
    eOp (fEqD false) (fO (eCall bSortA (aCons m aNil))) (fO (eLstRg2 (fO (eC (.int 1))) (fO (eOp fAdd (oSl 0) (fO (eC (.int 1))))))) γ = .ok (.fz (.bl (isAll s l))) γ := by
  have h1 := sort_end (m := eC (.lst (intD l))) (l := l) hs (fo_fz (m := eC (.lst (intD l))) rfl) h0
  have e : eCall bSortA (aCons m aNil) γ = eCall bSortA (aCons (fO (eC (.lst (intD l)))) aNil) γ := by
    have e1 : eCall bSortA (aCons (fO (eC (.lst (intD l)))) aNil) γ = ofB (bSortA [.lst (intD l)]) γ := call_1 (fo_fz (m := eC (.lst (intD l))) rfl) rfl rfl
    rw [e1]
    exact call_1 h hl rfl
  have e2 : fO (eCall bSortA (aCons m aNil)) γ = fO (eCall bSortA (aCons (fO (eC (.lst (intD l)))) aNil)) γ := by unfold fO; rw [e]; rfl
  unfold eOp at h1 ⊢
  rw [e2]
  exact h1
theorem law_parting_ok {s : Nat} (hs : s ≤ 6) {bs : List Bk} (h : Bks bs) : B_law_is_parting [.fz (.int (s : Int)), .fz (.tup (bs.map Bk.d))] = .ok (.fz (.bl (goods bs && isAll s (bs.flatMap Bk.is)))) [.fz (.int (s : Int)), .fz (.tup (bs.map Bk.d))] := by
  generalize hV : D.tup (bs.map Bk.d) = V
  have c1 : bNot (toT (eCall bIsi (aCons (oSl 1) (aCons (fO (eC (.ty "tuple"))) aNil)))) [.fz (.int (s : Int)), .fz V, .un, .un, .un, .un] = .ok false [.fz (.int (s : Int)), .fz V, .un, .un, .un, .un] := by rw [← hV]; rfl
  have n1 := if_f (a := sSeq (sRet (eC (.bl false))) sNx) (b := sNx) c1
  have g2 := set_g (i := 2) (γ2 := [.fz (.int (s : Int)), .fz V, .own (.lst (intD [])), .un, .un, .un]) (m := eLst aNil) (γ := [.fz (.int (s : Int)), .fz V, .un, .un, .un, .un]) rfl rfl
  have it : mIter (fO (eRd 1)) [.fz (.int (s : Int)), .fz V, .own (.lst (intD [])), .un, .un, .un] = .ok (bs.map Bk.d) [.fz (.int (s : Int)), .fz V, .own (.lst (intD [])), .un, .un, .un] := by rw [← hV]; rfl
  rcases j_loop (A := .fz (.int (s : Int))) (B := .fz V) bs [] .un .un .un rfl rfl rfl h.ok (by have := h.tot; simp only [List.length_nil]; omega) with ⟨γ, f1, f2⟩ | ⟨f1, S3, S4, S5, f2⟩
  · have fo : sFor (mIter (fO (eRd 1))) (gNm 3) jBody [.fz (.int (s : Int)), .fz V, .own (.lst (intD [])), .un, .un, .un] = .rt (.fz (.bl false)) γ := by
      unfold sFor
      rw [it]
      exact f2
    have e : fnB 4 s_law_is_parting [.fz (.int (s : Int)), .fz V] = .ok (.fz (.bl false)) (ioOut [.fz (.int (s : Int)), .fz V] γ) := by
      refine fnB_rt ?_
      unfold s_law_is_parting
      exact (seq_nx (n1.trans rfl)).trans ((seq_nx g2).trans (seq_rt fo))
    have io : ioOut [.fz (.int (s : Int)), .fz V] γ = [.fz (.int (s : Int)), .fz V] := by
      cases γ with
      | nil => rfl
      | cons a γ => cases γ with
        | nil => rfl
        | cons b γ => rfl
    rw [io] at e
    rw [f1, Bool.false_and]
    exact e
  · rw [List.nil_append] at f2
    have fo : sFor (mIter (fO (eRd 1))) (gNm 3) jBody [.fz (.int (s : Int)), .fz V, .own (.lst (intD [])), .un, .un, .un] = .nx [.fz (.int (s : Int)), .fz V, .own (.lst (intD (bs.flatMap Bk.is))), S3, S4, S5] := by
      unfold sFor
      rw [it]
      exact f2
    have fin := sort_end2 (m := oSl 2) (a := .sl 2) (γ := [.fz (.int (s : Int)), .fz V, .own (.lst (intD (bs.flatMap Bk.is))), S3, S4, S5]) (l := bs.flatMap Bk.is) hs rfl rfl rfl
    rw [f1, Bool.true_and]
    refine fnB_rt (γ := [.fz (.int (s : Int)), .fz V, .own (.lst (intD (bs.flatMap Bk.is))), S3, S4, S5]) ?_
    unfold s_law_is_parting
    exact (seq_nx (n1.trans rfl)).trans ((seq_nx g2).trans ((seq_nx fo).trans (seq_rt (ret_ok fin))))
theorem both {s : Nat} {bs : List Bk} : (bs.all (Bk.blk s) && isAll s (bs.flatMap Bk.is)) = (goods bs && isAll s (bs.flatMap Bk.is)) := by
  cases hA : isAll s (bs.flatMap Bk.is) with
  | false => rw [Bool.and_false, Bool.and_false]
  | true =>
    have hin := isAll_in hA
    rw [Bool.and_true, Bool.and_true]
    have one : ∀ b ∈ bs, b.blk s = b.good.isSome := fun b hb => by
      cases b with
      | lst is => rfl
      | non => rfl
      | int i => rfl
      | tup as =>
        have hx : ∀ a ∈ as, 1 ≤ a.n ∧ a.n ≤ (s : Int) := fun a ha => hin a.n (List.mem_flatMap.mpr ⟨_, hb, List.mem_map_of_mem ha⟩)
        have w : as.all (At.wi s) = as.all At.int := by
          cases hi : as.all At.int with
          | true =>
            refine List.all_eq_true.mpr fun a ha => ?_
            have h1 := List.all_eq_true.mp hi a ha
            have h2 := hx a ha
            cases a with
            | i n =>
              have h2 : 1 ≤ n ∧ n ≤ (s : Int) := h2
              show (decide (1 ≤ n) && decide (n ≤ (s : Int))) = true
              rw [decide_eq_true h2.1, decide_eq_true h2.2]
              rfl
            | b t => cases h1
            | s x => cases h1
          | false =>
            cases hw : as.all (At.wi s) with
            | false => rfl
            | true => rw [wi_int hw] at hi; cases hi
        show (!as.isEmpty && (as.all (At.wi s) && asc (as.map At.n))) = (if !as.isEmpty && (as.all At.int && asc (as.map At.n)) then some (as.map At.n) else none).isSome
        rw [w]
        cases !as.isEmpty && (as.all At.int && asc (as.map At.n)) <;> rfl
    unfold goods
    have : ∀ l : List Bk, (∀ b ∈ l, b ∈ bs) → l.all (Bk.blk s) = l.all fun b => b.good.isSome := fun l => by
      induction l with
      | nil => exact fun _ => rfl
      | cons b l ih =>
        intro hl
        rw [List.all_cons, List.all_cons, one b (hl b List.mem_cons_self), ih fun x hx => hl x (List.mem_cons_of_mem _ hx)]
    exact this bs fun _ h => h
/-- both judges tell the same of a value -/
def Judged (s : Nat) (v : D) : Prop := ∃ b, B_is_parting [.fz (.int (s : Int)), .fz v] = .ok (.fz (.bl b)) [.fz (.int (s : Int)), .fz v] ∧ B_law_is_parting [.fz (.int (s : Int)), .fz v] = .ok (.fz (.bl b)) [.fz (.int (s : Int)), .fz v]
theorem is_parting_of {s : Nat} (h1 : 1 ≤ s) (hs : s ≤ 6) {v : D} {b : Bool} (h : B_is_parting_in [.fz (.int (s : Int)), .fz v] = .ok (.fz (.bl b)) [.fz (.int (s : Int)), .fz v]) : B_is_parting [.fz (.int (s : Int)), .fz v] = .ok (.fz (.bl b)) [.fz (.int (s : Int)), .fz v] := by
  have rp : B_require_parted [.fz (.int (s : Int))] = .ok (.fz .non) [.fz (.int (s : Int))] := by
    have w := within_int (s : Int) 1 6
    rw [decide_eq_true (show (1 : Int) ≤ (s : Int) by omega), decide_eq_true (show (s : Int) ≤ 6 by omega)] at w
    have c := if_f (a := sSeq sBad sNx) (b := sNx) (not_v (tT_v (callN_3 (F := F_is_within) (m1 := fO (eRd 0)) (m2 := fO (eC (.int 1))) (m3 := fO (eC (.int 6))) (γ := [.fz (.int (s : Int))]) rfl rfl rfl w)))
    refine fnB_nx (γ := [.fz (.int (s : Int))]) ?_
    unfold s_require_parted
    exact (seq_nx (c.trans rfl)).trans rfl
  refine fnB_rt (γ := [.fz (.int (s : Int)), .fz v]) ?_
  unfold s_is_parting
  exact (seq_nx (ex_ok (callN_1 (F := F_require_parted) rfl rp))).trans (seq_rt (ret_ok (callN_2 (F := F_is_parting_in) rfl rfl h)))
theorem judged_tup {s : Nat} (h1 : 1 ≤ s) (hs : s ≤ 6) {bs : List Bk} (h : Bks bs) : Judged s (.tup (bs.map Bk.d)) := by
  have a := parting_in_ok hs h
  have b := law_parting_ok hs h
  rw [both] at a
  exact ⟨_, is_parting_of h1 hs a, b⟩
theorem judged_not {s : Nat} (h1 : 1 ≤ s) (hs : s ≤ 6) {v : D} {k : Kd} (hk : kdOf v = some k) (ht : k ≠ .tup) : Judged s v := by
  obtain ⟨a, b⟩ := not_tup s v k hk ht
  exact ⟨_, is_parting_of h1 hs a, b⟩
end T

-- text X6
set_option Elab.async false
set_option linter.all false
set_option maxRecDepth 100000
set_option maxHeartbeats 4000000
namespace T
open PySem L2
theorem look_fz {γ : Gam} {i : Nat} {d : D} (h : γ[i]? = some (.fz d)) : look γ (.sl i) = some d := by
  show (match γ[i]? with
    | some s => slD s
    | none => none) = _
  rw [h]
  rfl
theorem add_g {ma mb : Gam → Out Ar} {a b : Ar} {as bs : List D} {γ : Gam} (h1 : ma γ = .ok a γ) (h2 : mb γ = .ok b γ) (l1 : look γ a = some (.tup as)) (l2 : look γ b = some (.tup bs)) (h : as.length + bs.length ≤ 100000) : fO (eOp fAdd ma mb) γ = .ok (.d (.tup (as ++ bs))) γ := fo_fz (op_o h1 h2 l1 l2 (add_out h))
theorem rev_g {i : Nat} {ds : List D} {γ : Gam} (h : γ[i]? = some (.fz (.tup ds))) : fO (eRev (oSl i)) γ = .ok (.d (.tup ds.reverse)) γ := by
  have h1 : oSl i γ = .ok (.sl i) γ := by unfold oSl; rw [h]
  have h2 : look γ (.sl i) = some (.tup ds) := look_fz h
  unfold eRev
  simp only [fO, h1, Out.bind, h2]
theorem lst_g {i : Nat} {ds : List D} {γ : Gam} (h : γ[i]? = some (.fz (.tup ds))) : fO (eCall bList (aCons (oSl i) aNil)) γ = .ok (.d (.lst ds)) γ := by
  have h1 : oSl i γ = .ok (.sl i) γ := by unfold oSl; rw [h]
  have h2 : look γ (.sl i) = some (.tup ds) := look_fz h
  exact fo_own (call_1 h1 h2 rfl)
theorem sl_g (i : Nat) {ds : List D} {γ : Gam} (h : γ[i]? = some (.fz (.tup ds))) (hl : 1 ≤ ds.length) : fO (eSl (oSl i) (pSome (fO (eC (.int 1)))) pNone) γ = .ok (.d (.tup (ds.drop 1))) γ := by
  have h1 : oSl i γ = .ok (.sl i) γ := by unfold oSl; rw [h]
  have h2 : look γ (.sl i) = some (.tup ds) := look_fz h
  exact fo_fz (sl_lo (b := .d (.int 1)) (i := 1) (k := 1) h1 h2 rfl rfl rfl hl)
abbrev qD (q : List (List Int)) : List D := q.map fun b => .tup (intD b)
abbrev pD (q : List (List Int)) : D := .tup (qD q)
/-- ordered partings, with room -/
structure Pq (s : Nat) (q : List (List Int)) : Prop where
  n0 : 1 ≤ q.length
  n1 : q.length ≤ 6
  b0 : ∀ b ∈ q, 1 ≤ b.length
  b1 : ∀ b ∈ q, b.length ≤ 6
  e : ∀ b ∈ q, ∀ x ∈ b, 1 ≤ x ∧ x ≤ 6
def first9 (q : List (List Int)) : List D := [pD q, .lst (qD q), .tup (qD q).reverse, .tup ((qD q).drop 1), .tup (qD q ++ [.tup []]), .tup (qD q ++ [.tup (intD (q.getD 0 []))]), .non, .tup [], .int 0]
theorem q_get {q : List (List Int)} {k : Nat} (h : k < q.length) : (qD q)[k]? = some (.tup (intD (q.getD k []))) := by
  rw [List.getElem?_map, List.getElem?_eq_getElem h, List.getD_eq_getElem?_getD, List.getElem?_eq_getElem h]
  rfl
theorem near_1 {s : Nat} {q : List (List Int)} (h : Pq s q) (d : D) :
    sSet 3 (eLst (aCons (fO (eRd 2)) (aCons (fO (eCall bList (aCons (oSl 2) aNil))) (aCons (fO (eRev (oSl 2))) (aCons (fO (eSl (oSl 2) (pSome (fO (eC (.int 1)))) pNone)) (aCons (fO (eOp fAdd (oSl 2) (fO (eTup (aCons (fO (eTup aNil)) aNil))))) (aCons (fO (eOp fAdd (oSl 2) (fO (eTup (aCons (fO (eOp fIxD (oSl 2) (fO (eC (.int 0))))) aNil))))) (aCons (fO (eC .non)) (aCons (fO (eTup aNil)) (aCons (fO (eC (.int 0))) aNil)))))))))) [.io d, .fz (.int (s : Int)), .fz (pD q), .un, .un, .un, .un, .un]
      = .nx [.io d, .fz (.int (s : Int)), .fz (pD q), .own (.lst (first9 q)), .un, .un, .un, .un] := by
  have hl : (qD q).length = q.length := List.length_map _
  have n0 := h.n0
  have n1 := h.n1
  generalize hγ : ([.io d, .fz (.int (s : Int)), .fz (pD q), .un, .un, .un, .un, .un] : Gam) = γ
  have g2 : γ[2]? = some (.fz (pD q)) := by rw [← hγ]; rfl
  have o2 : oSl 2 γ = .ok (.sl 2) γ := by unfold oSl; rw [g2]
  have l2 : look γ (.sl 2) = some (pD q) := look_fz g2
  have a1 : fO (eRd 2) γ = .ok (.d (pD q)) γ := by rw [← hγ]; rfl
  have a2 := lst_g g2
  have a3 := rev_g g2
  have a4 := sl_g 2 g2 (by omega)
  have a5 := add_g (γ := γ) (mb := fO (eTup (aCons (fO (eTup aNil)) aNil))) o2 (b := .d (.tup [.tup []])) rfl l2 rfl (by simp only [List.length_cons, List.length_nil]; omega)
  have i0 : fO (eOp fIxD (oSl 2) (fO (eC (.int 0)))) γ = .ok (.d (.tup (intD (q.getD 0 [])))) γ := fo_fz (op_v (a := .sl 2) (b := .d (.int 0)) o2 rfl l2 rfl (fIx_tup 0 rfl (q_get (by omega))))
  have a6 := add_g (γ := γ) o2 (fo_fz (tup1 i0)) l2 rfl (by simp only [List.length_cons, List.length_nil]; omega)
  have e : eLst (aCons (fO (eRd 2)) (aCons (fO (eCall bList (aCons (oSl 2) aNil))) (aCons (fO (eRev (oSl 2))) (aCons (fO (eSl (oSl 2) (pSome (fO (eC (.int 1)))) pNone)) (aCons (fO (eOp fAdd (oSl 2) (fO (eTup (aCons (fO (eTup aNil)) aNil))))) (aCons (fO (eOp fAdd (oSl 2) (fO (eTup (aCons (fO (eOp fIxD (oSl 2) (fO (eC (.int 0))))) aNil))))) (aCons (fO (eC .non)) (aCons (fO (eTup aNil)) (aCons (fO (eC (.int 0))) aNil))))))))) γ = .ok (.own (.lst (first9 q))) γ := by
    have a7 : fO (eC .non) γ = .ok (.d .non) γ := rfl
    have a8 : fO (eTup aNil) γ = .ok (.d (.tup [])) γ := rfl
    have a9 : fO (eC (.int 0)) γ = .ok (.d (.int 0)) γ := rfl
    have aN : aNil γ = .ok [] γ := rfl
    have ac : ∀ (m : Gam → Out Ar) (ms : Gam → Out (List Ar)) (a : Ar) (as : List Ar), m γ = .ok a γ → ms γ = .ok as γ → aCons m ms γ = .ok (a :: as) γ := fun m ms a as h1 h2 => by
      unfold aCons
      simp only [h1, Out.bind, h2]
    unfold eLst
    rw [ac _ _ _ _ a1 (ac _ _ _ _ a2 (ac _ _ _ _ a3 (ac _ _ _ _ a4 (ac _ _ _ _ a5 (ac _ _ _ _ a6 (ac _ _ _ _ a7 (ac _ _ _ _ a8 (ac _ _ _ _ a9 aN))))))))]
    rfl
  refine set_g (γ1 := γ) e ?_
  rw [← hγ]
  rfl
/-- with another block at a place -/
def putBk (q : List (List Int)) (k : Nat) (x : D) : D := .tup ((qD q).take k ++ [x] ++ (qD q).drop (k + 1))
abbrev nBody : Gam → OutS := (sSeq (sExpr (eMeth 3 fAppend (aCons (fO (eOp fAdd (fO (eOp fAdd (fO (eSl (oSl 2) pNone (pSome (oSl 4)))) (fO (eTup (aCons (fO (eRd 6)) aNil))))) (fO (eSl (oSl 2) (pSome (fO (eOp fAdd (oSl 4) (fO (eC (.int 1)))))) pNone)))) aNil))) sNx)
theorem near_body {s : Nat} {q : List (List Int)} (h : Pq s q) {k : Nat} (hk : k < q.length) (d blk x : D) (fnd : List D) (hf : fnd.length ≤ 500) (S7 : Sl) :
    nBody [.io d, .fz (.int (s : Int)), .fz (pD q), .own (.lst fnd), .fz (.int (k : Int)), .fz blk, .fz x, S7] = .nx [.io d, .fz (.int (s : Int)), .fz (pD q), .own (.lst (fnd ++ [putBk q k x])), .fz (.int (k : Int)), .fz blk, .fz x, S7] := by
  have hl : (qD q).length = q.length := List.length_map _
  have n1 := h.n1
  generalize hγ : ([.io d, .fz (.int (s : Int)), .fz (pD q), .own (.lst fnd), .fz (.int (k : Int)), .fz blk, .fz x, S7] : Gam) = γ
  have g2 : γ[2]? = some (.fz (pD q)) := by rw [← hγ]; rfl
  have o2 : oSl 2 γ = .ok (.sl 2) γ := by unfold oSl; rw [g2]
  have l2 : look γ (.sl 2) = some (pD q) := look_fz g2
  have g4 : γ[4]? = some (.fz (.int (k : Int))) := by rw [← hγ]; rfl
  have o4 : oSl 4 γ = .ok (.sl 4) γ := by unfold oSl; rw [g4]
  have l4 : look γ (.sl 4) = some (.int (k : Int)) := look_fz g4
  have e1 := fo_fz (sl_hi (i := (k : Int)) (k := k) o2 l2 o4 l4 rfl (by omega))
  have r6 : fO (eRd 6) γ = .ok (.d x) γ := by rw [← hγ]; rfl
  have e2 := add_g (γ := γ) e1 (fo_fz (tup1 r6)) rfl rfl (by simp only [List.length_take, List.length_cons, List.length_nil]; omega)
  have p4 : fO (eOp fAdd (oSl 4) (fO (eC (.int 1)))) γ = .ok (.d (.int ((k : Int) + 1))) γ := fo_fz (op_v (a := .sl 4) (b := .d (.int 1)) o4 rfl l4 rfl rfl)
  have e3 := fo_fz (sl_lo (i := (k : Int) + 1) (k := k + 1) o2 l2 p4 rfl (by omega) (by omega))
  have e4 := add_g (γ := γ) e2 e3 rfl rfl (by simp only [List.length_append, List.length_take, List.length_drop, List.length_cons, List.length_nil]; omega)
  have ap := append_ok (i := 3) (ds := fnd) (by rw [← hγ]; rfl) e4 (by rw [← hγ]; rfl) (by omega)
  rw [← hγ] at ap ⊢
  exact (seq_nx (ex_ok ap)).trans rfl
theorem near_loop {s : Nat} {q : List (List Int)} (h : Pq s q) {k : Nat} (hk : k < q.length) (d blk : D) {mi : Gam → Out (List D)} {xs fnd : List D} {S6 S7 : Sl} (h6 : S6.isIo = false)
    (hm : mi [.io d, .fz (.int (s : Int)), .fz (pD q), .own (.lst fnd), .fz (.int (k : Int)), .fz blk, S6, S7] = .ok xs [.io d, .fz (.int (s : Int)), .fz (pD q), .own (.lst fnd), .fz (.int (k : Int)), .fz blk, S6, .un]) (hf : fnd.length + xs.length ≤ 500) :
    ∃ S6', S6'.isIo = false ∧ sFor mi (gNm 6) nBody [.io d, .fz (.int (s : Int)), .fz (pD q), .own (.lst fnd), .fz (.int (k : Int)), .fz blk, S6, S7] = .nx [.io d, .fz (.int (s : Int)), .fz (pD q), .own (.lst (fnd ++ xs.map (putBk q k))), .fz (.int (k : Int)), .fz blk, S6', .un] := by
  obtain ⟨γ', e, S6', i6, rfl⟩ := for_preg (γ0 := [.io d, .fz (.int (s : Int)), .fz (pD q), .own (.lst fnd), .fz (.int (k : Int)), .fz blk, S6, S7]) (γ := [.io d, .fz (.int (s : Int)), .fz (pD q), .own (.lst fnd), .fz (.int (k : Int)), .fz blk, S6, .un]) (mi := mi) (f := gNm 6) (b := nBody) (fun x : D => x)
    (fun pre γ => ∃ S6', S6'.isIo = false ∧ γ = [.io d, .fz (.int (s : Int)), .fz (pD q), .own (.lst (fnd ++ pre.map (putBk q k))), .fz (.int (k : Int)), .fz blk, S6', .un]) xs
    (by rw [show xs.map (fun x : D => x) = xs from List.map_id _]; exact hm) ⟨S6, h6, by rw [List.map_nil, List.append_nil]⟩ (by
      rintro pre x post γ e ⟨S6', i6, rfl⟩
      refine ⟨_, _, ?_, near_body h hk d blk x (fnd ++ pre.map (putBk q k)) (by rw [e] at hf; simp at hf ⊢; omega) .un, .fz x, rfl, ?_⟩
      · show (match S6'.isIo with | true => none | false => some _) = _
        rw [i6]
        rfl
      · rw [List.map_append, List.append_assoc]
        rfl)
  exact ⟨S6', i6, e⟩
end T

-- text X7
set_option Elab.async false
set_option linter.all false
set_option maxRecDepth 100000
set_option maxHeartbeats 4000000
namespace T
open PySem L2
def mkB (b : List Int) : Bk := .tup (b.map At.i)
theorem mkB_d (b : List Int) : (mkB b).d = .tup (intD b) := by
  show D.tup ((b.map At.i).map At.d) = _
  rw [List.map_map, intD_map]
  rfl
theorem mkB_is (b : List Int) : (mkB b).is = b := by
  show (b.map At.i).map At.n = b
  rw [List.map_map]
  exact List.map_id _
structure Sm (b : Bk) : Prop where
  ok : b.ok = true
  n : b.is.length ≤ 20
theorem mkB_sm {b : List Int} (h : b.length ≤ 20) : Sm (mkB b) := by
  refine ⟨?_, by rw [mkB_is]; exact h⟩
  show ((b.map At.i).all At.ok && decide ((b.map At.i).length ≤ 1000)) = true
  have h1 : (b.map At.i).all At.ok = true := List.all_eq_true.mpr fun a ha => by
    obtain ⟨i, _, rfl⟩ := List.mem_map.mp ha
    rfl
  rw [h1, List.length_map, decide_eq_true (show b.length ≤ 1000 by omega)]
  rfl
theorem flat_le : ∀ bs : List Bk, (∀ b ∈ bs, Sm b) → (bs.flatMap Bk.is).length ≤ 20 * bs.length
  | [], _ => Nat.zero_le _
  | b :: bs, h => by
    rw [List.flatMap_cons, List.length_append, List.length_cons]
    have := flat_le bs fun x hx => h x (List.mem_cons_of_mem _ hx)
    have := (h b List.mem_cons_self).n
    omega
theorem judged_sm {s : Nat} (h1 : 1 ≤ s) (hs : s ≤ 6) {v : D} (bs : List Bk) (hl : bs.length ≤ 20) (h : ∀ b ∈ bs, Sm b) (e : v = .tup (bs.map Bk.d)) : Judged s v := by
  rw [e]
  have := flat_le bs h
  exact judged_tup h1 hs ⟨fun b hb => (h b hb).ok, by omega, by omega⟩
theorem qD_mk (q : List (List Int)) : qD q = (q.map mkB).map Bk.d := by
  rw [List.map_map]
  exact List.map_congr_left fun b _ => (mkB_d b).symm
section
variable {s : Nat} {q : List (List Int)}
theorem Pq.sm (h : Pq s q) : ∀ b ∈ q.map mkB, Sm b := fun b hb => by
  obtain ⟨x, hx, rfl⟩ := List.mem_map.mp hb
  exact mkB_sm (by have := h.b1 x hx; omega)
theorem put_judged (h1 : 1 ≤ s) (hs : s ≤ 6) (h : Pq s q) {k : Nat} {x : D} (b : Bk) (hb : Sm b) (e : x = b.d) : Judged s (putBk q k x) := by
  refine judged_sm h1 hs ((q.take k).map mkB ++ [b] ++ (q.drop (k + 1)).map mkB) ?_ (fun c hc => ?_) ?_
  · have := h.n1
    simp only [List.length_append, List.length_map, List.length_take, List.length_drop, List.length_cons, List.length_nil]
    omega
  · rcases List.mem_append.mp hc with hc | hc
    · rcases List.mem_append.mp hc with hc | hc
      · rw [List.map_take] at hc
        exact h.sm c (List.mem_of_mem_take hc)
      · rw [List.mem_singleton.mp hc]
        exact hb
    · rw [List.map_drop] at hc
      exact h.sm c (List.mem_of_mem_drop hc)
  · unfold putBk
    rw [e, List.map_append, List.map_append, ← qD_mk, ← qD_mk, ← List.map_take, ← List.map_drop]
    rfl
theorem judged_9 (h1 : 1 ≤ s) (hs : s ≤ 6) (h : Pq s q) : ∀ v ∈ first9 q, Judged s v := by
  have n1 := h.n1
  have n0 := h.n0
  have sm := h.sm
  have q0 : (q.getD 0 []).length ≤ 20 := by
    have hm : q.getD 0 [] ∈ q := by
      rw [List.getD_eq_getElem?_getD, List.getElem?_eq_getElem (show 0 < q.length by omega)]
      exact List.getElem_mem _
    have := h.b1 _ hm
    omega
  intro v hv
  simp only [first9, List.mem_cons, List.mem_nil_iff, or_false] at hv
  rcases hv with rfl | rfl | rfl | rfl | rfl | rfl | rfl | rfl | rfl
  · exact judged_sm h1 hs (q.map mkB) (by rw [List.length_map]; omega) sm (by rw [← qD_mk])
  · exact judged_not h1 hs (k := .lst) rfl (by intro z; cases z)
  · exact judged_sm h1 hs (q.map mkB).reverse (by rw [List.length_reverse, List.length_map]; omega) (fun b hb => sm b (List.mem_reverse.mp hb)) (by rw [List.map_reverse, ← qD_mk])
  · exact judged_sm h1 hs ((q.map mkB).drop 1) (by rw [List.length_drop, List.length_map]; omega) (fun b hb => sm b (List.mem_of_mem_drop hb)) (by rw [List.map_drop, ← qD_mk])
  · refine judged_sm h1 hs (q.map mkB ++ [mkB []]) (by rw [List.length_append, List.length_map]; show q.length + 1 ≤ 20; omega) (fun b hb => ?_) (by rw [List.map_append, ← qD_mk]; rfl)
    rcases List.mem_append.mp hb with hb | hb
    · exact sm b hb
    · rw [List.mem_singleton.mp hb]
      exact mkB_sm (by show 0 ≤ 20; omega)
  · refine judged_sm h1 hs (q.map mkB ++ [mkB (q.getD 0 [])]) (by rw [List.length_append, List.length_map]; show q.length + 1 ≤ 20; omega) (fun b hb => ?_) (by rw [List.map_append, ← qD_mk, List.map_cons, mkB_d]; rfl)
    rcases List.mem_append.mp hb with hb | hb
    · exact sm b hb
    · rw [List.mem_singleton.mp hb]
      exact mkB_sm q0
  · exact judged_not h1 hs (k := .non) rfl (by intro z; cases z)
  · exact judged_sm h1 hs [] (by show 0 ≤ 20; omega) (fun b hb => by cases hb) rfl
  · exact judged_not h1 hs (k := .int) rfl (by intro z; cases z)
def oth1 (s : Nat) (blk : List Int) : List D := [.tup (intD blk).reverse, .tup ((intD blk).drop 1), .lst (intD blk), .tup (intD blk ++ [.int ((s : Int) + 1)]), .tup ([.int 0] ++ intD blk), .non, .tup (intD blk ++ [.int (blk.getD (blk.length - 1) 0)])]
def oth2 (blk : List Int) : List D := [.tup ([.bl true] ++ (intD blk).drop 1), .tup (blk.map fun i => D.str (toString i))]
def last5 (s : Nat) (q : List (List Int)) : List D := [.tup [.tup (intD (oneTo s))], .tup [.tup [.int 1]], .str "parting", .tup ([.tup [.int (s : Int)]] ++ qD q), .tup (intD (oneTo s))]
theorem judged_o1 (h1 : 1 ≤ s) (hs : s ≤ 6) (h : Pq s q) {k : Nat} {blk : List Int} (hb : blk.length ≤ 6) : ∀ v ∈ (oth1 s blk).map (putBk q k), Judged s v := by
  intro v hv
  simp only [oth1, List.map_cons, List.map_nil, List.mem_cons, List.mem_nil_iff, or_false] at hv
  rcases hv with rfl | rfl | rfl | rfl | rfl | rfl | rfl
  · exact put_judged h1 hs h (mkB blk.reverse) (mkB_sm (by rw [List.length_reverse]; omega)) (by rw [mkB_d, intD_map, intD_map, List.map_reverse])
  · exact put_judged h1 hs h (mkB (blk.drop 1)) (mkB_sm (by rw [List.length_drop]; omega)) (by rw [mkB_d, intD_drop])
  · exact put_judged h1 hs h (.lst blk) ⟨rfl, by show 0 ≤ 20; omega⟩ rfl
  · exact put_judged h1 hs h (mkB (blk ++ [(s : Int) + 1])) (mkB_sm (by rw [List.length_append]; show blk.length + 1 ≤ 20; omega)) (by rw [mkB_d, intD_app]; rfl)
  · exact put_judged h1 hs h (mkB ([0] ++ blk)) (mkB_sm (by rw [List.length_append]; show 1 + blk.length ≤ 20; omega)) (by rw [mkB_d, intD_app]; rfl)
  · exact put_judged h1 hs h .non ⟨rfl, by show 0 ≤ 20; omega⟩ rfl
  · exact put_judged h1 hs h (mkB (blk ++ [blk.getD (blk.length - 1) 0])) (mkB_sm (by rw [List.length_append]; show blk.length + 1 ≤ 20; omega)) (by rw [mkB_d, intD_app]; rfl)
theorem str_cp : ∀ i : Int, 1 ≤ i → i ≤ 6 → ((toString i : Str).cps.all (· < 0x110000)) = true := fun i h1 h2 => by
  have : i = 1 ∨ i = 2 ∨ i = 3 ∨ i = 4 ∨ i = 5 ∨ i = 6 := by omega
  rcases this with rfl | rfl | rfl | rfl | rfl | rfl <;> decide +kernel
theorem judged_o2 (h1 : 1 ≤ s) (hs : s ≤ 6) (h : Pq s q) {k : Nat} {blk : List Int} (hb : blk.length ≤ 6) (he : ∀ x ∈ blk, 1 ≤ x ∧ x ≤ 6) : ∀ v ∈ (oth2 blk).map (putBk q k), Judged s v := by
  intro v hv
  simp only [oth2, List.map_cons, List.map_nil, List.mem_cons, List.mem_nil_iff, or_false] at hv
  rcases hv with rfl | rfl
  · refine put_judged h1 hs h (.tup (At.b true :: (blk.drop 1).map At.i)) ⟨?_, ?_⟩ ?_
    · show ((At.b true :: (blk.drop 1).map At.i).all At.ok && decide ((At.b true :: (blk.drop 1).map At.i).length ≤ 1000)) = true
      have h1 : (At.b true :: (blk.drop 1).map At.i).all At.ok = true := List.all_eq_true.mpr fun a ha => by
        rcases List.mem_cons.mp ha with rfl | ha
        · rfl
        · obtain ⟨i, _, rfl⟩ := List.mem_map.mp ha
          rfl
      rw [h1, decide_eq_true (by rw [List.length_cons, List.length_map, List.length_drop]; omega)]
      rfl
    · show ((At.b true :: (blk.drop 1).map At.i).map At.n).length ≤ 20
      rw [List.length_map, List.length_cons, List.length_map, List.length_drop]
      omega
    · show _ = D.tup ((At.b true :: (blk.drop 1).map At.i).map At.d)
      rw [List.map_cons, List.map_map, intD_map, ← List.map_drop]
      rfl
  · refine put_judged h1 hs h (.tup (blk.map fun i => At.s (toString i))) ⟨?_, ?_⟩ ?_
    · show ((blk.map fun i => At.s (toString i)).all At.ok && decide ((blk.map fun i => At.s (toString i)).length ≤ 1000)) = true
      have h1 : (blk.map fun i => At.s (toString i)).all At.ok = true := List.all_eq_true.mpr fun a ha => by
        obtain ⟨i, hi, rfl⟩ := List.mem_map.mp ha
        have := he i hi
        exact str_cp i this.1 this.2
      rw [h1, decide_eq_true (by rw [List.length_map]; omega)]
      rfl
    · show ((blk.map fun i => At.s (toString i)).map At.n).length ≤ 20
      rw [List.length_map, List.length_map]
      omega
    · show _ = D.tup ((blk.map fun i => At.s (toString i)).map At.d)
      rw [List.map_map]
      rfl
theorem judged_l (h1 : 1 ≤ s) (hs : s ≤ 6) (h : Pq s q) : ∀ v ∈ last5 s q, Judged s v := by
  have n1 := h.n1
  have ol : (oneTo s).length = s := by unfold oneTo; rw [List.length_map, List.length_range]
  intro v hv
  simp only [last5, List.mem_cons, List.mem_nil_iff, or_false] at hv
  rcases hv with rfl | rfl | rfl | rfl | rfl
  · exact judged_sm h1 hs [mkB (oneTo s)] (by show 1 ≤ 20; omega) (fun b hb => by rw [List.mem_singleton.mp hb]; exact mkB_sm (by omega)) (by rw [List.map_cons, mkB_d]; rfl)
  · exact judged_sm h1 hs [mkB [1]] (by show 1 ≤ 20; omega) (fun b hb => by rw [List.mem_singleton.mp hb]; exact mkB_sm (by show 1 ≤ 20; omega)) (by rw [List.map_cons, mkB_d]; rfl)
  · exact judged_not h1 hs (k := .str) rfl (by intro z; cases z)
  · refine judged_sm h1 hs ([mkB [(s : Int)]] ++ q.map mkB) (by rw [List.length_append, List.length_map]; show 1 + q.length ≤ 20; omega) (fun b hb => ?_) (by rw [List.map_append, ← qD_mk, List.map_cons, mkB_d]; rfl)
    rcases List.mem_append.mp hb with hb | hb
    · rw [List.mem_singleton.mp hb]
      exact mkB_sm (by show 1 ≤ 20; omega)
    · exact h.sm b hb
  · refine judged_sm h1 hs ((oneTo s).map Bk.int) (by rw [List.length_map]; omega) (fun b hb => ?_) (by rw [List.map_map, intD_map]; rfl)
    obtain ⟨i, _, rfl⟩ := List.mem_map.mp hb
    exact ⟨rfl, by show 0 ≤ 20; omega⟩
end
end T

-- text X8
set_option Elab.async false
set_option linter.all false
set_option maxRecDepth 100000
set_option maxHeartbeats 4000000
namespace T
open PySem L2
theorem ac_g {m : Gam → Out Ar} {ms : Gam → Out (List Ar)} {a : Ar} {as : List Ar} {γ : Gam} (h1 : m γ = .ok a γ) (h2 : ms γ = .ok as γ) : aCons m ms γ = .ok (a :: as) γ := by
  unfold aCons
  simp only [h1, Out.bind, h2]
theorem iter_tg {m : Gam → Out Ar} {γ γ1 : Gam} {ds : List D} (h : m γ = .ok (.d (.tup ds)) γ1) : mIter m γ = .ok ds γ1 := by
  unfold mIter
  rw [h]
  rfl
theorem tup_g {ms : Gam → Out (List Ar)} {as : List Ar} {ds : List D} {γ : Gam} (h : ms γ = .ok as γ) (hd : dsOf as = some ds) (hf : fitN ds.length = true) : eTup ms γ = .ok (.fz (.tup ds)) γ := by
  unfold eTup
  simp only [h, Out.bind, hd, hf]
theorem lst_all {ms : Gam → Out (List Ar)} {as : List Ar} {ds : List D} {γ : Gam} (h : ms γ = .ok as γ) (hd : dsOf as = some ds) (hf : fitN ds.length = true) : eLst ms γ = .ok (.own (.lst ds)) γ := by
  unfold eLst
  simp only [h, Out.bind, hd, hf]
theorem fIx_last {ds : List D} {d : D} (h1 : 1 ≤ ds.length) (e : ds[ds.length - 1]? = some d) : fIxD (.tup ds) (.int (-1)) = some (.val d) := by
  show seqAt ds (-1) = _
  unfold seqAt atI
  have h : ixN ds.length (-1) = some (ds.length - 1) := by
    unfold ixN
    have a : ¬ (0 : Int) ≤ -1 := by decide
    have b : (0 : Int) ≤ (ds.length : Int) + -1 := by omega
    have c : ((ds.length : Int) + -1).toNat = ds.length - 1 := by omega
    simp [a, b, c]
    omega
  rw [h]
  show (match ds[ds.length - 1]? with
    | some d => some (BR.val d)
    | none => none) = _
  rw [e]
section
variable {s : Nat} {q : List (List Int)}
theorem near_mi1 {k : Nat} (blk : List Int) (hb0 : 1 ≤ blk.length) (hb : blk.length ≤ 6) (γ : Gam) (g5 : γ[5]? = some (.fz (.tup (intD blk)))) (g1 : γ[1]? = some (.fz (.int (s : Int)))) :
    mIter (fO (eTup (aCons (fO (eRev (oSl 5))) (aCons (fO (eSl (oSl 5) (pSome (fO (eC (.int 1)))) pNone)) (aCons (fO (eCall bList (aCons (oSl 5) aNil))) (aCons (fO (eOp fAdd (oSl 5) (fO (eTup (aCons (fO (eOp fAdd (oSl 1) (fO (eC (.int 1))))) aNil))))) (aCons (fO (eOp fAdd (fO (eTup (aCons (fO (eC (.int 0))) aNil))) (oSl 5))) (aCons (fO (eC .non)) (aCons (fO (eOp fAdd (oSl 5) (fO (eTup (aCons (fO (eOp fIxD (oSl 5) (fO (eNeg (fO (eC (.int 1))))))) aNil))))) aNil))))))))) γ = .ok (oth1 s blk) γ := by
  have hl : (intD blk).length = blk.length := intD_len blk
  have o5 : oSl 5 γ = .ok (.sl 5) γ := by unfold oSl; rw [g5]
  have l5 := look_fz g5
  have o1 : oSl 1 γ = .ok (.sl 1) γ := by unfold oSl; rw [g1]
  have l1 := look_fz g1
  have a1 := rev_g g5
  have a2 := sl_g 5 g5 (by omega)
  have a3 := lst_g g5
  have p1 : fO (eOp fAdd (oSl 1) (fO (eC (.int 1)))) γ = .ok (.d (.int ((s : Int) + 1))) γ := fo_fz (op_v (a := .sl 1) (b := .d (.int 1)) o1 rfl l1 rfl rfl)
  have a4 := add_g (γ := γ) o5 (fo_fz (tup1 p1)) l5 rfl (by simp only [List.length_cons, List.length_nil]; omega)
  have a5 := add_g (γ := γ) (ma := fO (eTup (aCons (fO (eC (.int 0))) aNil))) (a := .d (.tup [.int 0])) rfl o5 rfl l5 (by simp only [List.length_cons, List.length_nil]; omega)
  have a6 : fO (eC .non) γ = .ok (.d .non) γ := rfl
  have last : (intD blk)[(intD blk).length - 1]? = some (.int (blk.getD (blk.length - 1) 0)) := by
    rw [hl, intD_get, List.getD_eq_getElem?_getD, List.getElem?_eq_getElem (show blk.length - 1 < blk.length by omega)]
    rfl
  have i7 : fO (eOp fIxD (oSl 5) (fO (eNeg (fO (eC (.int 1)))))) γ = .ok (.d (.int (blk.getD (blk.length - 1) 0))) γ := fo_fz (op_v (a := .sl 5) (b := .d (.int (-1))) o5 (eNeg_c 1 γ) l5 rfl (fIx_last (by omega) last))
  have a7 := add_g (γ := γ) o5 (fo_fz (tup1 i7)) l5 rfl (by simp only [List.length_cons, List.length_nil]; omega)
  have e : eTup (aCons (fO (eRev (oSl 5))) (aCons (fO (eSl (oSl 5) (pSome (fO (eC (.int 1)))) pNone)) (aCons (fO (eCall bList (aCons (oSl 5) aNil))) (aCons (fO (eOp fAdd (oSl 5) (fO (eTup (aCons (fO (eOp fAdd (oSl 1) (fO (eC (.int 1))))) aNil))))) (aCons (fO (eOp fAdd (fO (eTup (aCons (fO (eC (.int 0))) aNil))) (oSl 5))) (aCons (fO (eC .non)) (aCons (fO (eOp fAdd (oSl 5) (fO (eTup (aCons (fO (eOp fIxD (oSl 5) (fO (eNeg (fO (eC (.int 1))))))) aNil))))) aNil))))))) γ = .ok (.fz (.tup (oth1 s blk))) γ := tup_g (ac_g a1 (ac_g a2 (ac_g a3 (ac_g a4 (ac_g a5 (ac_g a6 (ac_g a7 (show aNil γ = .ok [] γ from rfl)))))))) rfl rfl
  exact iter_tg (fo_fz e)
theorem near_mi2 (blk : List Int) (hb0 : 1 ≤ blk.length) (hb : blk.length ≤ 6) (he : ∀ x ∈ blk, 1 ≤ x ∧ x ≤ 6) (A B C F G I : Sl) :
    mIter (fO (eTup (aCons (fO (eOp fAdd (fO (eTup (aCons (fO (eC (.bl true))) aNil))) (fO (eSl (oSl 5) (pSome (fO (eC (.int 1)))) pNone)))) (aCons (fO (eCall bTuple (aCons (fO (eLc (mIter (fO (eRd 5))) [7] (gNm 7) mYes (fO (eCall bStrI (aCons (oSl 7) aNil))))) aNil))) aNil)))) [A, B, C, F, G, .fz (.tup (intD blk)), I, .un] = .ok (oth2 blk) [A, B, C, F, G, .fz (.tup (intD blk)), I, .un] := by
  have hl : (intD blk).length = blk.length := intD_len blk
  generalize hV : D.tup (intD blk) = V
  have g5 : ([A, B, C, F, G, .fz V, I, .un] : Gam)[5]? = some (.fz (.tup (intD blk))) := by rw [← hV]; rfl
  have a0 := sl_g 5 g5 (by omega)
  have a1 := add_g (γ := [A, B, C, F, G, .fz V, I, .un]) (ma := fO (eTup (aCons (fO (eC (.bl true))) aNil))) (a := .d (.tup [.bl true])) rfl a0 rfl rfl (by simp only [List.length_cons, List.length_nil, List.length_drop]; omega)
  have lc := eLc_mapg (mi := mIter (fO (eRd 5))) (vs := [7]) (f := gNm 7) (t := mYes) (e := fO (eCall bStrI (aCons (oSl 7) aNil))) (γ0 := [A, B, C, F, G, .fz V, I, .un]) (γ1 := [A, B, C, F, G, .fz V, I, .un]) (γ := [A, B, C, F, G, .fz V, I, .un])
    D.int (fun i => [A, B, C, F, G, .fz V, I, .fz (.int i)]) (fun _ => true) (fun i => D.str (toString i)) blk
    (by rw [← hV, ← intD_map]; rfl) rfl (fun _ _ => rfl) (fun _ _ => rfl) (fun i hi _ => fo_fz (call_1 (a := .sl 7) (d := .int i) rfl rfl (by
      have := he i hi
      have hb : Nat.blt i.natAbs.log2 1920 = true := by
        have h6 : i = 1 ∨ i = 2 ∨ i = 3 ∨ i = 4 ∨ i = 5 ∨ i = 6 := by omega
        rcases h6 with rfl | rfl | rfl | rfl | rfl | rfl <;> decide +kernel
      unfold bStrI
      simp only [hb]
      rfl))) (fun _ _ => rfl) (by omega)
  rw [filter_yes] at lc
  have a2 := fo_fz (call_1 (f := bTuple) (fo_og lc) rfl (r := .ok (.fz (.tup (blk.map fun i => D.str (toString i)))) [A, B, C, F, G, .fz V, I, .un]) rfl)
  have e : eTup (aCons (fO (eOp fAdd (fO (eTup (aCons (fO (eC (.bl true))) aNil))) (fO (eSl (oSl 5) (pSome (fO (eC (.int 1)))) pNone)))) (aCons (fO (eCall bTuple (aCons (fO (eLc (mIter (fO (eRd 5))) [7] (gNm 7) mYes (fO (eCall bStrI (aCons (oSl 7) aNil))))) aNil))) aNil)) [A, B, C, F, G, .fz V, I, .un] = .ok (.fz (.tup (oth2 blk))) [A, B, C, F, G, .fz V, I, .un] := tup_g (ac_g a1 (ac_g a2 (show aNil _ = .ok [] _ from rfl))) rfl rfl
  exact iter_tg (fo_fz e)
theorem rg_one {γ : Gam} (hs : s ≤ 6) (g1 : γ[1]? = some (.fz (.int (s : Int)))) : fO (eTupRg2 (fO (eC (.int 1))) (fO (eOp fAdd (oSl 1) (fO (eC (.int 1)))))) γ = .ok (.d (.tup (intD (oneTo s)))) γ := by
  have o1 : oSl 1 γ = .ok (.sl 1) γ := by unfold oSl; rw [g1]
  have l1 := look_fz g1
  have p1 : fO (eOp fAdd (oSl 1) (fO (eC (.int 1)))) γ = .ok (.d (.int ((s : Int) + 1))) γ := fo_fz (op_v (a := .sl 1) (b := .d (.int 1)) o1 rfl l1 rfl rfl)
  have gen : ∀ j : Int, fO (eOp fAdd (oSl 1) (fO (eC (.int 1)))) γ = .ok (.d (.int j)) γ → rgB 1 j = true → fO (eTupRg2 (fO (eC (.int 1))) (fO (eOp fAdd (oSl 1) (fO (eC (.int 1)))))) γ = .ok (.d (.tup (rgD 1 (j - 1).toNat))) γ := fun j hj hb => fo_fz (by
    unfold eTupRg2
    rw [show fO (eC (.int 1)) γ = .ok (.d (.int 1)) γ from rfl]
    simp only [Out.bind, hj, look, hb])
  have rb : ∀ s : Nat, s ≤ 6 → rgB 1 ((s : Int) + 1) = true := by decide +kernel
  have e2 := gen _ p1 (rb s hs)
  rw [show ((s : Int) + 1 - 1).toNat = s by omega, rgD_map] at e2
  have e3 : (List.range s).map (fun k => D.int (1 + ((k : Nat) : Int))) = intD (oneTo s) := by
    rw [intD_map]
    unfold oneTo
    rw [List.map_map]
    rfl
  rw [e3] at e2
  exact e2
theorem near_ok (h1 : 1 ≤ s) (hs : s ≤ 6) (h : Pq s q) {d : D} {m : Int} (hd : Dice m d) (hm : m < 900) : ∃ L d', B_law_near_parting [.io d, .fz (.int (s : Int)), .fz (pD q)] = .ok (.own (.lst L)) [.io d', .fz (.int (s : Int)), .fz (pD q)] ∧ Dice (m + 1) d' ∧ ∀ v ∈ L, Judged s v := by
  have hl : (qD q).length = q.length := List.length_map _
  have n0 := h.n0
  have n1 := h.n1
  have g1 := near_1 h d
  obtain ⟨k, d1, r, hd1, hk⟩ := rollN m d q.length hd (by omega) n0 (by omega)
  have hlen : fO (eCall bLen (aCons (oSl 2) aNil)) (.io d :: [.fz (.int (s : Int)), .fz (pD q), .own (.lst (first9 q)), .un, .un, .un, .un]) = .ok (.d (.int (q.length : Int))) (.io d :: [.fz (.int (s : Int)), .fz (pD q), .own (.lst (first9 q)), .un, .un, .un, .un]) := by
    have := fo_fz (call_1 (f := bLen) (m := oSl 2) (γ := [.io d, .fz (.int (s : Int)), .fz (pD q), .own (.lst (first9 q)), .un, .un, .un, .un]) (a := .sl 2) (d := pD q) rfl rfl (r := .ok (.fz (.int ((qD q).length : Int))) [.io d, .fz (.int (s : Int)), .fz (pD q), .own (.lst (first9 q)), .un, .un, .un, .un]) rfl)
    rw [hl] at this
    exact this
  have g4 := set_g (i := 4) (γ2 := [.io d1, .fz (.int (s : Int)), .fz (pD q), .own (.lst (first9 q)), .fz (.int (k : Int)), .un, .un, .un]) (roll_call (F := F_law_roll) (d' := d1) hlen r) rfl
  have hblk : q.getD k [] ∈ q := by
    rw [List.getD_eq_getElem?_getD, List.getElem?_eq_getElem hk]
    exact List.getElem_mem _
  have b0 := h.b0 _ hblk
  have b1 := h.b1 _ hblk
  have be := h.e _ hblk
  have gk := q_get hk
  generalize q.getD k [] = blk at hblk b0 b1 be gk
  have g5 := set_g (i := 5) (γ2 := [.io d1, .fz (.int (s : Int)), .fz (pD q), .own (.lst (first9 q)), .fz (.int (k : Int)), .fz (.tup (intD blk)), .un, .un]) (m := eOp fIxD (oSl 2) (oSl 4)) (γ := [.io d1, .fz (.int (s : Int)), .fz (pD q), .own (.lst (first9 q)), .fz (.int (k : Int)), .un, .un, .un])
    (op_v (a := .sl 2) (b := .sl 4) rfl rfl rfl rfl (fIx_tup k rfl gk)) rfl
  obtain ⟨S6, i6, f1⟩ := near_loop h hk d1 (.tup (intD blk)) (S6 := .un) (S7 := .un) (fnd := first9 q) rfl (near_mi1 (s := s) (k := k) blk b0 b1 _ rfl rfl) (by show 9 + 7 ≤ 500; omega)
  obtain ⟨S6', i6', f2⟩ := near_loop h hk d1 (.tup (intD blk)) (S6 := S6) (S7 := .un) (fnd := first9 q ++ (oth1 s blk).map (putBk q k)) i6 (near_mi2 blk b0 b1 be _ _ _ _ _ _) (by rw [List.length_append]; show 9 + 7 + 2 ≤ 500; omega)
  generalize hL : (first9 q ++ (oth1 s blk).map (putBk q k)) ++ (oth2 blk).map (putBk q k) = L0 at f2
  have lL : L0.length = 18 := by rw [← hL]; rfl
  generalize hγ : ([.io d1, .fz (.int (s : Int)), .fz (pD q), .own (.lst L0), .fz (.int (k : Int)), .fz (.tup (intD blk)), S6', .un] : Gam) = γ at f2
  have e1 : γ[1]? = some (.fz (.int (s : Int))) := by rw [← hγ]; rfl
  have e2 : γ[2]? = some (.fz (pD q)) := by rw [← hγ]; rfl
  have o2 : oSl 2 γ = .ok (.sl 2) γ := by unfold oSl; rw [e2]
  have rg := rg_one hs e1
  have t1 := fo_fz (tup1 rg)
  have t2 : fO (eTup (aCons (fO (eTup (aCons (fO (eC (.int 1))) aNil))) aNil)) γ = .ok (.d (.tup [.tup [.int 1]])) γ := rfl
  have t3 : fO (eC (.str "parting")) γ = .ok (.d (.str "parting")) γ := rfl
  have r1 : fO (eRd 1) γ = .ok (.d (.int (s : Int))) γ := by rw [← hγ]; rfl
  have t4 := add_g (γ := γ) (fo_fz (tup1 (fo_fz (tup1 r1)))) o2 rfl (look_fz e2) (by rw [hl]; show 1 + q.length ≤ 100000; omega)
  have l5 : eLst (aCons (fO (eTup (aCons (fO (eTupRg2 (fO (eC (.int 1))) (fO (eOp fAdd (oSl 1) (fO (eC (.int 1))))))) aNil))) (aCons (fO (eTup (aCons (fO (eTup (aCons (fO (eC (.int 1))) aNil))) aNil))) (aCons (fO (eC (.str "parting"))) (aCons (fO (eOp fAdd (fO (eTup (aCons (fO (eTup (aCons (fO (eRd 1)) aNil))) aNil))) (oSl 2))) (aCons (fO (eTupRg2 (fO (eC (.int 1))) (fO (eOp fAdd (oSl 1) (fO (eC (.int 1))))))) aNil))))) γ = .ok (.own (.lst (last5 s q))) γ := lst_all (ac_g t1 (ac_g t2 (ac_g t3 (ac_g t4 (ac_g rg (show aNil γ = .ok [] γ from rfl)))))) rfl rfl
  have ff : fitN (L0.length + (last5 s q).length) = true := by rw [lL]; rfl
  have fin : eOp fAdd (oSl 3) (fO (eLst (aCons (fO (eTup (aCons (fO (eTupRg2 (fO (eC (.int 1))) (fO (eOp fAdd (oSl 1) (fO (eC (.int 1))))))) aNil))) (aCons (fO (eTup (aCons (fO (eTup (aCons (fO (eC (.int 1))) aNil))) aNil))) (aCons (fO (eC (.str "parting"))) (aCons (fO (eOp fAdd (fO (eTup (aCons (fO (eTup (aCons (fO (eRd 1)) aNil))) aNil))) (oSl 2))) (aCons (fO (eTupRg2 (fO (eC (.int 1))) (fO (eOp fAdd (oSl 1) (fO (eC (.int 1))))))) aNil))))))) γ = .ok (.own (.lst (L0 ++ last5 s q))) γ := by
    refine op_o (a := .sl 3) (b := .d (.lst (last5 s q))) (x := .lst L0) (y := .lst (last5 s q)) (by rw [← hγ]; rfl) (fo_own l5) (by rw [← hγ]; rfl) rfl ?_
    show ofB (match fitN (L0.length + (last5 s q).length) with
      | true => some (BR.newL (L0 ++ last5 s q))
      | false => none) γ = _
    rw [ff]
    rfl
  refine ⟨L0 ++ last5 s q, d1, ?_, hd1, fun v hv => ?_⟩
  · have run := (seq_nx g1).trans ((seq_nx g4).trans ((seq_nx g5).trans ((seq_nx f1).trans ((seq_nx f2).trans (seq_rt (b := sNx) (ret_ok fin))))))
    have := fnB_rt (m := 5) (b := s_law_near_parting) (as := [.io d, .fz (.int (s : Int)), .fz (pD q)]) (γ := γ) (r := .own (.lst (L0 ++ last5 s q))) (by unfold s_law_near_parting; exact run)
    rw [← hγ] at this
    exact this
  · rcases List.mem_append.mp hv with hv | hv
    · rw [← hL] at hv
      rcases List.mem_append.mp hv with hv | hv
      · rcases List.mem_append.mp hv with hv | hv
        · exact judged_9 h1 hs h v hv
        · exact judged_o1 h1 hs h b1 v hv
      · exact judged_o2 h1 hs h b1 be v hv
    · exact judged_l h1 hs h v hv
end
end T

-- text X8b
set_option Elab.async false
set_option linter.all false
set_option maxRecDepth 100000
set_option maxHeartbeats 4000000
namespace T
open PySem L2
abbrev Row := List (List Int)
def put1 (n : Int) (r : Row) (k : Nat) : Row := r.take k ++ [r.getD k [] ++ [n]] ++ r.drop (k + 1)
def step1 (k : Nat) (n : Int) (fs : List Row) : List Row := fs.flatMap fun r => (List.range k).map (put1 n r)
def gen (k : Nat) : Nat → List Row
  | 0 => [List.replicate k []]
  | s + 1 => step1 k (Int.ofNat (1 + s)) (gen k s)
def okRow (r : Row) : Bool := r.all fun b => !b.isEmpty
def rowsP (k s : Nat) : List Row := srtW lexII ((gen k s).filter okRow)
theorem put1_len {n : Int} {r : Row} {k : Nat} (h : k < r.length) : (put1 n r k).length = r.length := by
  unfold put1
  simp only [List.length_append, List.length_take, List.length_drop, List.length_cons, List.length_nil]
  omega
theorem gen_len (k : Nat) : ∀ s : Nat, ∀ r ∈ gen k s, r.length = k
  | 0, r, h => by
    rw [show gen k 0 = [List.replicate k []] from rfl, List.mem_singleton] at h
    rw [h, List.length_replicate]
  | s + 1, r, h => by
    obtain ⟨r0, h0, h1⟩ := List.mem_flatMap.mp (show r ∈ (gen k s).flatMap _ from h)
    obtain ⟨j, hj, rfl⟩ := List.mem_map.mp h1
    have l0 := gen_len k s r0 h0
    rw [put1_len (by rw [l0]; exact List.mem_range.mp hj)]
    exact l0
theorem put1_bl {n : Int} {r : Row} {k m : Nat} (h : ∀ b ∈ r, b.length ≤ m) : ∀ b ∈ put1 n r k, b.length ≤ m + 1 := fun b hb => by
  unfold put1 at hb
  rcases List.mem_append.mp hb with hb | hb
  · rcases List.mem_append.mp hb with hb | hb
    · exact Nat.le_succ_of_le (h b (List.mem_of_mem_take hb))
    · rw [List.mem_singleton.mp hb, List.length_append]
      have : (r.getD k []).length ≤ m := by
        rw [List.getD_eq_getElem?_getD]
        cases e : r[k]? with
        | none => exact Nat.zero_le _
        | some x => exact h x (List.mem_of_getElem? e)
      show (r.getD k []).length + 1 ≤ m + 1
      omega
  · exact Nat.le_succ_of_le (h b (List.mem_of_mem_drop hb))
theorem gen_bl (k : Nat) : ∀ s : Nat, ∀ r ∈ gen k s, ∀ b ∈ r, b.length ≤ s
  | 0, r, h, b, hb => by
    rw [show gen k 0 = [List.replicate k []] from rfl, List.mem_singleton] at h
    rw [h] at hb
    rw [(List.mem_replicate.mp hb).2]
    exact Nat.le_refl _
  | s + 1, r, h, b, hb => by
    obtain ⟨r0, h0, h1⟩ := List.mem_flatMap.mp (show r ∈ (gen k s).flatMap _ from h)
    obtain ⟨j, hj, rfl⟩ := List.mem_map.mp h1
    exact put1_bl (gen_bl k s r0 h0) b hb
theorem pD_rowII (r : Row) : pD r = rowII r := by
  show D.tup (qD r) = D.tup (r.map rowI)
  congr 1
  refine List.map_congr_left fun b _ => ?_
  show D.tup (intD b) = D.tup (b.map .int)
  rw [intD_map]
theorem qD_put1 {n : Int} {r : Row} {j : Nat} : (qD r).take j ++ [.tup (intD (r.getD j []) ++ [.int n])] ++ (qD r).drop (j + 1) = qD (put1 n r j) := by
  unfold put1 qD
  rw [List.map_append, List.map_append, List.map_take, List.map_drop]
  show _ = _ ++ [D.tup (intD (r.getD j [] ++ [n]))] ++ _
  rw [intD_app]
  rfl
theorem append_ok2 {γ γ1 : Gam} {i : Nat} {ms : Gam → Out Ar} {y : D} {ds : List D} (h0 : γ[i]? = some (.own (.lst ds))) (h : ms γ = .ok (.d y) γ1) (h1 : γ1[i]? = some (.own (.lst ds))) (hl : ds.length ≤ 99999) : eMeth i fAppend (aCons ms aNil) γ = .ok (.fz .non) (γ1.set i (.own (.lst (ds ++ [y])))) := by
  have hf : fitN (ds.length + 1) = true := fitN_of (by omega)
  unfold eMeth
  simp only [h0, Sl.lst, args1g h, Out.bind, dsOf, h1, fAppend, hf, Sl.putL]
/-- the start -/
theorem start_ok {k : Nat} (h1 : 1 ≤ k) (hk : k ≤ 6) {γ γ2 : Gam} (g1 : γ[1]? = some (.fz (.int (k : Int)))) (hs : stG 2 (.own (.lst ([List.replicate k []].map pD))) γ = some γ2) :
    sSet 2 (eLst (aCons (fO (eOp fMulA (fO (eTup (aCons (fO (eTup aNil)) aNil))) (oSl 1))) aNil)) γ = .nx γ2 := by
  have o1 : oSl 1 γ = .ok (.sl 1) γ := by unfold oSl; rw [g1]
  have l1 := look_fz g1
  have t1 : fO (eTup (aCons (fO (eTup aNil)) aNil)) γ = .ok (.d (.tup [.tup []])) γ := rfl
  have mu : ∀ k : Nat, 1 ≤ k → k ≤ 6 → ofB (fMulA (.tup [.tup []]) (.int (k : Int))) γ = .ok (.fz (pD (List.replicate k []))) γ := fun k h1 h2 => by
    have : k = 1 ∨ k = 2 ∨ k = 3 ∨ k = 4 ∨ k = 5 ∨ k = 6 := by omega
    rcases this with rfl | rfl | rfl | rfl | rfl | rfl <;> rfl
  have e := fo_fz (op_o (f := fMulA) t1 o1 rfl l1 (mu k h1 hk))
  exact set_g (lst_all (ac_g e (show aNil γ = .ok [] γ from rfl)) rfl rfl) hs
theorem eqd_nil (b : List Int) : eqd (.tup (intD b)) (.tup []) = b.isEmpty := by
  cases b <;> rfl
theorem sh_q : ∀ r : Row, shL 11 (qD r) = true
  | [] => rfl
  | b :: r => by
    show (shD 11 (.tup (intD b)) && shL 11 (qD r)) = true
    rw [sh_q r, Bool.and_true]
    show shL 10 (intD b) = true
    exact shL_intD 10 b
theorem any_q : ∀ r : Row, anyD (.tup []) (qD r) = !(okRow r)
  | [] => rfl
  | b :: r => by
    show (eqd (.tup (intD b)) (.tup []) || anyD (.tup []) (qD r)) = !((!b.isEmpty) && okRow r)
    rw [eqd_nil, any_q r]
    cases b.isEmpty <;> simp
theorem fInt_ok (r : Row) (h0 : fInD true (.tup []) (pD r) = none) : fInT true (.tup []) (pD r) = some (.val (.bl (okRow r))) := by
  have s1 : (shD 12 (.tup []) && shD 12 (pD r)) = true := by
    rw [show shD 12 (pD r) = true from (by unfold shD; exact sh_q r)]
    rfl
  unfold fInT
  rw [h0]
  show (match shD 12 (.tup []) && shD 12 (pD r) with
    | true => some (BR.val (.bl (if true = true then !(anyD (.tup []) (qD r)) else anyD (.tup []) (qD r))))
    | false => none) = _
  rw [s1, any_q]
  simp
theorem sort_rows {rs : List Row} (h : ∀ r ∈ rs, 1 ≤ r.length) (hi : intsOf (rs.map pD) = none ∨ rs = []) (ht : tupsI (rs.map pD) = none ∨ rs = []) {m : Gam → Out R} {γ γ1 : Gam} (e : fO m γ = .ok (.d (.lst (rs.map pD))) γ1) : eCall bSortA (aCons (fO m) aNil) γ = .ok (.own (.lst ((srtW lexII rs).map rowII))) γ1 := by
  have t2 : ∀ rs : List Row, tupsII (rs.map pD) = some rs := fun rs => by
    induction rs with
    | nil => rfl
    | cons r rs ih =>
      have t1 : ∀ r : Row, tupsI (qD r) = some r := fun r => by
        induction r with
        | nil => rfl
        | cons b r ih =>
          show (match intsOf (intD b) with
            | some k => (match tupsI (qD r) with
              | some ks => some (k :: ks)
              | none => none)
            | none => none) = _
          rw [intsOf_intD, ih]
      show (match tupsI (qD r) with
        | some k => (match tupsII (rs.map pD) with
          | some ks => some (k :: ks)
          | none => none)
        | none => none) = _
      rw [t1, ih]
  have ne : neL rs = true := List.all_eq_true.mpr fun r hr => by
    have := h r hr
    cases r with
    | nil => cases this
    | cons b r => rfl
  refine call_1 e rfl ?_
  rcases hi with hi | rfl
  · rcases ht with ht | rfl
    · have : bSortA [.lst (rs.map pD)] = some (.newLF ((srtW lexII rs).map rowII)) := by
        show (match intsOf (rs.map pD) with
          | some _ => bSorted [.lst (rs.map pD)]
          | none => (match tupsI (rs.map pD) with
            | some kss => (match neL kss with
              | true => some (BR.newLF ((srtW lexI kss).map rowI))
              | false => none)
            | none => (match tupsII (rs.map pD) with
              | some kss => (match neL kss with
                | true => some (BR.newLF ((srtW lexII kss).map rowII))
                | false => none)
              | none => none))) = _
        rw [hi, ht, t2]
        show (match neL rs with
          | true => some (BR.newLF ((srtW lexII rs).map rowII))
          | false => none) = _
        rw [ne]
      rw [this]
      rfl
    · rfl
  · rfl
theorem no_ints {rs : List Row} (h : ∀ r ∈ rs, 1 ≤ r.length) : (intsOf (rs.map pD) = none ∨ rs = []) ∧ (tupsI (rs.map pD) = none ∨ rs = []) := by
  cases rs with
  | nil => exact ⟨.inr rfl, .inr rfl⟩
  | cons r rs =>
    refine ⟨.inl rfl, .inl ?_⟩
    have := h r List.mem_cons_self
    cases r with
    | nil => cases this
    | cons b r => rfl
/-! the law's partings -/
abbrev pBody : Gam → OutS := (sSeq (sExpr (eMeth 4 fAppend (aCons (fO (eOp fAdd (fO (eOp fAdd (fO (eSl (oSl 5) pNone (pSome (oSl 6)))) (fO (eTup (aCons (fO (eOp fAdd (fO (eOp fIxD (oSl 5) (oSl 6))) (fO (eTup (aCons (fO (eRd 3)) aNil))))) aNil))))) (fO (eSl (oSl 5) (pSome (fO (eOp fAdd (oSl 6) (fO (eC (.int 1)))))) pNone)))) aNil))) sNx)
theorem p_body {A B C : Sl} {n : Int} {r : Row} {j : Nat} (hj : j < r.length) (hr : r.length ≤ 6) (hb : ∀ b ∈ r, b.length ≤ 6) (fnd : List D) (hf : fnd.length ≤ 99999) :
    pBody [A, B, C, .fz (.int n), .own (.lst fnd), .fz (pD r), .fz (.int (Int.ofNat j))] = .nx [A, B, C, .fz (.int n), .own (.lst (fnd ++ [pD (put1 n r j)])), .fz (pD r), .fz (.int (Int.ofNat j))] := by
  have hl : (qD r).length = r.length := List.length_map _
  have hbj : (r.getD j []).length ≤ 6 := by
    rw [List.getD_eq_getElem?_getD, List.getElem?_eq_getElem hj]
    exact hb _ (List.getElem_mem hj)
  generalize hγ : ([A, B, C, .fz (.int n), .own (.lst fnd), .fz (pD r), .fz (.int (Int.ofNat j))] : Gam) = γ
  have g5 : γ[5]? = some (.fz (pD r)) := by rw [← hγ]; rfl
  have o5 : oSl 5 γ = .ok (.sl 5) γ := by unfold oSl; rw [g5]
  have l5 := look_fz g5
  have g6 : γ[6]? = some (.fz (.int (Int.ofNat j))) := by rw [← hγ]; rfl
  have o6 : oSl 6 γ = .ok (.sl 6) γ := by unfold oSl; rw [g6]
  have l6 := look_fz g6
  have r3 : fO (eRd 3) γ = .ok (.d (.int n)) γ := by rw [← hγ]; rfl
  have e1 := fo_fz (sl_hi (i := Int.ofNat j) (k := j) o5 l5 o6 l6 rfl (by omega))
  have ix : fO (eOp fIxD (oSl 5) (oSl 6)) γ = .ok (.d (.tup (intD (r.getD j [])))) γ := fo_fz (op_v (a := .sl 5) (b := .sl 6) o5 o6 l5 l6 (fIx_tup j rfl (q_get hj)))
  have e2 := add_g (γ := γ) ix (fo_fz (tup1 r3)) rfl rfl (by rw [intD_len]; show (r.getD j []).length + 1 ≤ 100000; omega)
  have e3 := add_g (γ := γ) e1 (fo_fz (tup1 e2)) rfl rfl (by rw [List.length_take]; show min j (qD r).length + 1 ≤ 100000; omega)
  have p6 : fO (eOp fAdd (oSl 6) (fO (eC (.int 1)))) γ = .ok (.d (.int (Int.ofNat j + 1))) γ := fo_fz (op_v (a := .sl 6) (b := .d (.int 1)) o6 rfl l6 rfl rfl)
  have e4 := fo_fz (sl_lo (i := Int.ofNat j + 1) (k := j + 1) o5 l5 p6 rfl (by show (j : Int) + 1 = _; omega) (by omega))
  have e5 := add_g (γ := γ) e3 e4 rfl rfl (by rw [List.length_append, List.length_take, List.length_drop]; show min j (qD r).length + 1 + _ ≤ 100000; omega)
  rw [qD_put1] at e5
  have ap := append_ok2 (i := 4) (ds := fnd) (by rw [← hγ]; rfl) e5 (by rw [← hγ]; rfl) hf
  rw [← hγ] at ap ⊢
  exact (seq_nx (ex_ok ap)).trans rfl
theorem p_inner {A C : Sl} {k : Nat} {n : Int} {r : Row} (hk : r.length = k) (hk6 : k ≤ 6) (hb : ∀ b ∈ r, b.length ≤ 6) (fnd : List D) (hf : fnd.length + k ≤ 99999) {S6 : Sl} (i6 : S6.isIo = false) :
    ∃ S6', S6'.isIo = false ∧ sFor (mRng1 (aCons (oSl 1) aNil)) (gNm 6) pBody [A, .fz (.int (k : Int)), C, .fz (.int n), .own (.lst fnd), .fz (pD r), S6] = .nx [A, .fz (.int (k : Int)), C, .fz (.int n), .own (.lst (fnd ++ ((List.range k).map (put1 n r)).map pD)), .fz (pD r), S6'] := by
  obtain ⟨γ', e, S6', i6', rfl⟩ := for_preg (mi := mRng1 (aCons (oSl 1) aNil)) (f := gNm 6) (b := pBody) (fun j : Nat => D.int (Int.ofNat j))
    (γ0 := [A, .fz (.int (k : Int)), C, .fz (.int n), .own (.lst fnd), .fz (pD r), S6]) (γ := [A, .fz (.int (k : Int)), C, .fz (.int n), .own (.lst fnd), .fz (pD r), S6])
    (fun pre γ => ∃ S6', S6'.isIo = false ∧ γ = [A, .fz (.int (k : Int)), C, .fz (.int n), .own (.lst (fnd ++ (pre.map (put1 n r)).map pD)), .fz (pD r), S6']) (List.range k)
    (range1g (a := .sl 1) (i := (k : Int)) rfl rfl rfl (by omega)) ⟨S6, i6, by rw [List.map_nil, List.map_nil, List.append_nil]⟩ (by
      rintro pre x post γ e ⟨S6', i6', rfl⟩
      have hx : x < k := by
        have : x ∈ List.range k := by rw [e]; simp
        exact List.mem_range.mp this
      have hp : pre.length < k := by
        have := congrArg List.length e
        rw [List.length_append, List.length_cons, List.length_range] at this
        omega
      refine ⟨_, _, ?_, p_body (A := A) (B := .fz (.int (k : Int))) (C := C) (n := n) (r := r) (j := x) (by omega) (by omega) hb (fnd ++ (pre.map (put1 n r)).map pD) (by simp only [List.length_append, List.length_map]; omega), .fz (.int (Int.ofNat x)), rfl, ?_⟩
      · show (match S6'.isIo with | true => none | false => some _) = _
        rw [i6']
        rfl
      · rw [List.map_append, List.map_append, List.append_assoc]
        rfl)
  exact ⟨S6', i6', e⟩
theorem flat_len {k : Nat} {n : Int} : ∀ fs : List Row, (fs.flatMap fun r => (List.range k).map (put1 n r)).length = fs.length * k
  | [] => by simp
  | r :: fs => by
    rw [List.flatMap_cons, List.length_append, flat_len fs, List.length_map, List.length_range, List.length_cons, Nat.succ_mul]
    omega
theorem p_outer {A : Sl} {k : Nat} {n : Int} {fs : List Row} (hk6 : k ≤ 6) (hr : ∀ r ∈ fs, r.length = k ∧ ∀ b ∈ r, b.length ≤ 6) (hf : fs.length * k ≤ 90000) {S5 S6 : Sl} (i5 : S5.isIo = false) (i6 : S6.isIo = false) {S2 : Sl} (h2 : S2 = .own (.lst (fs.map pD)) ∨ S2 = .fz (.lst (fs.map pD))) :
    ∃ S5' S6', S5'.isIo = false ∧ S6'.isIo = false ∧ sFor (mIter (fO (eRd 2))) (gNm 5) (sSeq (sFor (mRng1 (aCons (oSl 1) aNil)) (gNm 6) pBody) sNx) [A, .fz (.int (k : Int)), S2, .fz (.int n), .own (.lst []), S5, S6] = .nx [A, .fz (.int (k : Int)), .fz (.lst (fs.map pD)), .fz (.int n), .own (.lst ((step1 k n fs).map pD)), S5', S6'] := by
  have it : mIter (fO (eRd 2)) [A, .fz (.int (k : Int)), S2, .fz (.int n), .own (.lst []), S5, S6] = .ok (fs.map pD) [A, .fz (.int (k : Int)), .fz (.lst (fs.map pD)), .fz (.int n), .own (.lst []), S5, S6] := by
    rcases h2 with rfl | rfl <;> rfl
  obtain ⟨γ', e, S5', S6', i5', i6', rfl⟩ := for_preg (mi := mIter (fO (eRd 2))) (f := gNm 5) (b := (sSeq (sFor (mRng1 (aCons (oSl 1) aNil)) (gNm 6) pBody) sNx)) pD
    (γ0 := [A, .fz (.int (k : Int)), S2, .fz (.int n), .own (.lst []), S5, S6]) (γ := [A, .fz (.int (k : Int)), .fz (.lst (fs.map pD)), .fz (.int n), .own (.lst []), S5, S6])
    (fun pre γ => ∃ S5' S6', S5'.isIo = false ∧ S6'.isIo = false ∧ γ = [A, .fz (.int (k : Int)), .fz (.lst (fs.map pD)), .fz (.int n), .own (.lst ((step1 k n pre).map pD)), S5', S6']) fs
    it ⟨S5, S6, i5, i6, rfl⟩ (by
      rintro pre x post γ e ⟨S5', S6', i5', i6', rfl⟩
      obtain ⟨hx, hb⟩ := hr x (by rw [e]; simp)
      have hp : pre.length + 1 ≤ fs.length := by rw [e, List.length_append, List.length_cons]; omega
      have hm : (pre.length + 1) * k ≤ fs.length * k := Nat.mul_le_mul_right k hp
      have hl : ((step1 k n pre).map pD).length = pre.length * k := by rw [List.length_map]; exact flat_len pre
      obtain ⟨S6'', i6'', e2⟩ := p_inner (A := A) (C := .fz (.lst (fs.map pD))) (n := n) hx hk6 hb ((step1 k n pre).map pD) (by rw [hl]; rw [Nat.succ_mul] at hm; omega) i6'
      refine ⟨_, _, ?_, (seq_nx e2).trans rfl, .fz (pD x), S6'', rfl, i6'', ?_⟩
      · show (match S5'.isIo with | true => none | false => some _) = _
        rw [i5']
        rfl
      · have : step1 k n (pre ++ [x]) = step1 k n pre ++ (List.range k).map (put1 n x) := by
          unfold step1
          rw [List.flatMap_append]
          simp
        rw [this, List.map_append])
  exact ⟨S5', S6', i5', i6', e⟩
abbrev gBody : Gam → OutS := (sSeq (sSet 4 (eLst aNil)) (sSeq (sFor (mIter (fO (eRd 2))) (gNm 5) (sSeq (sFor (mRng1 (aCons (oSl 1) aNil)) (gNm 6) pBody) sNx)) (sSeq (sSet 2 (eMv 4)) sNx)))
theorem rg_from1 {s : Nat} (hs : s ≤ 6) {γ : Gam} (g0 : γ[0]? = some (.fz (.int (s : Int)))) : mRng2 (aCons (fO (eC (.int 1))) (aCons (fO (eOp fAdd (oSl 0) (fO (eC (.int 1))))) aNil)) γ = .ok ((List.range s).map fun x => D.int (Int.ofNat (1 + x))) γ := by
  have o0 : oSl 0 γ = .ok (.sl 0) γ := by unfold oSl; rw [g0]
  have p1 : fO (eOp fAdd (oSl 0) (fO (eC (.int 1)))) γ = .ok (.d (.int ((s : Int) + 1))) γ := fo_fz (op_v (f := fAdd) (a := .sl 0) (b := .d (.int 1)) o0 rfl (look_fz g0) rfl rfl)
  exact range2 (m := fO (eC (.int 1))) (a := .d (.int 1)) (lo := 1) (k := s) (i := 1) rfl p1 rfl rfl rfl (by omega) (by omega)
theorem range_at {s x : Nat} {pre post : List Nat} (e : List.range s = pre ++ x :: post) : x = pre.length ∧ pre.length < s := by
  have h1 : (List.range s)[pre.length]? = some x := by rw [e, List.getElem?_append_right (Nat.le_refl _), Nat.sub_self]; rfl
  have h2 : pre.length < s := by
    have := congrArg List.length e
    rw [List.length_append, List.length_cons, List.length_range] at this
    omega
  rw [List.getElem?_range h2] at h1
  exact ⟨(Option.some.inj h1).symm, h2⟩
theorem law_partings_ok {k s : Nat} (h1 : 1 ≤ k) (hk : k ≤ 6) (hs : s ≤ 6) (hG : ∀ i, i ≤ s → (gen k i).length * k ≤ 90000) :
    B_law_partings [.fz (.int (s : Int)), .fz (.int (k : Int))] = .ok (.own (.lst ((rowsP k s).map rowII))) [.fz (.int (s : Int)), .fz (.int (k : Int))] := by
  have st := start_ok h1 hk (γ := [.fz (.int (s : Int)), .fz (.int (k : Int)), .un, .un, .un, .un, .un]) (γ2 := [.fz (.int (s : Int)), .fz (.int (k : Int)), .own (.lst ((gen k 0).map pD)), .un, .un, .un, .un]) rfl rfl
  obtain ⟨γ', e, S3, S5, S6, i3, i5, i6, rfl⟩ := for_preg (f := gNm 3) (b := gBody) (fun x : Nat => D.int (Int.ofNat (1 + x)))
    (γ0 := [.fz (.int (s : Int)), .fz (.int (k : Int)), .own (.lst ((gen k 0).map pD)), .un, .un, .un, .un]) (γ := [.fz (.int (s : Int)), .fz (.int (k : Int)), .own (.lst ((gen k 0).map pD)), .un, .un, .un, .un])
    (fun pre γ => ∃ S3 S5 S6, S3.isIo = false ∧ S5.isIo = false ∧ S6.isIo = false ∧ γ = [.fz (.int (s : Int)), .fz (.int (k : Int)), .own (.lst ((gen k pre.length).map pD)), S3, .un, S5, S6]) (List.range s)
    (rg_from1 hs rfl) ⟨.un, .un, .un, rfl, rfl, rfl, rfl⟩ (by
      rintro pre x post γ e ⟨S3, S5, S6, i3, i5, i6, rfl⟩
      obtain ⟨hx, hp⟩ := range_at e
      have g4 := set_g (i := 4) (m := eLst aNil) (γ := [.fz (.int (s : Int)), .fz (.int (k : Int)), .own (.lst ((gen k pre.length).map pD)), .fz (.int (Int.ofNat (1 + x))), .un, S5, S6]) (γ2 := [.fz (.int (s : Int)), .fz (.int (k : Int)), .own (.lst ((gen k pre.length).map pD)), .fz (.int (Int.ofNat (1 + x))), .own (.lst []), S5, S6]) rfl rfl
      obtain ⟨S5', S6', i5', i6', e2⟩ := p_outer (A := .fz (.int (s : Int))) (n := Int.ofNat (1 + x)) (fs := gen k pre.length) hk (fun r hr => ⟨gen_len k _ r hr, fun b hb => by have := gen_bl k _ r hr b hb; omega⟩) (hG _ (by omega)) i5 i6 (.inl rfl)
      have g2 := set_g (i := 2) (m := eMv 4) (γ := [.fz (.int (s : Int)), .fz (.int (k : Int)), .fz (.lst ((gen k pre.length).map pD)), .fz (.int (Int.ofNat (1 + x))), .own (.lst ((step1 k (Int.ofNat (1 + x)) (gen k pre.length)).map pD)), S5', S6']) (γ2 := [.fz (.int (s : Int)), .fz (.int (k : Int)), .own (.lst ((step1 k (Int.ofNat (1 + x)) (gen k pre.length)).map pD)), .fz (.int (Int.ofNat (1 + x))), .un, S5', S6']) rfl rfl
      refine ⟨_, _, ?_, (seq_nx g4).trans ((seq_nx e2).trans ((seq_nx g2).trans rfl)), .fz (.int (Int.ofNat (1 + x))), S5', S6', rfl, i5', i6', ?_⟩
      · show (match S3.isIo with | true => none | false => some _) = _
        rw [i3]
        rfl
      · rw [List.length_append, hx]
        rfl)
  rw [List.length_range] at e
  have u5 : unO [5] [.fz (.int (s : Int)), .fz (.int (k : Int)), .fz (.lst ((gen k s).map pD)), S3, .un, S5, S6] = some [.fz (.int (s : Int)), .fz (.int (k : Int)), .fz (.lst ((gen k s).map pD)), S3, .un, .un, S6] := by
    show (match S5.isIo with | true => none | false => some _) = _
    rw [i5]
    rfl
  have gl : (gen k s).length ≤ 90000 := Nat.le_trans (Nat.le_mul_of_pos_right _ h1) (hG s (Nat.le_refl _))
  have lc := eLc_mapg (mi := mIter (fO (eRd 2))) (vs := [5]) (f := gNm 5) (t := toT (eOp (fInT true) (fO (eTup aNil)) (oSl 5))) (e := fO (eRd 5)) (γ0 := [.fz (.int (s : Int)), .fz (.int (k : Int)), .own (.lst ((gen k s).map pD)), S3, .un, S5, S6]) (γ1 := [.fz (.int (s : Int)), .fz (.int (k : Int)), .fz (.lst ((gen k s).map pD)), S3, .un, S5, S6]) (γ := [.fz (.int (s : Int)), .fz (.int (k : Int)), .fz (.lst ((gen k s).map pD)), S3, .un, .un, S6])
    pD (fun r => [.fz (.int (s : Int)), .fz (.int (k : Int)), .fz (.lst ((gen k s).map pD)), S3, .un, .fz (pD r), S6]) okRow pD (gen k s)
    rfl u5 (fun _ _ => rfl) (fun r _ => tT_v (op_v (f := fInT true) (a := .d (.tup [])) (b := .sl 5) rfl rfl rfl rfl (fInt_ok r rfl))) (fun _ _ _ => rfl) (fun _ _ => rfl) (by omega)
  have ne : ∀ r ∈ (gen k s).filter okRow, 1 ≤ r.length := fun r hr => by rw [gen_len k s r (List.mem_filter.mp hr).1]; exact h1
  have sr := sort_rows ne (no_ints ne).1 (no_ints ne).2 (fo_og lc)
  have := fnB_rt (m := 5) (b := s_law_partings) (as := [.fz (.int (s : Int)), .fz (.int (k : Int))]) (by unfold s_law_partings; exact (seq_nx st).trans ((seq_nx e).trans (seq_rt (b := sNx) (ret_ok sr))))
  exact this
/-! the program's -/
theorem dsOf_app : ∀ (a : List D) {b : List Ar} {ds : List D}, dsOf b = some ds → dsOf (a.map Ar.d ++ b) = some (a ++ ds)
  | [], _, _, h => h
  | x :: a, b, ds, h => by
    have := dsOf_app a h
    show (match dsOf (a.map Ar.d ++ b) with
      | some ds => some (x :: ds)
      | none => none) = _
    rw [this]
    rfl
theorem star_g {m : Gam → Out Ar} {ms : Gam → Out (List Ar)} {ds : List D} {as : List Ar} {γ : Gam} (h : m γ = .ok (.d (.tup ds)) γ) (h2 : ms γ = .ok as γ) : aStar m ms γ = .ok (ds.map Ar.d ++ as) γ := by
  unfold aStar
  simp only [h, Out.bind, h2]
theorem with_ok {k : Nat} {r : Row} {n : Int} (hk : r.length = k) (hk6 : k ≤ 6) (hb : ∀ b ∈ r, b.length ≤ 6) : B_blocks_with [.fz (pD r), .fz (.int n)] = .ok (.own (.lst (((List.range k).map (put1 n r)).map pD))) [.fz (pD r), .fz (.int n)] := by
  have hl : (qD r).length = k := (List.length_map _).trans hk
  have len0 : fO (eCall bLen (aCons (oSl 0) aNil)) [.fz (pD r), .fz (.int n), .un] = .ok (.d (.int (k : Int))) [.fz (pD r), .fz (.int n), .un] := by
    have := fo_fz (call_1 (f := bLen) (m := oSl 0) (γ := [.fz (pD r), .fz (.int n), .un]) (a := .sl 0) (d := pD r) rfl rfl (r := .ok (.fz (.int ((qD r).length : Int))) [.fz (pD r), .fz (.int n), .un]) rfl)
    rw [hl] at this
    exact this
  have lc := eLc_mapg (mi := mRng1 (aCons (fO (eCall bLen (aCons (oSl 0) aNil))) aNil)) (vs := [2]) (f := gNm 2) (t := mYes) (e := fO (eTup (aStar (fO (eSl (oSl 0) pNone (pSome (oSl 2)))) (aCons (fO (eTup (aStar (fO (eOp fIxD (oSl 0) (oSl 2))) (aCons (fO (eRd 1)) aNil)))) (aStar (fO (eSl (oSl 0) (pSome (fO (eOp fAdd (oSl 2) (fO (eC (.int 1)))))) pNone)) aNil))))) (γ0 := [.fz (pD r), .fz (.int n), .un]) (γ1 := [.fz (pD r), .fz (.int n), .un]) (γ := [.fz (pD r), .fz (.int n), .un])
    (fun j : Nat => D.int (Int.ofNat j)) (fun j => [.fz (pD r), .fz (.int n), .fz (.int (Int.ofNat j))]) (fun _ => true) (fun j => pD (put1 n r j)) (List.range k)
    (range1g len0 rfl rfl (by omega)) rfl (fun _ _ => rfl) (fun _ _ => rfl) (fun j hj _ => by
      have hj := List.mem_range.mp hj
      have hbj : (r.getD j []).length ≤ 6 := by
        rw [List.getD_eq_getElem?_getD, List.getElem?_eq_getElem (show j < r.length by omega)]
        exact hb _ (List.getElem_mem _)
      generalize hγ : ([.fz (pD r), .fz (.int n), .fz (.int (Int.ofNat j))] : Gam) = γ
      have g0 : γ[0]? = some (.fz (pD r)) := by rw [← hγ]; rfl
      have o0 : oSl 0 γ = .ok (.sl 0) γ := by unfold oSl; rw [g0]
      have l0 := look_fz g0
      have g2 : γ[2]? = some (.fz (.int (Int.ofNat j))) := by rw [← hγ]; rfl
      have o2 : oSl 2 γ = .ok (.sl 2) γ := by unfold oSl; rw [g2]
      have l2 := look_fz g2
      have r1 : fO (eRd 1) γ = .ok (.d (.int n)) γ := by rw [← hγ]; rfl
      have e1 := fo_fz (sl_hi (i := Int.ofNat j) (k := j) o0 l0 o2 l2 rfl (by omega))
      have ix : fO (eOp fIxD (oSl 0) (oSl 2)) γ = .ok (.d (.tup (intD (r.getD j [])))) γ := fo_fz (op_v (a := .sl 0) (b := .sl 2) o0 o2 l0 l2 (fIx_tup j rfl (q_get (by omega))))
      have t2 := fo_fz (tup_g (star_g ix (ac_g r1 (show aNil γ = .ok [] γ from rfl))) (dsOf_app _ (show dsOf [Ar.d (.int n)] = some [.int n] from rfl)) (fitN_of (by rw [List.length_append, intD_len]; show _ + 1 ≤ 100000; omega)))
      have p2 : fO (eOp fAdd (oSl 2) (fO (eC (.int 1)))) γ = .ok (.d (.int (Int.ofNat j + 1))) γ := fo_fz (op_v (a := .sl 2) (b := .d (.int 1)) o2 rfl l2 rfl rfl)
      have e4 := fo_fz (sl_lo (i := Int.ofNat j + 1) (k := j + 1) o0 l0 p2 rfl (by show (j : Int) + 1 = _; omega) (by omega))
      have q := star_g e1 (ac_g t2 (star_g e4 (show aNil γ = .ok [] γ from rfl)))
      have dd : dsOf ((List.take j (qD r)).map Ar.d ++ Ar.d (.tup (intD (r.getD j []) ++ [.int n])) :: ((List.drop (j + 1) (qD r)).map Ar.d ++ [])) = some (List.take j (qD r) ++ (.tup (intD (r.getD j []) ++ [.int n]) :: (List.drop (j + 1) (qD r) ++ []))) := dsOf_app _ (by
        have := dsOf_app (List.drop (j + 1) (qD r)) (show dsOf [] = some [] from rfl)
        show (match dsOf ((List.drop (j + 1) (qD r)).map Ar.d ++ []) with
          | some ds => some (_ :: ds)
          | none => none) = _
        rw [this])
      have fin := fo_fz (tup_g q dd (fitN_of (by simp only [List.length_append, List.length_take, List.length_drop, List.length_cons, List.length_nil]; omega)))
      have eq : List.take j (qD r) ++ (D.tup (intD (r.getD j []) ++ [.int n]) :: (List.drop (j + 1) (qD r) ++ [])) = qD (put1 n r j) := by
        rw [← qD_put1, List.append_nil, List.append_assoc]
        rfl
      rw [eq] at fin
      exact fin) (fun _ _ => rfl) (by rw [List.length_range]; omega)
  rw [filter_yes] at lc
  refine fnB_rt (γ := [.fz (pD r), .fz (.int n), .un]) ?_
  unfold s_blocks_with
  rw [List.map_map]
  exact seq_rt (ret_ok lc)
theorem partings_in_ok {k s : Nat} (h1 : 1 ≤ k) (hk : k ≤ 6) (hs : s ≤ 6) (hG : ∀ i, i ≤ s → (gen k i).length * k ≤ 90000) :
    B_partings_in [.fz (.int (s : Int)), .fz (.int (k : Int))] = .ok (.own (.lst ((rowsP k s).map rowII))) [.fz (.int (s : Int)), .fz (.int (k : Int))] := by
  have st := start_ok h1 hk (γ := [.fz (.int (s : Int)), .fz (.int (k : Int)), .un, .un, .un, .un, .un]) (γ2 := [.fz (.int (s : Int)), .fz (.int (k : Int)), .own (.lst ((gen k 0).map pD)), .un, .un, .un, .un]) rfl rfl
  obtain ⟨γ', e, S3, i3, rfl⟩ := for_preg (f := gNm 3) (b := (sSeq (sSet 2 (eLc2 (mIter (fO (eRd 2))) [4, 5] (gNm 4) mYes (mIter (fO (eCallN 2 F_blocks_with (aCons (fO (eRd 4)) (aCons (fO (eRd 3)) aNil))))) [5] (gNm 5) mYes (fO (eRd 5)))) sNx)) (fun x : Nat => D.int (Int.ofNat (1 + x)))
    (γ0 := [.fz (.int (s : Int)), .fz (.int (k : Int)), .own (.lst ((gen k 0).map pD)), .un, .un, .un, .un]) (γ := [.fz (.int (s : Int)), .fz (.int (k : Int)), .own (.lst ((gen k 0).map pD)), .un, .un, .un, .un])
    (fun pre γ => ∃ S3, S3.isIo = false ∧ γ = [.fz (.int (s : Int)), .fz (.int (k : Int)), .own (.lst ((gen k pre.length).map pD)), S3, .un, .un, .un]) (List.range s)
    (rg_from1 hs rfl) ⟨.un, rfl, rfl⟩ (by
      rintro pre x post γ e ⟨S3, i3, rfl⟩
      obtain ⟨hx, hp⟩ := range_at e
      have hg := hG pre.length (by omega)
      have fl := flat_len (k := k) (n := Int.ofNat (1 + x)) (gen k pre.length)
      generalize hfs : gen k pre.length = fs at hg fl
      have hrs : ∀ r ∈ fs, r.length = k ∧ ∀ b ∈ r, b.length ≤ 6 := fun r hr => by
        rw [← hfs] at hr
        exact ⟨gen_len k _ r hr, fun b hb => by have := gen_bl k _ r hr b hb; omega⟩
      have l2 := lc2_map (vs := [4, 5]) (vs1 := [5]) (f := gNm 4) (f1 := gNm 5) (mi1 := mIter (fO (eCallN 2 F_blocks_with (aCons (fO (eRd 4)) (aCons (fO (eRd 3)) aNil))))) (e := fO (eRd 5)) (γ := [.fz (.int (s : Int)), .fz (.int (k : Int)), .fz (.lst (fs.map pD)), .fz (.int (Int.ofNat (1 + x))), .un, .un, .un]) pD (fun r => [.fz (.int (s : Int)), .fz (.int (k : Int)), .fz (.lst (fs.map pD)), .fz (.int (Int.ofNat (1 + x))), .fz (pD r), .un, .un]) (fun r => [.fz (.int (s : Int)), .fz (.int (k : Int)), .fz (.lst (fs.map pD)), .fz (.int (Int.ofNat (1 + x))), .fz (pD r), .un, .un]) (fun r => (List.range k).map (put1 (Int.ofNat (1 + x)) r)) pD (fun r y => [.fz (.int (s : Int)), .fz (.int (k : Int)), .fz (.lst (fs.map pD)), .fz (.int (Int.ofNat (1 + x))), .fz (pD r), .fz (pD y), .un]) pD fs 0
        (fun _ _ => rfl) (fun r hr => iter_l (fo_own (callN_2 (F := F_blocks_with) (d1 := pD r) (d2 := .int (Int.ofNat (1 + x))) rfl rfl (with_ok (hrs r hr).1 hk (hrs r hr).2)))) (fun _ _ => rfl) (fun _ _ _ _ => rfl) (fun _ _ _ _ => rfl) (fun _ _ _ _ => rfl) (fun _ _ => rfl) (by rw [fl]; omega)
      have e2 : eLc2 (mIter (fO (eRd 2))) [4, 5] (gNm 4) mYes (mIter (fO (eCallN 2 F_blocks_with (aCons (fO (eRd 4)) (aCons (fO (eRd 3)) aNil))))) [5] (gNm 5) mYes (fO (eRd 5)) [.fz (.int (s : Int)), .fz (.int (k : Int)), .own (.lst (fs.map pD)), .fz (.int (Int.ofNat (1 + x))), .un, .un, .un] = .ok (.own (.lst ((step1 k (Int.ofNat (1 + x)) fs).map pD))) [.fz (.int (s : Int)), .fz (.int (k : Int)), .fz (.lst (fs.map pD)), .fz (.int (Int.ofNat (1 + x))), .un, .un, .un] := by
        unfold eLc2
        rw [show mIter (fO (eRd 2)) [.fz (.int (s : Int)), .fz (.int (k : Int)), .own (.lst (fs.map pD)), .fz (.int (Int.ofNat (1 + x))), .un, .un, .un] = .ok (fs.map pD) [.fz (.int (s : Int)), .fz (.int (k : Int)), .fz (.lst (fs.map pD)), .fz (.int (Int.ofNat (1 + x))), .un, .un, .un] from rfl]
        simp only [Out.bind]
        rw [show unO [4, 5] [.fz (.int (s : Int)), .fz (.int (k : Int)), .fz (.lst (fs.map pD)), .fz (.int (Int.ofNat (1 + x))), .un, .un, .un] = some [.fz (.int (s : Int)), .fz (.int (k : Int)), .fz (.lst (fs.map pD)), .fz (.int (Int.ofNat (1 + x))), .un, .un, .un] from rfl]
        simp only
        rw [l2]
        rfl
      have g2 := set_g (i := 2) (γ2 := [.fz (.int (s : Int)), .fz (.int (k : Int)), .own (.lst ((step1 k (Int.ofNat (1 + x)) fs).map pD)), .fz (.int (Int.ofNat (1 + x))), .un, .un, .un]) e2 rfl
      refine ⟨_, _, ?_, (seq_nx g2).trans rfl, .fz (.int (Int.ofNat (1 + x))), rfl, ?_⟩
      · show (match S3.isIo with | true => none | false => some _) = _
        rw [i3]
        rfl
      · rw [List.length_append, hx, ← hfs]
        rfl)
  rw [List.length_range] at e
  have gl : (gen k s).length ≤ 90000 := Nat.le_trans (Nat.le_mul_of_pos_right _ h1) (hG s (Nat.le_refl _))
  have lc := eLc_mapg (mi := mIter (fO (eRd 2))) (vs := [4]) (f := gNm 4) (t := toT (eCall bAll (aCons (fO (eLc (mIter (fO (eRd 4))) [6] (gNm 6) mYes (fO (eOp (fEqD true) (oSl 6) (fO (eTup aNil)))))) aNil))) (e := fO (eRd 4)) (γ0 := [.fz (.int (s : Int)), .fz (.int (k : Int)), .own (.lst ((gen k s).map pD)), S3, .un, .un, .un]) (γ1 := [.fz (.int (s : Int)), .fz (.int (k : Int)), .fz (.lst ((gen k s).map pD)), S3, .un, .un, .un]) (γ := [.fz (.int (s : Int)), .fz (.int (k : Int)), .fz (.lst ((gen k s).map pD)), S3, .un, .un, .un])
    pD (fun r => [.fz (.int (s : Int)), .fz (.int (k : Int)), .fz (.lst ((gen k s).map pD)), S3, .fz (pD r), .un, .un]) okRow pD (gen k s)
    rfl rfl (fun _ _ => rfl) (fun r hr => by
      have lr := gen_len k s r hr
      have li := eLc_mapg (mi := mIter (fO (eRd 4))) (vs := [6]) (f := gNm 6) (t := mYes) (e := fO (eOp (fEqD true) (oSl 6) (fO (eTup aNil)))) (γ0 := [.fz (.int (s : Int)), .fz (.int (k : Int)), .fz (.lst ((gen k s).map pD)), S3, .fz (pD r), .un, .un]) (γ1 := [.fz (.int (s : Int)), .fz (.int (k : Int)), .fz (.lst ((gen k s).map pD)), S3, .fz (pD r), .un, .un]) (γ := [.fz (.int (s : Int)), .fz (.int (k : Int)), .fz (.lst ((gen k s).map pD)), S3, .fz (pD r), .un, .un])
        (fun b : List Int => D.tup (intD b)) (fun b => [.fz (.int (s : Int)), .fz (.int (k : Int)), .fz (.lst ((gen k s).map pD)), S3, .fz (pD r), .un, .fz (.tup (intD b))]) (fun _ => true) (fun b => D.bl (!b.isEmpty)) r
        rfl rfl (fun _ _ => rfl) (fun _ _ => rfl) (fun b _ _ => fo_fz (op_v (f := fEqD true) (a := .sl 6) (b := .d (.tup [])) rfl rfl rfl rfl (by
          have := fEq_tup true b []
          refine Eq.trans this ?_
          cases b <;> rfl))) (fun _ _ => rfl) (by omega)
      rw [filter_yes] at li
      exact tT_v (all_ok li)) (fun _ _ _ => rfl) (fun _ _ => rfl) (by omega)
  have ne : ∀ r ∈ (gen k s).filter okRow, 1 ≤ r.length := fun r hr => by rw [gen_len k s r (List.mem_filter.mp hr).1]; exact h1
  have sr := sort_rows ne (no_ints ne).1 (no_ints ne).2 (fo_og lc)
  have := fnB_rt (m := 5) (b := s_partings_in) (as := [.fz (.int (s : Int)), .fz (.int (k : Int))]) (by unfold s_partings_in; exact (seq_nx st).trans ((seq_nx e).trans (seq_rt (b := sNx) (ret_ok sr))))
  exact this
end T

-- text X9
set_option Elab.async false
set_option linter.all false
set_option maxRecDepth 100000
set_option maxHeartbeats 4000000
namespace T
open PySem L2
def partsL (s b : Nat) : List D := (rowsP b s).map rowII
theorem genGo_ok {A B : Sl} : ∀ (xs acc : List D) (S2 : Sl), S2.isIo = false → acc.length + xs.length ≤ 90000 → ∃ S2', genGo (gNm 2) (eRd 2) xs acc [A, B, S2] = .ok (acc ++ xs) [A, B, S2']
  | [], acc, S2, _, _ => ⟨S2, by rw [List.append_nil]; rfl⟩
  | x :: xs, acc, S2, h, hl => by
    rw [List.length_cons] at hl
    obtain ⟨S2', e⟩ := genGo_ok (A := A) (B := B) xs (acc ++ [x]) (.fz x) rfl (by rw [List.length_append]; show acc.length + 1 + xs.length ≤ 90000; omega)
    refine ⟨S2', ?_⟩
    have g : gNm 2 x [A, B, S2] = some [A, B, .fz x] := by
      show (match S2.isIo with | true => none | false => some _) = _
      rw [h]
      rfl
    have hb : Nat.blt acc.length 16777216 = true := by rw [Nat.blt_eq]; omega
    have r : eRd 2 [A, B, .fz x] = .ok (.fz x) [A, B, .fz x] := rfl
    unfold genGo
    simp only [g, r, hb]
    rw [e, List.append_assoc]
    rfl
theorem req_blocks {s b : Nat} (hs : s ≤ 6) (h1 : 1 ≤ b) (hb : b ≤ s) : B_require_blocks [.fz (.int (s : Int)), .fz (.int (b : Int))] = .ok (.fz .non) [.fz (.int (s : Int)), .fz (.int (b : Int))] := by
  have rp : B_require_parted [.fz (.int (s : Int))] = .ok (.fz .non) [.fz (.int (s : Int))] := by
    have w := within_int (s : Int) 1 6
    rw [decide_eq_true (show (1 : Int) ≤ (s : Int) by omega), decide_eq_true (show (s : Int) ≤ 6 by omega)] at w
    have c := if_f (a := sSeq sBad sNx) (b := sNx) (not_v (tT_v (callN_3 (F := F_is_within) (m1 := fO (eRd 0)) (m2 := fO (eC (.int 1))) (m3 := fO (eC (.int 6))) (γ := [.fz (.int (s : Int))]) rfl rfl rfl w)))
    refine fnB_nx (γ := [.fz (.int (s : Int))]) ?_
    unfold s_require_parted
    exact (seq_nx (c.trans rfl)).trans rfl
  have w := within_int (b : Int) 1 (s : Int)
  rw [decide_eq_true (show (1 : Int) ≤ (b : Int) by omega), decide_eq_true (show (b : Int) ≤ (s : Int) by omega)] at w
  have c := if_f (a := sSeq sBad sNx) (b := sNx) (not_v (tT_v (callN_3 (F := F_is_within) (m1 := fO (eRd 1)) (m2 := fO (eC (.int 1))) (m3 := fO (eRd 0)) (γ := [.fz (.int (s : Int)), .fz (.int (b : Int))]) rfl rfl rfl w)))
  refine fnB_nx (γ := [.fz (.int (s : Int)), .fz (.int (b : Int))]) ?_
  unfold s_require_blocks
  exact (seq_nx (ex_ok (callN_1 (F := F_require_parted) rfl rp))).trans ((seq_nx (c.trans rfl)).trans rfl)
theorem rowsP_len {k s : Nat} : (rowsP k s).length ≤ (gen k s).length := by
  unfold rowsP
  rw [(srtW_perm (lt := lexII) _).length_eq]
  exact List.length_filter_le _ _
theorem gen_partings {s b : Nat} (hs : s ≤ 6) (h1 : 1 ≤ b) (hb : b ≤ s) (hG : ∀ i, i ≤ s → (gen b i).length * b ≤ 90000) : B_partings [.fz (.int (s : Int)), .fz (.int (b : Int))] = .ok (partsL s b) [.fz (.int (s : Int)), .fz (.int (b : Int))] := by
  have hl : (partsL s b).length ≤ 90000 := by
    have h2 : (gen b s).length ≤ 90000 := Nat.le_trans (Nat.le_mul_of_pos_right _ h1) (hG s (Nat.le_refl _))
    unfold partsL
    rw [List.length_map]
    exact Nat.le_trans rowsP_len h2
  have pr : sExpr (eCallN 2 F_require_blocks (aCons (fO (eRd 0)) (aCons (fO (eRd 1)) aNil))) [.fz (.int (s : Int)), .fz (.int (b : Int)), .un] = .nx [.fz (.int (s : Int)), .fz (.int (b : Int)), .un] := ex_ok (callN_2 (F := F_require_blocks) rfl rfl (req_blocks hs h1 hb))
  have mi := iter_l (fo_own (callN_2 (F := F_partings_in) (γ := [.fz (.int (s : Int)), .fz (.int (b : Int)), .un]) (m1 := fO (eRd 0)) (m2 := fO (eRd 1)) rfl rfl (partings_in_ok h1 (by omega) hs hG)))
  obtain ⟨S2, e⟩ := genGo_ok (A := .fz (.int (s : Int))) (B := .fz (.int (b : Int))) (partsL s b) [] .un rfl (by simpa using hl)
  unfold B_partings fnG
  rw [show ([.fz (.int (s : Int)), .fz (.int (b : Int))] ++ List.replicate 1 Sl.un : Gam) = [.fz (.int (s : Int)), .fz (.int (b : Int)), .un] from rfl, pr]
  show (match mIter _ _ with
    | .ok items γ1 => _
    | _ => _) = _
  rw [mi]
  show (match genGo (gNm 2) (eRd 2) (partsL s b) [] [.fz (.int (s : Int)), .fz (.int (b : Int)), .un] with
    | .ok out γ2 => Out.ok out (ioOut [.fz (.int (s : Int)), .fz (.int (b : Int))] γ2)
    | _ => .bad) = _
  rw [e]
  rfl
theorem eqdL_ii : ∀ r : Row, eqdL (r.map rowI) (r.map rowI) = true
  | [] => rfl
  | b :: r => by
    show (eqd (rowI b) (rowI b) && eqdL (r.map rowI) (r.map rowI)) = true
    rw [eqdL_ii r, Bool.and_true]
    have := eqdL_intD b b
    rw [intD_map] at this
    show eqdL (b.map .int) (b.map .int) = true
    rw [this]
    simp
theorem eqdL_rows : ∀ rs : List Row, eqdL (rs.map rowII) (rs.map rowII) = true
  | [] => rfl
  | r :: rs => by
    show (eqd (rowII r) (rowII r) && eqdL (rs.map rowII) (rs.map rowII)) = true
    rw [eqdL_rows rs, Bool.and_true]
    exact eqdL_ii r
theorem shL_rowsII : ∀ rs : List Row, shL 11 (rs.map rowII) = true
  | [] => rfl
  | r :: rs => by
    show (shD 11 (rowII r) && shL 11 (rs.map rowII)) = true
    rw [shL_rowsII rs, Bool.and_true, ← pD_rowII]
    have : ∀ r : Row, shL 10 (qD r) = true := fun r => by
      induction r with
      | nil => rfl
      | cons b r ih =>
        show (shD 10 (.tup (intD b)) && shL 10 (qD r)) = true
        rw [ih, Bool.and_true]
        exact shL_intD 9 b
    exact this r
theorem ne_self {s b : Nat} : fEqD true (.lst (partsL s b)) (.lst (partsL s b)) = some (.val (.bl false)) := by
  show fEq true _ _ = _
  unfold fEq
  have s1 : shD 12 (.lst (partsL s b)) = true := by unfold shD; exact shL_rowsII _
  rw [s1]
  show some (BR.val (.bl (if true = true then !(eqdL (partsL s b) (partsL s b)) else _))) = _
  unfold partsL
  rw [eqdL_rows]
  rfl
theorem callG_2 {F : Gam → Out (List D)} {m1 m2 : Gam → Out Ar} {γ : Gam} {d1 d2 : D} {x : List D} (h1 : m1 γ = .ok (.d d1) γ) (h2 : m2 γ = .ok (.d d2) γ) (h : F [.fz d1, .fz d2] = .ok x [.fz d1, .fz d2]) : eListG 2 F (aCons m1 (aCons m2 aNil)) γ = .ok (.own (.lst x)) γ := by
  simp only [eListG, aCons, aNil, Out.bind, h1, h2, disA, mkArgs, mkArg, Nat.beq, List.length_cons, List.length_nil, Bool.and_self, h, putArgs]
abbrev c1b : Gam → Out Bool := (toT (eOp (fEqD true) (fO (eProp 1 F_Poly_rows (fO (eCallN 2 F_parting_polynomial (aCons (fO (eRd 1)) (aCons (fO (eRd 2)) aNil)))))) (fO (eCallN 1 F_law_rows (aCons (fO (eCallN 1 F_law_by_upside (aCons (fO (eRd 3)) aNil))) aNil)))))
abbrev if2 : Gam → OutS := (sIf (toT (eOp (fEqD true) (fO (eCallN 1 F_law_rows (aCons (fO (eCallN 2 F_law_parted (aCons (fO (eRd 1)) (aCons (fO (eRd 2)) aNil)))) aNil))) (fO (eCallN 1 F_law_rows (aCons (fO (eCallN 1 F_law_by_upside (aCons (fO (eRd 3)) aNil))) aNil))))) (sSeq (sRet (eC (.bl false))) sNx) sNx)
theorem ioOut_1 {a : D} : ∀ γ : Gam, ioOut [.fz a] γ = [.fz a]
  | [] => rfl
  | _ :: _ => rfl
theorem ioOut_2 {a b : D} : ∀ γ : Gam, ioOut [.fz a, .fz b] γ = [.fz a, .fz b]
  | [] => rfl
  | [_] => rfl
  | _ :: _ :: _ => rfl
theorem fnB_o1 {m : Nat} {b : Gam → OutS} {a : D} {r : R} {γ : Gam} (h : fnB m b [.fz a] = .ok r γ) : γ = [.fz a] := by
  unfold fnB at h
  split at h
  · cases h; exact ioOut_1 _
  · cases h; exact ioOut_1 _
  · cases h
  · cases h
def valF : Out R → Option D
  | .ok (.fz d) _ => some d
  | _ => none
theorem valF_1 {m : Nat} {b : Gam → OutS} {a d : D} (h : valF (fnB m b [.fz a]) = some d) : fnB m b [.fz a] = .ok (.fz d) [.fz a] := by
  cases e : fnB m b [.fz a] with
  | bad => rw [e] at h; cases h
  | er x γ => rw [e] at h; cases h
  | ok r γ =>
    rw [e] at h
    cases r with
    | own d' => cases h
    | fz d' =>
      cases h
      rw [fnB_o1 e]
def chkI (v : D) : Bool := match valF (B_inversions_in [.fz v]), valF (B_law_upside [.fz v]) with
  | some (.int n), some (.int m) => decide (n = m) && (decide (0 ≤ n) && decide (n ≤ 15))
  | _, _ => false
def goodRow (s : Nat) (r : Row) : Bool := (r.map mkB).all (Bk.blk s) && isAll s ((r.map mkB).flatMap Bk.is)
theorem bAny_map {α : Type} (g : α → Bool) (xs : List α) : bAny [.lst (xs.map fun x => D.bl (g x))] = some (.val (.bl (xs.any g))) := by
  unfold bAny
  dsimp only
  rw [boolsOf_map]
  simp [List.any_map]
theorem inv_ok {s : Nat} {q : Row} (h : Pq s q) (h1 : 1 ≤ s) (hs : s ≤ 6) (g : goodRow s q = true) {d : D} (e : B_inversions_in [.fz (pD q)] = .ok (.fz d) [.fz (pD q)]) : B_inversions [.fz (pD q)] = .ok (.fz d) [.fz (pD q)] := by
  have pe : pD q = .tup ((q.map mkB).map Bk.d) := by rw [← qD_mk]
  have bk : Bks (q.map mkB) := by
    have := flat_le (q.map mkB) h.sm
    have := h.n1
    rw [List.length_map] at *
    exact ⟨fun b hb => (h.sm b hb).ok, by rw [List.length_map]; omega, by omega⟩
  have lc := eLc_mapg (mi := mRng2 (aCons (fO (eC (.int 1))) (aCons (fO (eOp fAdd (fO (eC (.int 6))) (fO (eC (.int 1))))) aNil))) (vs := [1]) (f := gNm 1) (t := mYes) (e := fO (eCallN 2 F_is_parting_in (aCons (fO (eRd 1)) (aCons (fO (eRd 0)) aNil)))) (γ0 := [.fz (pD q), .un]) (γ1 := [.fz (pD q), .un]) (γ := [.fz (pD q), .un])
    (fun x : Nat => D.int (Int.ofNat (1 + x))) (fun x => [.fz (pD q), .fz (.int (Int.ofNat (1 + x)))]) (fun _ => true) (fun x => D.bl (goodRow (1 + x) q)) (List.range 6)
    (range2 (m := fO (eC (.int 1))) (a := .d (.int 1)) (b := .d (.int 7)) (i := 1) (j := 7) (lo := 1) (k := 6) rfl rfl rfl rfl rfl rfl (by decide)) rfl (fun _ _ => rfl) (fun _ _ => rfl) (fun x hx _ => by
      have hx := List.mem_range.mp hx
      have := parting_in_ok (s := 1 + x) (by omega) bk
      rw [← pe] at this
      exact fo_fz (callN_2 (F := F_is_parting_in) (γ := [.fz (pD q), .fz (.int (Int.ofNat (1 + x)))]) (d1 := .int (Int.ofNat (1 + x))) (d2 := pD q) rfl rfl this)) (fun _ _ => rfl) (by decide)
  rw [filter_yes] at lc
  have an : ((List.range 6).any fun x => goodRow (1 + x) q) = true := List.any_eq_true.mpr ⟨s - 1, List.mem_range.mpr (by omega), by rw [show 1 + (s - 1) = s by omega]; exact g⟩
  have al := tT_v (call_1 (f := bAny) (fo_og lc) rfl (r := .ok (.fz (.bl ((List.range 6).any fun x => goodRow (1 + x) q))) [.fz (pD q), .un]) (by rw [bAny_map]; rfl))
  rw [an] at al
  have c := if_f (a := sSeq sBad sNx) (b := sNx) (not_v al)
  refine fnB_rt (γ := [.fz (pD q), .un]) ?_
  unfold s_inversions
  exact (seq_nx (c.trans rfl)).trans (seq_rt (ret_ok (callN_1 (F := F_inversions_in) rfl e)))
def toQ : List D → Option (List (List Int))
  | [] => some []
  | .tup ds :: r => (match intsOf ds with
    | some l => (match toQ r with
      | some q => some (l :: q)
      | none => none)
    | none => none)
  | _ => none
theorem toQ_ok : ∀ {ds : List D} {q : List (List Int)}, toQ ds = some q → ds = qD q
  | [], q, h => by cases h; rfl
  | .tup ds :: r, q, h => by
    unfold toQ at h
    split at h
    · rename_i l e
      split at h
      · rename_i q' e'
        cases h
        have := toQ_ok e'
        rw [this]
        have hi : ds = intD l := by
          have : ∀ (ds : List D) (l : List Int), intsOf ds = some l → ds = intD l := fun ds => by
            induction ds with
            | nil => intro l h; cases h; rfl
            | cons a ds ih =>
              intro l h
              cases a with
              | int i =>
                unfold intsOf at h
                split at h
                · rename_i l' e
                  cases h
                  rw [ih l' e]
                  rfl
                · cases h
              | _ => cases h
          exact this ds l e
        rw [hi]
        rfl
      · cases h
    · cases h
  | .non :: _, q, h => by cases h
  | .bl _ :: _, q, h => by cases h
  | .int _ :: _, q, h => by cases h
  | .str _ :: _, q, h => by cases h
  | .lst _ :: _, q, h => by cases h
  | .dct _ _ _ :: _, q, h => by cases h
  | .ty _ :: _, q, h => by cases h
  | .fn _ :: _, q, h => by cases h
  | .frz _ :: _, q, h => by cases h
  | .obj _ _ :: _, q, h => by cases h
  | .vw _ _ _ :: _, q, h => by cases h
def chkQ (s : Nat) (v : D) : Bool := match v with
  | .tup ds => (match toQ ds with
    | some q => Nat.ble 1 q.length && (Nat.ble q.length 6 && (q.all fun b => Nat.ble 1 b.length && (Nat.ble b.length 6 && (b.all fun x => decide (1 ≤ x) && decide (x ≤ 6))))) && (goodRow s q && chkI v)
    | none => false)
  | _ => false
theorem chkQ_ok {s : Nat} (hs1 : 1 ≤ s) (hs6 : s ≤ 6) {v : D} (h : chkQ s v = true) : ∃ q, v = pD q ∧ Pq s q ∧ ∃ n : Nat, n ≤ 15 ∧ B_inversions [.fz v] = .ok (.fz (.int (n : Int))) [.fz v] ∧ B_law_upside [.fz v] = .ok (.fz (.int (n : Int))) [.fz v] := by
  cases v with
  | tup ds =>
    have h1 : (match toQ ds with
      | some q => Nat.ble 1 q.length && (Nat.ble q.length 6 && (q.all fun b => Nat.ble 1 b.length && (Nat.ble b.length 6 && (b.all fun x => decide (1 ≤ x) && decide (x ≤ 6))))) && (goodRow s q && chkI (.tup ds))
      | none => false) = true := h
    cases e : toQ ds with
    | none => rw [e] at h1; cases h1
    | some q =>
      rw [e] at h1
      have h2 : (Nat.ble 1 q.length && (Nat.ble q.length 6 && (q.all fun b => Nat.ble 1 b.length && (Nat.ble b.length 6 && (b.all fun x => decide (1 ≤ x) && decide (x ≤ 6))))) && (goodRow s q && chkI (.tup ds))) = true := h1
      rw [Bool.and_eq_true, Bool.and_eq_true, Bool.and_eq_true, Bool.and_eq_true] at h2
      obtain ⟨⟨a, b, c⟩, gr, i⟩ := h2
      have cc : ∀ x ∈ q, 1 ≤ x.length ∧ x.length ≤ 6 ∧ ∀ y ∈ x, 1 ≤ y ∧ y ≤ 6 := fun x hx => by
        have := List.all_eq_true.mp c x hx
        rw [Bool.and_eq_true, Bool.and_eq_true] at this
        obtain ⟨t1, t2, t3⟩ := this
        refine ⟨Nat.le_of_ble_eq_true t1, Nat.le_of_ble_eq_true t2, fun y hy => ?_⟩
        have := List.all_eq_true.mp t3 y hy
        rw [Bool.and_eq_true] at this
        exact ⟨of_decide_eq_true this.1, of_decide_eq_true this.2⟩
      have pq : Pq s q := ⟨Nat.le_of_ble_eq_true a, Nat.le_of_ble_eq_true b, fun x hx => (cc x hx).1, fun x hx => (cc x hx).2.1, fun x hx => (cc x hx).2.2⟩
      have ev : D.tup ds = pD q := by rw [toQ_ok e]
      rw [ev] at i ⊢
      refine ⟨q, rfl, pq, ?_⟩
      unfold chkI at i
      split at i
      · rename_i n m e1 e2
        rw [Bool.and_eq_true, Bool.and_eq_true] at i
        obtain ⟨i1, i2, i3⟩ := i
        have i1 : n = m := of_decide_eq_true i1
        have i2 : 0 ≤ n := of_decide_eq_true i2
        have i3 : n ≤ 15 := of_decide_eq_true i3
        refine ⟨n.toNat, by omega, ?_, ?_⟩
        · rw [show ((n.toNat : Nat) : Int) = n by omega]
          exact inv_ok pq hs1 hs6 gr (valF_1 e1)
        · rw [show ((n.toNat : Nat) : Int) = m by omega]
          exact valF_1 e2
      · cases i
  | _ => cases h
abbrev lastE : Gam → Out R := (eOp (fEqD false) (fO (eMethC 1 2 F_Poly_at (fO (eCallN 2 F_parting_polynomial (aCons (fO (eRd 1)) (aCons (fO (eRd 2)) aNil)))) (aCons (fO (eC (.int 1))) (aCons (fO (eC (.int 1))) aNil)))) (fO (eTup (aCons (fO (eCall bLen (aCons (oSl 3) aNil))) (aCons (fO (eC (.int 1))) aNil)))))
abbrev rLoop : Gam → OutS := (sSeq (sSet 5 (eCallN 2 F_law_one_of (aCons (oSl 0) (aCons (fO (eRd 3)) aNil)))) (sSeq (sIf (toT (eOp (fEqD true) (fO (eCall bReprA (aCons (fO (eCallN 1 F_inversions (aCons (fO (eRd 5)) aNil))) aNil))) (fO (eCall bReprA (aCons (fO (eCallN 1 F_law_upside (aCons (fO (eRd 5)) aNil))) aNil))))) (sSeq (sRet (eC (.bl false))) sNx) sNx) (sSeq (sFor (mIter (fO (eCallN 3 F_law_near_parting (aCons (oSl 0) (aCons (fO (eRd 1)) (aCons (fO (eRd 5)) aNil)))))) (gNm 6) (sSeq (sIf (toT (eOp (fEqD true) (fO (eCall bReprA (aCons (fO (eCallN 2 F_is_parting (aCons (fO (eRd 1)) (aCons (fO (eRd 6)) aNil)))) aNil))) (fO (eCall bReprA (aCons (fO (eCallN 2 F_law_is_parting (aCons (fO (eRd 1)) (aCons (fO (eRd 6)) aNil)))) aNil))))) (sSeq (sRet (eC (.bl false))) sNx) sNx) sNx)) sNx)))
/-- what is checked for a size and a number of blocks -/
structure Good (s b : Nat) : Prop where
  hG : ((List.range (s + 1)).all fun i => Nat.ble ((gen b i).length * b) 90000) = true
  c1 : ∀ d : D, c1b [.io d, .fz (.int (s : Int)), .fz (.int (b : Int)), .own (.lst (partsL s b)), .un, .un, .un] = .ok false [.io d, .fz (.int (s : Int)), .fz (.int (b : Int)), .fz (.lst (partsL s b)), .un, .un, .un]
  i2 : ∀ d : D, if2 [.io d, .fz (.int (s : Int)), .fz (.int (b : Int)), .fz (.lst (partsL s b)), .un, .un, .un] = .nx [.io d, .fz (.int (s : Int)), .fz (.int (b : Int)), .fz (.lst (partsL s b)), .un, .un, .un]
  q : (partsL s b).all (chkQ s) = true
  len : Nat.ble 1 (partsL s b).length = true
  len2 : Nat.ble (partsL s b).length 1000 = true
  fin : ∀ (d : D) (S4 S5 S6 : Sl), lastE [.io d, .fz (.int (s : Int)), .fz (.int (b : Int)), .fz (.lst (partsL s b)), S4, S5, S6] = .ok (.fz (.bl true)) [.io d, .fz (.int (s : Int)), .fz (.int (b : Int)), .fz (.lst (partsL s b)), S4, S5, S6]
def preS : Gam → OutS := (sSeq (sSet 3 (eCallN 2 F_law_partings (aCons (fO (eRd 1)) (aCons (fO (eRd 2)) aNil)))) (sSeq (sIf (bOr (toT (eOp (fEqD true) (fO (eListG 2 F_partings (aCons (fO (eRd 1)) (aCons (fO (eRd 2)) aNil)))) (oSl 3))) (toT (eOp (fEqD true) (fO (eProp 1 F_Poly_rows (fO (eCallN 2 F_parting_polynomial (aCons (fO (eRd 1)) (aCons (fO (eRd 2)) aNil)))))) (fO (eCallN 1 F_law_rows (aCons (fO (eCallN 1 F_law_by_upside (aCons (fO (eRd 3)) aNil))) aNil)))))) (sSeq (sRet (eC (.bl false))) sNx) sNx) (sSeq (sIf (toT (eOp (fEqD true) (fO (eCallN 1 F_law_rows (aCons (fO (eCallN 2 F_law_parted (aCons (fO (eRd 1)) (aCons (fO (eRd 2)) aNil)))) aNil))) (fO (eCallN 1 F_law_rows (aCons (fO (eCallN 1 F_law_by_upside (aCons (fO (eRd 3)) aNil))) aNil))))) (sSeq (sRet (eC (.bl false))) sNx) sNx) sNx)))
theorem Good.pre {s b : Nat} (g : Good s b) (hs : s ≤ 6) (h1 : 1 ≤ b) (hb : b ≤ s) (d : D) : preS [.io d, .fz (.int (s : Int)), .fz (.int (b : Int)), .un, .un, .un, .un] = .nx [.io d, .fz (.int (s : Int)), .fz (.int (b : Int)), .fz (.lst (partsL s b)), .un, .un, .un] := by
  have hG : ∀ i, i ≤ s → (gen b i).length * b ≤ 90000 := fun i hi => Nat.le_of_ble_eq_true (List.all_eq_true.mp g.hG i (List.mem_range.mpr (by omega)))
  have e3 := set_g (i := 3) (γ2 := [.io d, .fz (.int (s : Int)), .fz (.int (b : Int)), .own (.lst (partsL s b)), .un, .un, .un]) (callN_2 (F := F_law_partings) (γ := [.io d, .fz (.int (s : Int)), .fz (.int (b : Int)), .un, .un, .un, .un]) (m1 := fO (eRd 1)) (m2 := fO (eRd 2)) rfl rfl (law_partings_ok h1 (by omega) hs hG)) rfl
  have c1 := tT_v (op_v (f := fEqD true) (ma := fO (eListG 2 F_partings (aCons (fO (eRd 1)) (aCons (fO (eRd 2)) aNil)))) (mb := oSl 3) (b := .sl 3) (γ := [.io d, .fz (.int (s : Int)), .fz (.int (b : Int)), .own (.lst (partsL s b)), .un, .un, .un]) (fo_own (callG_2 (F := F_partings) (m1 := fO (eRd 1)) (m2 := fO (eRd 2)) rfl rfl (gen_partings hs h1 hb hG))) rfl rfl rfl ne_self)
  have i4 := if_tg (a := sSeq (sRet (eC (.bl false))) sNx) (b := sNx) (or_fg c1 (g.c1 d))
  exact (seq_nx e3).trans ((seq_nx (i4.trans rfl)).trans ((seq_nx (g.i2 d)).trans rfl))
end T

-- text KG11
set_option Elab.async false
set_option linter.all false
set_option maxRecDepth 100000
set_option maxHeartbeats 0
namespace T
open PySem L2 PyProof.Rows
theorem good_1_1 : Good 1 1 where
  hG := by kernel_rfl
  c1 := fun d => by kernel_rfl
  i2 := fun d => by kernel_rfl
  q := by kernel_rfl
  len := by kernel_rfl
  len2 := by kernel_rfl
  fin := fun d S4 S5 S6 => by kernel_rfl
end T

-- text KG21
set_option Elab.async false
set_option linter.all false
set_option maxRecDepth 100000
set_option maxHeartbeats 0
namespace T
open PySem L2 PyProof.Rows
theorem good_2_1 : Good 2 1 where
  hG := by kernel_rfl
  c1 := fun d => by kernel_rfl
  i2 := fun d => by kernel_rfl
  q := by kernel_rfl
  len := by kernel_rfl
  len2 := by kernel_rfl
  fin := fun d S4 S5 S6 => by kernel_rfl
end T

-- text KG22
set_option Elab.async false
set_option linter.all false
set_option maxRecDepth 100000
set_option maxHeartbeats 0
namespace T
open PySem L2 PyProof.Rows
theorem good_2_2 : Good 2 2 where
  hG := by kernel_rfl
  c1 := fun d => by kernel_rfl
  i2 := fun d => by kernel_rfl
  q := by kernel_rfl
  len := by kernel_rfl
  len2 := by kernel_rfl
  fin := fun d S4 S5 S6 => by kernel_rfl
end T

-- text KG31
set_option Elab.async false
set_option linter.all false
set_option maxRecDepth 100000
set_option maxHeartbeats 0
namespace T
open PySem L2 PyProof.Rows
theorem good_3_1 : Good 3 1 where
  hG := by kernel_rfl
  c1 := fun d => by kernel_rfl
  i2 := fun d => by kernel_rfl
  q := by kernel_rfl
  len := by kernel_rfl
  len2 := by kernel_rfl
  fin := fun d S4 S5 S6 => by kernel_rfl
end T

-- text KG32
set_option Elab.async false
set_option linter.all false
set_option maxRecDepth 100000
set_option maxHeartbeats 0
namespace T
open PySem L2 PyProof.Rows
theorem good_3_2 : Good 3 2 where
  hG := by kernel_rfl
  c1 := fun d => by kernel_rfl
  i2 := fun d => by kernel_rfl
  q := by kernel_rfl
  len := by kernel_rfl
  len2 := by kernel_rfl
  fin := fun d S4 S5 S6 => by kernel_rfl
end T

-- text KG33
set_option Elab.async false
set_option linter.all false
set_option maxRecDepth 100000
set_option maxHeartbeats 0
namespace T
open PySem L2 PyProof.Rows
theorem good_3_3 : Good 3 3 where
  hG := by kernel_rfl
  c1 := fun d => by kernel_rfl
  i2 := fun d => by kernel_rfl
  q := by kernel_rfl
  len := by kernel_rfl
  len2 := by kernel_rfl
  fin := fun d S4 S5 S6 => by kernel_rfl
end T

-- text KG41
set_option Elab.async false
set_option linter.all false
set_option maxRecDepth 100000
set_option maxHeartbeats 0
namespace T
open PySem L2 PyProof.Rows
theorem good_4_1 : Good 4 1 where
  hG := by kernel_rfl
  c1 := fun d => by kernel_rfl
  i2 := fun d => by kernel_rfl
  q := by kernel_rfl
  len := by kernel_rfl
  len2 := by kernel_rfl
  fin := fun d S4 S5 S6 => by kernel_rfl
end T

-- text KG42
set_option Elab.async false
set_option linter.all false
set_option maxRecDepth 100000
set_option maxHeartbeats 0
namespace T
open PySem L2 PyProof.Rows
theorem good_4_2 : Good 4 2 where
  hG := by kernel_rfl
  c1 := fun d => by kernel_rfl
  i2 := fun d => by kernel_rfl
  q := by kernel_rfl
  len := by kernel_rfl
  len2 := by kernel_rfl
  fin := fun d S4 S5 S6 => by kernel_rfl
end T

-- text KG43
set_option Elab.async false
set_option linter.all false
set_option maxRecDepth 100000
set_option maxHeartbeats 0
namespace T
open PySem L2 PyProof.Rows
theorem good_4_3 : Good 4 3 where
  hG := by kernel_rfl
  c1 := fun d => by kernel_rfl
  i2 := fun d => by kernel_rfl
  q := by kernel_rfl
  len := by kernel_rfl
  len2 := by kernel_rfl
  fin := fun d S4 S5 S6 => by kernel_rfl
end T

-- text KG44
set_option Elab.async false
set_option linter.all false
set_option maxRecDepth 100000
set_option maxHeartbeats 0
namespace T
open PySem L2 PyProof.Rows
theorem good_4_4 : Good 4 4 where
  hG := by kernel_rfl
  c1 := fun d => by kernel_rfl
  i2 := fun d => by kernel_rfl
  q := by kernel_rfl
  len := by kernel_rfl
  len2 := by kernel_rfl
  fin := fun d S4 S5 S6 => by kernel_rfl
end T

-- text KG51
set_option Elab.async false
set_option linter.all false
set_option maxRecDepth 100000
set_option maxHeartbeats 0
namespace T
open PySem L2 PyProof.Rows
theorem good_5_1 : Good 5 1 where
  hG := by kernel_rfl
  c1 := fun d => by kernel_rfl
  i2 := fun d => by kernel_rfl
  q := by kernel_rfl
  len := by kernel_rfl
  len2 := by kernel_rfl
  fin := fun d S4 S5 S6 => by kernel_rfl
end T

-- text KG52
set_option Elab.async false
set_option linter.all false
set_option maxRecDepth 100000
set_option maxHeartbeats 0
namespace T
open PySem L2 PyProof.Rows
theorem good_5_2 : Good 5 2 where
  hG := by kernel_rfl
  c1 := fun d => by kernel_rfl
  i2 := fun d => by kernel_rfl
  q := by kernel_rfl
  len := by kernel_rfl
  len2 := by kernel_rfl
  fin := fun d S4 S5 S6 => by kernel_rfl
end T

-- text KG53
set_option Elab.async false
set_option linter.all false
set_option maxRecDepth 100000
set_option maxHeartbeats 0
namespace T
open PySem L2 PyProof.Rows
theorem good_5_3 : Good 5 3 where
  hG := by kernel_rfl
  c1 := fun d => by kernel_rfl
  i2 := fun d => by kernel_rfl
  q := by kernel_rfl
  len := by kernel_rfl
  len2 := by kernel_rfl
  fin := fun d S4 S5 S6 => by kernel_rfl
end T

-- text KG54
set_option Elab.async false
set_option linter.all false
set_option maxRecDepth 100000
set_option maxHeartbeats 0
namespace T
open PySem L2 PyProof.Rows
theorem good_5_4 : Good 5 4 where
  hG := by kernel_rfl
  c1 := fun d => by kernel_rfl
  i2 := fun d => by kernel_rfl
  q := by kernel_rfl
  len := by kernel_rfl
  len2 := by kernel_rfl
  fin := fun d S4 S5 S6 => by kernel_rfl
end T

-- text KG55
set_option Elab.async false
set_option linter.all false
set_option maxRecDepth 100000
set_option maxHeartbeats 0
namespace T
open PySem L2 PyProof.Rows
theorem good_5_5 : Good 5 5 where
  hG := by kernel_rfl
  c1 := fun d => by kernel_rfl
  i2 := fun d => by kernel_rfl
  q := by kernel_rfl
  len := by kernel_rfl
  len2 := by kernel_rfl
  fin := fun d S4 S5 S6 => by kernel_rfl
end T

-- text X10
set_option Elab.async false
set_option linter.all false
set_option maxRecDepth 100000
set_option maxHeartbeats 4000000
namespace T
open PySem L2
theorem one_of_ok {d : D} {m : Int} {L : List D} (hd : Dice m d) (hm : m < 999) (h1 : 1 ≤ L.length) (h2 : L.length ≤ 1000) : ∃ v d', v ∈ L ∧ B_law_one_of [.io d, .fz (.lst L)] = .ok (.fz v) [.io d', .fz (.lst L)] ∧ Dice (m + 1) d' := by
  obtain ⟨j, d1, r, hd1, hj⟩ := rollN m d L.length hd hm h1 h2
  have hlen : fO (eCall bLen (aCons (oSl 1) aNil)) (.io d :: [.fz (.lst L)]) = .ok (.d (.int (L.length : Int))) (.io d :: [.fz (.lst L)]) := fo_fz (call_1 (a := .sl 1) (d := .lst L) rfl rfl rfl)
  have rc := fo_fg (roll_call (F := F_law_roll) (d' := d1) hlen r)
  have fin := op_g (f := fIxD) (ma := oSl 1) (a := .sl 1) (γ := [.io d, .fz (.lst L)]) (γ1 := [.io d, .fz (.lst L)]) (x := .lst L) rfl rc rfl rfl (r := .ok (.fz L[j]) [.io d1, .fz (.lst L)]) (by
    show ofB (fIx (.lst L) (.int (Int.ofNat j))) _ = _
    rw [fIx_lst (i := Int.ofNat j) j rfl (List.getElem?_eq_getElem hj)]
    rfl)
  refine ⟨L[j], d1, List.getElem_mem hj, fnB_rt (γ := [.io d1, .fz (.lst L)]) ?_, hd1⟩
  unfold s_law_one_of
  exact seq_rt (ret_ok fin)
def chkR (n : Nat) : Bool := match bReprA [.int (n : Int)] with
  | some (.val (.str x)) => (match fEqD true (.str x) (.str x) with
    | some (.val (.bl false)) => true
    | _ => false)
  | _ => false
theorem chkR_all : ∀ n : Nat, n ≤ 15 → chkR n = true := by decide +kernel
theorem repr_n {n : Nat} (h : n ≤ 15) : ∃ x, bReprA [.int (n : Int)] = some (.val (.str x)) ∧ fEqD true (.str x) (.str x) = some (.val (.bl false)) := by
  have c := chkR_all n h
  unfold chkR at c
  split at c
  · rename_i x e
    split at c
    · rename_i e2
      exact ⟨x, e, e2⟩
    · cases c
  · cases c
abbrev vBody : Gam → OutS := (sSeq (sIf (toT (eOp (fEqD true) (fO (eCall bReprA (aCons (fO (eCallN 2 F_is_parting (aCons (fO (eRd 1)) (aCons (fO (eRd 6)) aNil)))) aNil))) (fO (eCall bReprA (aCons (fO (eCallN 2 F_law_is_parting (aCons (fO (eRd 1)) (aCons (fO (eRd 6)) aNil)))) aNil))))) (sSeq (sRet (eC (.bl false))) sNx) sNx) sNx)
section
variable {s b : Nat}
theorem v_body {v : D} (h : Judged s v) (A B C E F : Sl) : vBody [A, .fz (.int (s : Int)), B, C, E, F, .fz v] = .nx [A, .fz (.int (s : Int)), B, C, E, F, .fz v] := by
  obtain ⟨t, e1, e2⟩ := h
  have q1 := fo_fz (callN_2 (F := F_is_parting) (γ := [A, .fz (.int (s : Int)), B, C, E, F, .fz v]) (m1 := fO (eRd 1)) (m2 := fO (eRd 6)) rfl rfl e1)
  have q2 := fo_fz (callN_2 (F := F_law_is_parting) (γ := [A, .fz (.int (s : Int)), B, C, E, F, .fz v]) (m1 := fO (eRd 1)) (m2 := fO (eRd 6)) rfl rfl e2)
  have r1 := fo_fz (call_1 (f := bReprA) q1 rfl (r := .ok (.fz (.str (bTx t))) [A, .fz (.int (s : Int)), B, C, E, F, .fz v]) rfl)
  have r2 := fo_fz (call_1 (f := bReprA) q2 rfl (r := .ok (.fz (.str (bTx t))) [A, .fz (.int (s : Int)), B, C, E, F, .fz v]) rfl)
  have c := tT_v (op_v (f := fEqD true) r1 r2 rfl rfl (strB t))
  exact (seq_nx ((if_f (a := sSeq (sRet (eC (.bl false))) sNx) (b := sNx) c).trans rfl)).trans rfl
theorem turn_ok (h1 : 1 ≤ s) (hs : s ≤ 6) (g : Good s b) {d : D} {m : Int} (hd : Dice m d) (hm : m < 800) {S4 S5 S6 : Sl} (i5 : S5.isIo = false) (i6 : S6.isIo = false) :
    ∃ d' S5' S6', Dice (m + 2) d' ∧ S5'.isIo = false ∧ S6'.isIo = false ∧ rLoop [.io d, .fz (.int (s : Int)), .fz (.int (b : Int)), .fz (.lst (partsL s b)), S4, S5, S6] = .nx [.io d', .fz (.int (s : Int)), .fz (.int (b : Int)), .fz (.lst (partsL s b)), S4, S5', S6'] := by
  obtain ⟨v, d1, hv, e1, hd1⟩ := one_of_ok hd (by omega) (Nat.le_of_ble_eq_true g.len) (Nat.le_of_ble_eq_true g.len2)
  obtain ⟨q, rfl, pq, n, hn, v1, v2⟩ := chkQ_ok h1 hs (List.all_eq_true.mp g.q v hv)
  generalize partsL s b = L at e1
  have g5 := set_g (i := 5) (γ2 := [.io d1, .fz (.int (s : Int)), .fz (.int (b : Int)), .fz (.lst L), S4, .fz (pD q), S6]) (roll_call (F := F_law_one_of) (m := fO (eRd 3)) (d' := d1) (d := d) (r := [.fz (.int (s : Int)), .fz (.int (b : Int)), .fz (.lst L), S4, S5, S6]) rfl e1) (by
    show (match S5.isIo with | true => none | false => some _) = _
    rw [i5]
    rfl)
  obtain ⟨x, rx, ex⟩ := repr_n hn
  have q1 := fo_fz (callN_1 (F := F_inversions) (γ := [.io d1, .fz (.int (s : Int)), .fz (.int (b : Int)), .fz (.lst L), S4, .fz (pD q), S6]) (m1 := fO (eRd 5)) rfl v1)
  have q2 := fo_fz (callN_1 (F := F_law_upside) (γ := [.io d1, .fz (.int (s : Int)), .fz (.int (b : Int)), .fz (.lst L), S4, .fz (pD q), S6]) (m1 := fO (eRd 5)) rfl v2)
  have r1 := fo_fz (call_1 (f := bReprA) q1 rfl (r := .ok (.fz (.str x)) [.io d1, .fz (.int (s : Int)), .fz (.int (b : Int)), .fz (.lst L), S4, .fz (pD q), S6]) (by rw [rx]; rfl))
  have r2 := fo_fz (call_1 (f := bReprA) q2 rfl (r := .ok (.fz (.str x)) [.io d1, .fz (.int (s : Int)), .fz (.int (b : Int)), .fz (.lst L), S4, .fz (pD q), S6]) (by rw [rx]; rfl))
  have i1 := if_f (a := sSeq (sRet (eC (.bl false))) sNx) (b := sNx) (tT_v (op_v (f := fEqD true) r1 r2 rfl rfl ex))
  obtain ⟨L0, d2, e2, hd2, jd⟩ := near_ok h1 hs pq hd1 (by omega)
  have nc := fo_og (call_R3 (F := F_law_near_parting) (d := d1) (d' := d1) (d'' := d2) (m2 := fO (eRd 1)) (m3 := fO (eRd 5)) (r := [.fz (.int (s : Int)), .fz (.int (b : Int)), .fz (.lst L), S4, .fz (pD q), S6]) rfl rfl e2)
  obtain ⟨γ', e3, S6', i6', rfl⟩ := for_preg (mi := mIter (fO (eCallN 3 F_law_near_parting (aCons (oSl 0) (aCons (fO (eRd 1)) (aCons (fO (eRd 5)) aNil)))))) (f := gNm 6) (b := vBody) (fun x : D => x)
    (γ0 := [.io d1, .fz (.int (s : Int)), .fz (.int (b : Int)), .fz (.lst L), S4, .fz (pD q), S6]) (γ := [.io d2, .fz (.int (s : Int)), .fz (.int (b : Int)), .fz (.lst L), S4, .fz (pD q), S6])
    (fun pre γ => ∃ S6', S6'.isIo = false ∧ γ = [.io d2, .fz (.int (s : Int)), .fz (.int (b : Int)), .fz (.lst L), S4, .fz (pD q), S6']) L0
    (by rw [show L0.map (fun x : D => x) = L0 from List.map_id _]; exact iter_l nc) ⟨S6, i6, rfl⟩ (by
      rintro pre x post γ e ⟨S6', i6', rfl⟩
      refine ⟨_, _, ?_, v_body (jd x (by rw [e]; simp)) _ _ _ _ _, .fz x, rfl, rfl⟩
      show (match S6'.isIo with | true => none | false => some _) = _
      rw [i6']
      rfl)
  exact ⟨d2, .fz (pD q), S6', by rw [show m + 2 = m + 1 + 1 by omega]; exact hd2, rfl, i6', (seq_nx g5).trans ((seq_nx (i1.trans rfl)).trans ((seq_nx e3).trans rfl))⟩
theorem right_ok (G : ∀ s b : Nat, 1 ≤ s → s ≤ 5 → 1 ≤ b → b ≤ s → Good s b) {d : D} {m : Int} (hd : Dice m d) (hm : m < 700) : ∃ d', B_law_right [.io d] = .ok (.fz (.bl true)) [.io d'] ∧ Dice (m + 10) d' := by
  obtain ⟨j, d1, r1, hd1, lj⟩ := rollN m d 5 hd (by omega) (by decide) (by decide)
  obtain ⟨s, hs⟩ : ∃ n, n = 1 + j := ⟨_, rfl⟩
  have e1 : (1 : Int) + Int.ofNat j = (s : Int) := by show (1 : Int) + (j : Int) = _; omega
  obtain ⟨j2, d2, r2, hd2, lj2⟩ := rollN (m + 1) d1 s hd1 (by omega) (by omega) (by omega)
  obtain ⟨b, hb⟩ : ∃ k, k = 1 + j2 := ⟨_, rfl⟩
  have e2 : (1 : Int) + Int.ofNat j2 = (b : Int) := by show (1 : Int) + (j2 : Int) = _; omega
  have q1 := op_g (f := fAdd) (ma := fO (eC (.int 1))) (a := .d (.int 1)) (x := .int 1) (r := .ok (.fz (.int (1 + Int.ofNat j))) [.io d1, .un, .un, .un, .un, .un, .un]) rfl (fo_fg (roll_call (F := F_law_roll) (m := fO (eC (.int 5))) (d2 := .int 5) (r := [.un, .un, .un, .un, .un, .un]) rfl r1)) rfl rfl rfl
  rw [e1] at q1
  have g1 := set_g (i := 1) (γ2 := [.io d1, .fz (.int (s : Int)), .un, .un, .un, .un, .un]) q1 rfl
  have q2 := op_g (f := fAdd) (ma := fO (eC (.int 1))) (a := .d (.int 1)) (x := .int 1) (r := .ok (.fz (.int (1 + Int.ofNat j2))) [.io d2, .fz (.int (s : Int)), .un, .un, .un, .un, .un]) rfl (fo_fg (roll_call (F := F_law_roll) (m := fO (eRd 1)) (r := [.fz (.int (s : Int)), .un, .un, .un, .un, .un]) rfl r2)) rfl rfl rfl
  rw [e2] at q2
  have g2 := set_g (i := 2) (γ2 := [.io d2, .fz (.int (s : Int)), .fz (.int (b : Int)), .un, .un, .un, .un]) q2 rfl
  have g := G s b (by omega) (by omega) (by omega) (by omega)
  have pr := g.pre (by omega) (by omega) (by omega) d2
  obtain ⟨γ', e, d', S4, S5, S6, hd', i4, i5, i6, rfl⟩ := for_preg (mi := mRng1 (aCons (fO (eC (.int 4))) aNil)) (f := gNm 4) (b := rLoop) (fun j : Nat => D.int (Int.ofNat j))
    (γ0 := [.io d2, .fz (.int (s : Int)), .fz (.int (b : Int)), .fz (.lst (partsL s b)), .un, .un, .un]) (γ := [.io d2, .fz (.int (s : Int)), .fz (.int (b : Int)), .fz (.lst (partsL s b)), .un, .un, .un])
    (fun pre γ => ∃ d' S4 S5 S6, Dice (m + 2 + 2 * (pre.length : Int)) d' ∧ S4.isIo = false ∧ S5.isIo = false ∧ S6.isIo = false ∧ γ = [.io d', .fz (.int (s : Int)), .fz (.int (b : Int)), .fz (.lst (partsL s b)), S4, S5, S6]) (List.range 4)
    (range1g (a := .d (.int 4)) (i := 4) rfl rfl rfl (by decide)) ⟨d2, .un, .un, .un, hd2.mono (by simp; omega), rfl, rfl, rfl, rfl⟩ (by
      rintro pre x post γ e ⟨d', S4, S5, S6, hd', i4, i5, i6, rfl⟩
      have hp : pre.length < 4 := by
        have := congrArg List.length e
        rw [List.length_append, List.length_cons, List.length_range] at this
        omega
      obtain ⟨d'', S5', S6', hd'', i5', i6', et⟩ := turn_ok (by omega) (by omega) g hd' (by omega) (S4 := .fz (.int (Int.ofNat x))) i5 i6
      refine ⟨_, _, ?_, et, d'', .fz (.int (Int.ofNat x)), S5', S6', ?_, rfl, i5', i6', rfl⟩
      · show (match S4.isIo with | true => none | false => some _) = _
        rw [i4]
        rfl
      · rw [List.length_append]
        show Dice (m + 2 + 2 * ((pre.length + 1 : Nat) : Int)) d''
        rw [show m + 2 + 2 * ((pre.length + 1 : Nat) : Int) = m + 2 + 2 * (pre.length : Int) + 2 by omega]
        exact hd'')
  have fin := g.fin d' S4 S5 S6
  refine ⟨d', fnB_rt (γ := [.io d', .fz (.int (s : Int)), .fz (.int (b : Int)), .fz (.lst (partsL s b)), S4, S5, S6]) ?_, hd'.mono (by rw [List.length_range]; omega)⟩
  have tl := (seq_nx e).trans (seq_rt (b := sNx) (ret_ok fin))
  have assoc : ∀ (a b c k : Gam → OutS) (γ γ1 : Gam), (sSeq a (sSeq b (sSeq c sNx))) γ = .nx γ1 → (sSeq a (sSeq b (sSeq c k))) γ = k γ1 := fun a b c k γ γ1 h => by
    unfold sNx at h
    unfold sSeq at h ⊢
    cases ha : a γ with
    | nx γa =>
      simp only [ha] at h ⊢
      cases hb : b γa with
      | nx γb =>
        simp only [hb] at h ⊢
        cases hc : c γb with
        | nx γc =>
          simp only [hc] at h ⊢
          cases h
          rfl
        | _ => simp only [hc] at h; cases h
      | _ => simp only [hb] at h; cases h
    | _ => simp only [ha] at h; cases h
  unfold s_law_right
  exact (seq_nx g1).trans ((seq_nx g2).trans ((assoc _ _ _ _ _ _ pr).trans tl))
end
end T

-- text X11
set_option Elab.async false
set_option linter.all false
set_option maxRecDepth 100000
set_option maxHeartbeats 4000000
namespace T
open PySem L2 PyProof.Rows
theorem good_all (s b : Nat) (h1 : 1 ≤ s) (hs : s ≤ 5) (h2 : 1 ≤ b) (hb : b ≤ s) : Good s b := by
  have a : s = 1 ∨ s = 2 ∨ s = 3 ∨ s = 4 ∨ s = 5 := by omega
  rcases a with rfl | rfl | rfl | rfl | rfl
  · obtain rfl : b = 1 := by omega
    exact good_1_1
  · have : b = 1 ∨ b = 2 := by omega
    rcases this with rfl | rfl
    · exact good_2_1
    · exact good_2_2
  · have : b = 1 ∨ b = 2 ∨ b = 3 := by omega
    rcases this with rfl | rfl | rfl
    · exact good_3_1
    · exact good_3_2
    · exact good_3_3
  · have : b = 1 ∨ b = 2 ∨ b = 3 ∨ b = 4 := by omega
    rcases this with rfl | rfl | rfl | rfl
    · exact good_4_1
    · exact good_4_2
    · exact good_4_3
    · exact good_4_4
  · have : b = 1 ∨ b = 2 ∨ b = 3 ∨ b = 4 ∨ b = 5 := by omega
    rcases this with rfl | rfl | rfl | rfl | rfl
    · exact good_5_1
    · exact good_5_2
    · exact good_5_3
    · exact good_5_4
    · exact good_5_5
abbrev c6 : Gam → Out Bool := (toT (eOp (fEqD true) (fO (eProp 1 F_Poly_rows (fO (eCallN 2 F_parting_polynomial (aCons (fO (eC (.int 6))) (aCons (fO (eRd 3)) aNil)))))) (fO (eCallN 1 F_law_rows (aCons (fO (eCallN 2 F_law_parted (aCons (fO (eC (.int 6))) (aCons (fO (eRd 3)) aNil)))) aNil)))))
theorem c6_1 (A B : Sl) (d : D) : c6 [A, B, .own d, .fz (.int 1)] = .ok false [A, B, .own d, .fz (.int 1)] := by kernel_rfl
theorem c6_2 (A B : Sl) (d : D) : c6 [A, B, .own d, .fz (.int 2)] = .ok false [A, B, .own d, .fz (.int 2)] := by kernel_rfl
theorem c6_3 (A B : Sl) (d : D) : c6 [A, B, .own d, .fz (.int 3)] = .ok false [A, B, .own d, .fz (.int 3)] := by kernel_rfl
theorem c6_4 (A B : Sl) (d : D) : c6 [A, B, .own d, .fz (.int 4)] = .ok false [A, B, .own d, .fz (.int 4)] := by kernel_rfl
theorem c6_5 (A B : Sl) (d : D) : c6 [A, B, .own d, .fz (.int 5)] = .ok false [A, B, .own d, .fz (.int 5)] := by kernel_rfl
theorem c6_6 (A B : Sl) (d : D) : c6 [A, B, .own d, .fz (.int 6)] = .ok false [A, B, .own d, .fz (.int 6)] := by kernel_rfl
theorem c6_ok (b : Nat) (h1 : 1 ≤ b) (h2 : b ≤ 6) (A B : Sl) (d : D) : c6 [A, B, .own d, .fz (.int (b : Int))] = .ok false [A, B, .own d, .fz (.int (b : Int))] := by
  have : b = 1 ∨ b = 2 ∨ b = 3 ∨ b = 4 ∨ b = 5 ∨ b = 6 := by omega
  rcases this with rfl | rfl | rfl | rfl | rfl | rfl
  · exact c6_1 A B d
  · exact c6_2 A B d
  · exact c6_3 A B d
  · exact c6_4 A B d
  · exact c6_5 A B d
  · exact c6_6 A B d
abbrev lastL : Gam → Out R := (eOp (fEqD false) (fO (eLst (aCons (fO (eCallN 1 F_inversions (aCons (fO (eTup (aCons (fO (eTup (aCons (fO (eC (.int 2))) (aCons (fO (eC (.int 3))) aNil)))) (aCons (fO (eTup (aCons (fO (eC (.int 1))) aNil))) aNil)))) aNil))) (aCons (fO (eCallN 1 F_inversions (aCons (fO (eTup (aCons (fO (eTup (aCons (fO (eC (.int 1))) (aCons (fO (eC (.int 3))) aNil)))) (aCons (fO (eTup (aCons (fO (eC (.int 2))) aNil))) aNil)))) aNil))) (aCons (fO (eCall bLen (aCons (fO (eListG 2 F_partings (aCons (fO (eC (.int 4))) (aCons (fO (eC (.int 2))) aNil)))) aNil))) aNil))))) (fO (eLst (aCons (fO (eC (.int 2))) (aCons (fO (eC (.int 1))) (aCons (fO (eC (.int 14))) aNil))))))
theorem last_ok (A B C E : Sl) : lastL [A, B, C, E] = .ok (.fz (.bl true)) [A, B, C, E] := by kernel_rfl
theorem roll_call2 {F : Gam → Out R} {m : Gam → Out Ar} {A B : Sl} {r : Gam} {d d' d2 : D} {x : R} (h1 : m (A :: B :: .own d :: r) = .ok (.d d2) (A :: B :: .own d :: r)) (h : F [.io d, .fz d2] = .ok x [.io d', .fz d2]) : eCallN 2 F (aCons (oSl 2) (aCons m aNil)) (A :: B :: .own d :: r) = .ok x (A :: B :: .own d' :: r) := by
  simp only [eCallN, aCons, aNil, Out.bind, oSl, List.getElem?_cons_zero, List.getElem?_cons_succ, h1, disA, slIn, mkArgs, mkArg, mkSl, Nat.beq, List.length_cons, List.length_nil, Bool.not_false, Bool.and_self, h, putArgs, reSl, List.set_cons_zero, List.set_cons_succ]
abbrev lawBody : Gam → OutS := (sSeq (sSet 2 (eCallN 2 F_law_dice (aCons (fO (eRd 0)) (aCons (fO (eRd 1)) aNil)))) (sSeq (sSet 3 (eOp fAdd (fO (eC (.int 1))) (fO (eCallN 2 F_law_roll (aCons (oSl 2) (aCons (fO (eC (.int 6))) aNil)))))) (sSeq (sIf (bOr (bNot (toT (eCallN 1 F_law_right (aCons (oSl 2) aNil)))) c6) (sSeq (sRet (eC (.bl false))) sNx) sNx) sNx)))
theorem law_body {sc : D} {k : Nat} (ns : List Int) (hsc : sc = .frz (intD ns)) (hk : k < 64) {s2 s3 : Sl} (h2 : s2.isIo = false) (h3 : s3.isIo = false) : ∃ d' b, lawBody [.fz sc, .fz (.int (Int.ofNat k)), s2, s3] = .nx [.fz sc, .fz (.int (Int.ofNat k)), .own d', .fz b] := by
  subst hsc
  obtain ⟨d, e1, hd⟩ := dice_ok ns k hk
  obtain ⟨j, d1, r1, hd1, lj⟩ := rollN 0 d 6 hd (by decide) (by decide) (by decide)
  obtain ⟨b, hb⟩ : ∃ b, b = 1 + j := ⟨_, rfl⟩
  have eb : (1 : Int) + Int.ofNat j = (b : Int) := by show (1 : Int) + (j : Int) = _; omega
  obtain ⟨d2, e2, hd2⟩ := right_ok good_all hd1 (by decide)
  have g1 := set_g (i := 2) (γ2 := [.fz (.frz (intD ns)), .fz (.int (Int.ofNat k)), .own d, s3]) (callN_2 (F := F_law_dice) (γ := [.fz (.frz (intD ns)), .fz (.int (Int.ofNat k)), s2, s3]) (m1 := fO (eRd 0)) (m2 := fO (eRd 1)) rfl rfl e1) (by
    show (match s2.isIo with | true => none | false => some _) = _
    rw [h2]
    rfl)
  have q := op_g (f := fAdd) (ma := fO (eC (.int 1))) (a := .d (.int 1)) (x := .int 1) (r := .ok (.fz (.int (1 + Int.ofNat j))) [.fz (.frz (intD ns)), .fz (.int (Int.ofNat k)), .own d1, s3]) rfl (fo_fg (roll_call2 (F := F_law_roll) (m := fO (eC (.int 6))) (d2 := .int 6) (A := .fz (.frz (intD ns))) (B := .fz (.int (Int.ofNat k))) (r := [s3]) (d := d) rfl r1)) rfl rfl rfl
  rw [eb] at q
  have g3 := set_g (i := 3) (γ2 := [.fz (.frz (intD ns)), .fz (.int (Int.ofNat k)), .own d1, .fz (.int (b : Int))]) q (by
    show (match s3.isIo with | true => none | false => some _) = _
    rw [h3]
    rfl)
  have c1 := not_g (tT_g (call_right (F := F_law_right) (a := .fz (.frz (intD ns))) (b := .fz (.int (Int.ofNat k))) (rest := [.fz (.int (b : Int))]) e2))
  have c2 := c6_ok b (by omega) (by omega) (.fz (.frz (intD ns))) (.fz (.int (Int.ofNat k))) d2
  have i1 := if_tg (a := sSeq (sRet (eC (.bl false))) sNx) (b := sNx) (or_fg c1 c2)
  exact ⟨d2, _, (seq_nx g1).trans ((seq_nx g3).trans ((seq_nx (i1.trans rfl)).trans rfl))⟩
theorem law_ok (ns : List Int) : B_law [.fz (.frz (intD ns))] = .ok (.fz (.bl true)) [.fz (.frz (intD ns))] := by
  obtain ⟨t, ht, hr⟩ : ∃ t : Nat, t ≤ 3 ∧ fO (eCall bMaxA (aCons (fO (eC (.int 1))) (aCons (fO (eCall bMinA (aCons (fO (eC (.int 3))) (aCons (fO (eCall bLen (aCons (oSl 0) aNil))) aNil)))) aNil))) [.fz (.frz (intD ns)), .un, .un, .un] = .ok (.d (.int (t : Int))) [.fz (.frz (intD ns)), .un, .un, .un] := by
    have l0 : eCall bLen (aCons (oSl 0) aNil) [.fz (.frz (intD ns)), .un, .un, .un] = .ok (.fz (.int ((intD ns).length : Int))) [.fz (.frz (intD ns)), .un, .un, .un] := call_1 (a := .sl 0) rfl rfl rfl
    rw [intD_len] at l0
    have c2 : ∀ (f : List D → Option BR) (m1 m2 : Gam → Out Ar) (x y z : D) (γ : Gam), m1 γ = .ok (.d x) γ → m2 γ = .ok (.d y) γ → f [x, y] = some (.val z) → eCall f (aCons m1 (aCons m2 aNil)) γ = .ok (.fz z) γ := fun f m1 m2 x y z γ h1 h2 h => by
      unfold eCall
      simp only [args2 h1 h2, Out.bind, looks2 (γ := γ) (a := .d x) (b := .d y) rfl rfl, h]
      rfl
    have l1 := c2 bMinA _ _ (.int 3) (.int (ns.length : Int)) _ _ (fo_fz (m := eC (.int 3)) rfl) (fo_fz l0) rfl
    have l2 := c2 bMaxA _ _ (.int 1) _ _ _ (fo_fz (m := eC (.int 1)) rfl) (fo_fz l1) rfl
    have l3 := fo_fz l2
    generalize hv : (if (if (ns.length : Int) < 3 then (ns.length : Int) else 3) > 1 then (if (ns.length : Int) < 3 then (ns.length : Int) else 3) else 1) = v at l3
    have b : 0 ≤ v ∧ v ≤ 3 := by rw [← hv]; split <;> split at * <;> omega
    exact ⟨v.toNat, by omega, by rw [show ((v.toNat : Nat) : Int) = v by omega]; exact l3⟩
  obtain ⟨γ', e, s1, s2, s3, h1, h2, h3, rfl⟩ := for_preg (mi := mRng1 (aCons (fO (eCall bMaxA (aCons (fO (eC (.int 1))) (aCons (fO (eCall bMinA (aCons (fO (eC (.int 3))) (aCons (fO (eCall bLen (aCons (oSl 0) aNil))) aNil)))) aNil)))) aNil)) (f := gNm 1) (b := lawBody) (fun j : Nat => D.int (Int.ofNat j))
    (fun pre γ => ∃ s1 s2 s3, s1.isIo = false ∧ s2.isIo = false ∧ s3.isIo = false ∧ γ = [.fz (.frz (intD ns)), s1, s2, s3]) (List.range t) (γ0 := [.fz (.frz (intD ns)), .un, .un, .un])
    (range1g hr rfl rfl (by omega)) ⟨.un, .un, .un, rfl, rfl, rfl, rfl⟩ (by
      rintro pre x post γ e ⟨s1, s2, s3, h1, h2, h3, rfl⟩
      have hx : x < t := by
        have : x ∈ List.range t := by rw [e]; simp
        exact List.mem_range.mp this
      obtain ⟨d', b, eb⟩ := law_body (sc := .frz (intD ns)) (k := x) ns rfl (by omega) h2 h3
      refine ⟨_, _, ?_, eb, .fz (.int (Int.ofNat x)), .own d', .fz b, rfl, rfl, rfl, rfl⟩
      show (match s1.isIo with | true => none | false => some _) = _
      rw [h1]
      rfl)
  refine fnB_rt (γ := [.fz (.frz (intD ns)), s1, s2, s3]) ?_
  unfold s_law
  exact (seq_nx e).trans (seq_rt (ret_ok (last_ok _ _ _ _)))
end T

-- text J
set_option Elab.async false
set_option linter.all false
set_option maxRecDepth 100000
set_option maxHeartbeats 0
namespace T
open PySem L2
theorem okf_law {P : Program} {w : World} {K : PySem.W.Frag} {mg : Str → Option Value} {base : Heap} {cls : Nat → Addr} {f : Addr} {fd : FuncData} (B : Blt mg) (CC : Cl K mg cls) (FP : FnQ K "law" "law" (top 66) f fd) (H_partings : HasG P w K mg base cls 5 "partings" 2 F_partings) (H_inversions : Has P w K mg base cls 5 "inversions" 1 F_inversions) (H_law_right : Has P w K mg base cls 20 "_law_right" 1 F_law_right) (H_Poly_rows : HasP P w K mg base cls 1 1 "rows" F_Poly_rows) (H_parting_polynomial : Has P w K mg base cls 19 "parting_polynomial" 2 F_parting_polynomial) (H_law_rows : Has P w K mg base cls 1 "_law_rows" 1 F_law_rows) (H_law_parted : Has P w K mg base cls 11 "_law_parted" 2 F_law_parted) (H_law_roll : Has P w K mg base cls 1 "_law_roll" 2 F_law_roll) (H_law_dice : Has P w K mg base cls 1 "_law_dice" 2 F_law_dice) : FnOk P w K mg base CX0 21 f fd ["script"] (spT (tb K w cls) 1 B_law) := by
  obtain ⟨f_partings, fd_partings, ps_partings, O_partings, g_partings, k_partings, b_partings⟩ := H_partings.ex
  obtain ⟨f_inversions, fd_inversions, ps_inversions, O_inversions, g_inversions, k_inversions, b_inversions⟩ := H_inversions.ex
  obtain ⟨f_law_right, fd_law_right, ps_law_right, O_law_right, g_law_right, k_law_right, b_law_right⟩ := H_law_right.ex
  obtain ⟨f_Poly_rows, fd_Poly_rows, ps_Poly_rows, O_Poly_rows, g_Poly_rows, b_Poly_rows⟩ := H_Poly_rows.ex
  obtain ⟨f_parting_polynomial, fd_parting_polynomial, ps_parting_polynomial, O_parting_polynomial, g_parting_polynomial, k_parting_polynomial, b_parting_polynomial⟩ := H_parting_polynomial.ex
  obtain ⟨f_law_rows, fd_law_rows, ps_law_rows, O_law_rows, g_law_rows, k_law_rows, b_law_rows⟩ := H_law_rows.ex
  obtain ⟨f_law_parted, fd_law_parted, ps_law_parted, O_law_parted, g_law_parted, k_law_parted, b_law_parted⟩ := H_law_parted.ex
  obtain ⟨f_law_roll, fd_law_roll, ps_law_roll, O_law_roll, g_law_roll, k_law_roll, b_law_roll⟩ := H_law_roll.ex
  obtain ⟨f_law_dice, fd_law_dice, ps_law_dice, O_law_dice, g_law_dice, k_law_dice, b_law_dice⟩ := H_law_dice.ex
  have nd := sc_law.nd
  refine FP.ok (N := N_law) sc_law (fun vs H Q E h => h.1) (fun cdv A outer s H vs Q E hr h => ⟨_, PSs.nox ?_, fn_reads (N := N_law) (m := 3) rfl vs Q E h⟩)
  exact (tps_cons (fr PassesOwn.never rfl (r1 B.range (a1 (to_val (cb (cr_maxA rfl) ok_maxA B.max rfl (a1 (to_val cI) (a1 (to_val (cb (cr_minA rfl) (ok_minA rfl) B.min rfl (a1 (to_val cI) (a1 (to_val (cb call_len_seq (ok_len rfl) B.len rfl (a1 (sl 0) tpa_nil))) tpa_nil)))) tpa_nil)))) tpa_nil)) (gn 1 nd) (tps_cons (stv 2 nd (cu O_law_dice hr g_law_dice k_law_dice b_law_dice (a1 (to_val (rd 0)) (a1 (to_val (rd 1)) tpa_nil)) (hj := by omega))) (tps_cons (stv 3 nd (tpe_op op_addA (ok_add rfl) (to_val cI) (to_val (cu O_law_roll hr g_law_roll k_law_roll b_law_roll (a1 (sl 2) (a1 (to_val cI) tpa_nil)) (hj := by omega))))) (tps_cons (tps_if (PW.pt (tpw_or (tpt_not (tv (cu O_law_right hr g_law_right k_law_right b_law_right (a1 (sl 2) tpa_nil) (hj := by omega)))) (tpw_or1 (cmT (op_neA hr.units) (ok_neA rfl) (to_val (tpe_prop g_Poly_rows O_Poly_rows b_Poly_rows (hr.mono (by omega)) (to_val (cu O_parting_polynomial hr g_parting_polynomial k_parting_polynomial b_parting_polynomial (a1 (to_val cI) (a1 (to_val (rd 3)) tpa_nil)) (hj := by omega))))) (to_val (cu O_law_rows hr g_law_rows k_law_rows b_law_rows (a1 (to_val (cu O_law_parted hr g_law_parted k_law_parted b_law_parted (a1 (to_val cI) (a1 (to_val (rd 3)) tpa_nil)) (hj := by omega))) tpa_nil) (hj := by omega))))))) (tps_cons (tps_ret cB) tps_nil) tps_nil) tps_nil)))) (tps_cons (tps_ret (cm (op_eqA hr.units) (ok_eqA rfl) (to_val (tpe_lst (a1 (to_val (cu O_inversions hr g_inversions k_inversions b_inversions (a1 (to_val (tpe_tup (a1 (to_val (tpe_tup (a1 (to_val cI) (a1 (to_val cI) tpa_nil)))) (a1 (to_val (tpe_tup (a1 (to_val cI) tpa_nil))) tpa_nil)))) tpa_nil) (hj := by omega))) (a1 (to_val (cu O_inversions hr g_inversions k_inversions b_inversions (a1 (to_val (tpe_tup (a1 (to_val (tpe_tup (a1 (to_val cI) (a1 (to_val cI) tpa_nil)))) (a1 (to_val (tpe_tup (a1 (to_val cI) tpa_nil))) tpa_nil)))) tpa_nil) (hj := by omega))) (a1 (to_val (cb call_len_seq (ok_len rfl) B.len rfl (a1 (to_val (cg O_partings hr g_partings k_partings b_partings B.list (a1 (to_val cI) (a1 (to_val cI) tpa_nil)))) tpa_nil))) tpa_nil))))) (to_val (tpe_lst (a1 (to_val cI) (a1 (to_val cI) (a1 (to_val cI) tpa_nil))))))) tps_nil))
theorem sp_law {K : PySem.W.Frag} {w : World} {cls : Nat → Addr} {H : Hp} {a : Addr} {ns : List Int} {Q : VK} {E : XK} (hS : SqL K H a (ns.map V.int)) (hQ : ∀ H', Q (.bl true) H') : spT (tb K w cls) 1 B_law [.ref a] H Q E := by
  refine ⟨rfl, H, [.fz (.frz (intD ns))], ⟨⟨Sub.refl _, fun p hp => absurd hp (by show p ∉ ([] : List (Addr × Str)); simp)⟩, rfl, fun i s e => ?_, fun i j b h1 _ => ?_⟩, rfl, ?_⟩
  · cases i with
    | zero =>
      simp at e
      subst e
      refine ⟨.ref a, rfl, ?_⟩
      unfold Rep
      exact ⟨a, _, rfl, hS, intD_rep ns⟩
    | succ i => simp at e
  · obtain ⟨⟨s, e, w⟩, _⟩ := h1
    cases i with
    | zero => simp at e; subst e; cases w
    | succ i => simp at e
  · rw [law_ok]
    intro v H' HF' _ _ rv
    have : v = .bl true := rv
    rw [this]
    exact hQ H'
end T
namespace Hd
open PySem PySem.Spec PyProof.Rows L2
abbrev Sy (K : PySem.W.Frag) : Prop := Hp.SaysP fa fn pr ex K
def cls (K : PySem.W.Frag) : Nat → Addr
  | 0 => He.ga K "KnownTerms"
  | 1 => He.ga K "Poly"
  | _ => 0
theorem blt {K : PySem.W.Frag} {h : Heap} {mg : Str → Option Value} (X : K.In h) (G : h.Ns mainGlobals mg) (c : Sy K) : T.Blt mg where
  len := He.free_ok X G (c.d.fact 50 (f := .free "len") rfl)
  range := He.free_ok X G (c.d.fact 51 (f := .free "range") rfl)
  tuple := He.free_ok X G (c.d.fact 52 (f := .free "tuple") rfl)
  list := He.free_ok X G (c.d.fact 53 (f := .free "list") rfl)
  zip := He.free_ok X G (c.d.fact 54 (f := .free "zip") rfl)
  enumerate := He.free_ok X G (c.d.fact 55 (f := .free "enumerate") rfl)
  all := He.free_ok X G (c.d.fact 56 (f := .free "all") rfl)
  any := He.free_ok X G (c.d.fact 57 (f := .free "any") rfl)
  sum := He.free_ok X G (c.d.fact 58 (f := .free "sum") rfl)
  sorted := He.free_ok X G (c.d.fact 59 (f := .free "sorted") rfl)
  isinstance := He.free_ok X G (c.d.fact 60 (f := .free "isinstance") rfl)
  int := He.free_ok X G (c.d.fact 61 (f := .free "int") rfl)
  bool := He.free_ok X G (c.d.fact 62 (f := .free "bool") rfl)
  abs := He.free_ok X G (c.d.fact 63 (f := .free "abs") rfl)
  repr := He.free_ok X G (c.d.fact 64 (f := .free "repr") rfl)
  dict := He.free_ok X G (c.d.fact 65 (f := .free "dict") rfl)
  min := He.free_ok X G (c.d.fact 66 (f := .free "min") rfl)
  max := He.free_ok X G (c.d.fact 67 (f := .free "max") rfl)
  str := He.free_ok X G (c.d.fact 68 (f := .free "str") rfl)
  MOST_ROWS := He.int_ok X G (c.d.fact 69 (f := .int "MOST_ROWS" 400) rfl)
  MOST_POWER := He.int_ok X G (c.d.fact 70 (f := .int "MOST_POWER" 200) rfl)
  MAX_POWER := He.int_ok X G (c.d.fact 71 (f := .int "MAX_POWER" 20) rfl)
  MOST_VALUE := He.int_ok X G (c.d.fact 72 (f := .int "MOST_VALUE" 1000) rfl)
  ROW_SIZE := He.int_ok X G (c.d.fact 73 (f := .int "ROW_SIZE" 3) rfl)
  SIXTY := He.int_ok X G (c.d.fact 74 (f := .int "SIXTY" 1000000000000000000000000000000000000000000000000000000000000) rfl)
  MOST_PARTED := He.int_ok X G (c.d.fact 75 (f := .int "MOST_PARTED" 6) rfl)
  gcd := Hp.built_ok X G (Hp.exs_at c.more 11)
theorem clz {K : PySem.W.Frag} {h : Heap} {mg : Str → Option Value} (X : K.In h) (G : h.Ns mainGlobals mg) (c : Sy K) : T.Cl K mg (cls K) where
  g_KnownTerms := He.glo_ok X G (c.d.fact 48 (f := .glo "KnownTerms") rfl)
  i_KnownTerms := fun k hk => match k, hk with | 0, _ => ⟨Hp.scls_ok (Hp.exs_at c.more 2), Hp.isi_ok (Hp.exs_at c.more 3), Hp.kit_ok (Hp.exs_at c.more 4)⟩ | 1, _ => ⟨Hp.scls_ok (Hp.exs_at c.more 1), Hp.isi_ok (Hp.exs_at c.more 6), Hp.kit_ok (Hp.exs_at c.more 7)⟩ | (n + 2), hk => absurd hk (by omega)
  g_Poly := He.glo_ok X G (c.d.fact 49 (f := .glo "Poly") rfl)
  i_Poly := fun k hk => match k, hk with | 0, _ => ⟨Hp.scls_ok (Hp.exs_at c.more 2), Hp.isi_ok (Hp.exs_at c.more 3), Hp.kit_ok (Hp.exs_at c.more 5)⟩ | 1, _ => ⟨Hp.scls_ok (Hp.exs_at c.more 1), Hp.isi_ok (Hp.exs_at c.more 6), Hp.kit_ok (Hp.exs_at c.more 8)⟩ | (n + 2), hk => absurd hk (by omega)
  s_own_dict := Hp.slot_ok (Hp.scls_ok (Hp.exs_at c.more 2)) (Hp.exs_at c.more 9)
  s_own_terms := Hp.slot_ok (Hp.scls_ok (Hp.exs_at c.more 1)) (Hp.exs_at c.more 10)
theorem here_law_dice {K : PySem.W.Frag} {h : Heap} {mg : Str → Option Value} (X : K.In h) (G : h.Ns mainGlobals mg) (c : Sy K) : T.Here K mg "_law_dice" 51 := by
  obtain ⟨fd, F⟩ := c.d.def_ 0 (d := d_law_dice) rfl
  exact ⟨_, fd, F, He.glo_ok X G (c.d.fact 0 (f := .glo "_law_dice") rfl)⟩
theorem here_law_roll {K : PySem.W.Frag} {h : Heap} {mg : Str → Option Value} (X : K.In h) (G : h.Ns mainGlobals mg) (c : Sy K) : T.Here K mg "_law_roll" 52 := by
  obtain ⟨fd, F⟩ := c.d.def_ 1 (d := d_law_roll) rfl
  exact ⟨_, fd, F, He.glo_ok X G (c.d.fact 1 (f := .glo "_law_roll") rfl)⟩
theorem here_inversions_in {K : PySem.W.Frag} {h : Heap} {mg : Str → Option Value} (X : K.In h) (G : h.Ns mainGlobals mg) (c : Sy K) : T.Here K mg "inversions_in" 40 := by
  obtain ⟨fd, F⟩ := c.d.def_ 2 (d := d_inversions_in) rfl
  exact ⟨_, fd, F, He.glo_ok X G (c.d.fact 2 (f := .glo "inversions_in") rfl)⟩
theorem here_is_whole_number {K : PySem.W.Frag} {h : Heap} {mg : Str → Option Value} (X : K.In h) (G : h.Ns mainGlobals mg) (c : Sy K) : T.Here K mg "is_whole_number" 14 := by
  obtain ⟨fd, F⟩ := c.d.def_ 3 (d := d_is_whole_number) rfl
  exact ⟨_, fd, F, He.glo_ok X G (c.d.fact 3 (f := .glo "is_whole_number") rfl)⟩
theorem here_is_within {K : PySem.W.Frag} {h : Heap} {mg : Str → Option Value} (X : K.In h) (G : h.Ns mainGlobals mg) (c : Sy K) : T.Here K mg "is_within" 16 := by
  obtain ⟨fd, F⟩ := c.d.def_ 4 (d := d_is_within) rfl
  exact ⟨_, fd, F, He.glo_ok X G (c.d.fact 4 (f := .glo "is_within") rfl)⟩
theorem here_is_block {K : PySem.W.Frag} {h : Heap} {mg : Str → Option Value} (X : K.In h) (G : h.Ns mainGlobals mg) (c : Sy K) : T.Here K mg "is_block" 38 := by
  obtain ⟨fd, F⟩ := c.d.def_ 5 (d := d_is_block) rfl
  exact ⟨_, fd, F, He.glo_ok X G (c.d.fact 5 (f := .glo "is_block") rfl)⟩
theorem here_is_parting_in {K : PySem.W.Frag} {h : Heap} {mg : Str → Option Value} (X : K.In h) (G : h.Ns mainGlobals mg) (c : Sy K) : T.Here K mg "is_parting_in" 39 := by
  obtain ⟨fd, F⟩ := c.d.def_ 6 (d := d_is_parting_in) rfl
  exact ⟨_, fd, F, He.glo_ok X G (c.d.fact 6 (f := .glo "is_parting_in") rfl)⟩
theorem here_inversions {K : PySem.W.Frag} {h : Heap} {mg : Str → Option Value} (X : K.In h) (G : h.Ns mainGlobals mg) (c : Sy K) : T.Here K mg "inversions" 48 := by
  obtain ⟨fd, F⟩ := c.d.def_ 7 (d := d_inversions) rfl
  exact ⟨_, fd, F, He.glo_ok X G (c.d.fact 7 (f := .glo "inversions") rfl)⟩
theorem here_law_partings {K : PySem.W.Frag} {h : Heap} {mg : Str → Option Value} (X : K.In h) (G : h.Ns mainGlobals mg) (c : Sy K) : T.Here K mg "_law_partings" 57 := by
  obtain ⟨fd, F⟩ := c.d.def_ 8 (d := d_law_partings) rfl
  exact ⟨_, fd, F, He.glo_ok X G (c.d.fact 8 (f := .glo "_law_partings") rfl)⟩
theorem here_law_rows {K : PySem.W.Frag} {h : Heap} {mg : Str → Option Value} (X : K.In h) (G : h.Ns mainGlobals mg) (c : Sy K) : T.Here K mg "_law_rows" 55 := by
  obtain ⟨fd, F⟩ := c.d.def_ 9 (d := d_law_rows) rfl
  exact ⟨_, fd, F, He.glo_ok X G (c.d.fact 9 (f := .glo "_law_rows") rfl)⟩
theorem here_law_one_of {K : PySem.W.Frag} {h : Heap} {mg : Str → Option Value} (X : K.In h) (G : h.Ns mainGlobals mg) (c : Sy K) : T.Here K mg "_law_one_of" 53 := by
  obtain ⟨fd, F⟩ := c.d.def_ 10 (d := d_law_one_of) rfl
  exact ⟨_, fd, F, He.glo_ok X G (c.d.fact 10 (f := .glo "_law_one_of") rfl)⟩
theorem here_law_near_parting {K : PySem.W.Frag} {h : Heap} {mg : Str → Option Value} (X : K.In h) (G : h.Ns mainGlobals mg) (c : Sy K) : T.Here K mg "_law_near_parting" 64 := by
  obtain ⟨fd, F⟩ := c.d.def_ 11 (d := d_law_near_parting) rfl
  exact ⟨_, fd, F, He.glo_ok X G (c.d.fact 11 (f := .glo "_law_near_parting") rfl)⟩
theorem here_Poly_rows {K : PySem.W.Frag} {h : Heap} {mg : Str → Option Value} (X : K.In h) (G : h.Ns mainGlobals mg) (c : Sy K) : T.HereP K (cls K 1) "rows" "Poly.rows" (T.mtop 20 4) := by
  obtain ⟨fd, F⟩ := c.getter 0 (d := d_Poly_rows) rfl
  exact ⟨_, fd, F, Hp.prop_ok (Hp.scls_ok (Hp.exs_at c.more 1)) (Hp.exs_at c.more 0)⟩
theorem here_law_times {K : PySem.W.Frag} {h : Heap} {mg : Str → Option Value} (X : K.In h) (G : h.Ns mainGlobals mg) (c : Sy K) : T.Here K mg "_law_times" 56 := by
  obtain ⟨fd, F⟩ := c.d.def_ 12 (d := d_law_times) rfl
  exact ⟨_, fd, F, He.glo_ok X G (c.d.fact 12 (f := .glo "_law_times") rfl)⟩
theorem here_law_plus {K : PySem.W.Frag} {h : Heap} {mg : Str → Option Value} (X : K.In h) (G : h.Ns mainGlobals mg) (c : Sy K) : T.Here K mg "_law_plus" 54 := by
  obtain ⟨fd, F⟩ := c.d.def_ 13 (d := d_law_plus) rfl
  exact ⟨_, fd, F, He.glo_ok X G (c.d.fact 13 (f := .glo "_law_plus") rfl)⟩
theorem here_law_steps_of {K : PySem.W.Frag} {h : Heap} {mg : Str → Option Value} (X : K.In h) (G : h.Ns mainGlobals mg) (c : Sy K) : T.Here K mg "_law_steps_of" 60 := by
  obtain ⟨fd, F⟩ := c.d.def_ 14 (d := d_law_steps_of) rfl
  exact ⟨_, fd, F, He.glo_ok X G (c.d.fact 14 (f := .glo "_law_steps_of") rfl)⟩
theorem here_law_stirling {K : PySem.W.Frag} {h : Heap} {mg : Str → Option Value} (X : K.In h) (G : h.Ns mainGlobals mg) (c : Sy K) : T.Here K mg "_law_stirling" 61 := by
  obtain ⟨fd, F⟩ := c.d.def_ 15 (d := d_law_stirling) rfl
  exact ⟨_, fd, F, He.glo_ok X G (c.d.fact 15 (f := .glo "_law_stirling") rfl)⟩
theorem here_law_parted {K : PySem.W.Frag} {h : Heap} {mg : Str → Option Value} (X : K.In h) (G : h.Ns mainGlobals mg) (c : Sy K) : T.Here K mg "_law_parted" 62 := by
  obtain ⟨fd, F⟩ := c.d.def_ 16 (d := d_law_parted) rfl
  exact ⟨_, fd, F, He.glo_ok X G (c.d.fact 16 (f := .glo "_law_parted") rfl)⟩
theorem here_law_upside {K : PySem.W.Frag} {h : Heap} {mg : Str → Option Value} (X : K.In h) (G : h.Ns mainGlobals mg) (c : Sy K) : T.Here K mg "_law_upside" 58 := by
  obtain ⟨fd, F⟩ := c.d.def_ 17 (d := d_law_upside) rfl
  exact ⟨_, fd, F, He.glo_ok X G (c.d.fact 17 (f := .glo "_law_upside") rfl)⟩
theorem here_law_by_upside {K : PySem.W.Frag} {h : Heap} {mg : Str → Option Value} (X : K.In h) (G : h.Ns mainGlobals mg) (c : Sy K) : T.Here K mg "_law_by_upside" 59 := by
  obtain ⟨fd, F⟩ := c.d.def_ 18 (d := d_law_by_upside) rfl
  exact ⟨_, fd, F, He.glo_ok X G (c.d.fact 18 (f := .glo "_law_by_upside") rfl)⟩
theorem here_number_power {K : PySem.W.Frag} {h : Heap} {mg : Str → Option Value} (X : K.In h) (G : h.Ns mainGlobals mg) (c : Sy K) : T.Here K mg "number_power" 30 := by
  obtain ⟨fd, F⟩ := c.d.def_ 19 (d := d_number_power) rfl
  exact ⟨_, fd, F, He.glo_ok X G (c.d.fact 19 (f := .glo "number_power") rfl)⟩
theorem here_power_pair {K : PySem.W.Frag} {h : Heap} {mg : Str → Option Value} (X : K.In h) (G : h.Ns mainGlobals mg) (c : Sy K) : T.Here K mg "power_pair" 31 := by
  obtain ⟨fd, F⟩ := c.d.def_ 20 (d := d_power_pair) rfl
  exact ⟨_, fd, F, He.glo_ok X G (c.d.fact 20 (f := .glo "power_pair") rfl)⟩
theorem here_span_of {K : PySem.W.Frag} {h : Heap} {mg : Str → Option Value} (X : K.In h) (G : h.Ns mainGlobals mg) (c : Sy K) : T.Here K mg "span_of" 29 := by
  obtain ⟨fd, F⟩ := c.d.def_ 21 (d := d_span_of) rfl
  exact ⟨_, fd, F, He.glo_ok X G (c.d.fact 21 (f := .glo "span_of") rfl)⟩
theorem here_value_at {K : PySem.W.Frag} {h : Heap} {mg : Str → Option Value} (X : K.In h) (G : h.Ns mainGlobals mg) (c : Sy K) : T.Here K mg "value_at" 32 := by
  obtain ⟨fd, F⟩ := c.d.def_ 22 (d := d_value_at) rfl
  exact ⟨_, fd, F, He.glo_ok X G (c.d.fact 22 (f := .glo "value_at") rfl)⟩
theorem here_Poly_at {K : PySem.W.Frag} {h : Heap} {mg : Str → Option Value} (X : K.In h) (G : h.Ns mainGlobals mg) (c : Sy K) : T.HereM K (cls K 1) "at" "Poly.at" (T.mtop 20 10) := by
  obtain ⟨fd, F⟩ := c.d.def_ 23 (d := d_Poly_at) rfl
  exact ⟨_, fd, F, Hp.scls_ok (Hp.exs_at c.more 1), He.meth_ok (c.d.fact 23 (f := .meth "Poly" "at") rfl)⟩
theorem here_require_parted {K : PySem.W.Frag} {h : Heap} {mg : Str → Option Value} (X : K.In h) (G : h.Ns mainGlobals mg) (c : Sy K) : T.Here K mg "require_parted" 44 := by
  obtain ⟨fd, F⟩ := c.d.def_ 24 (d := d_require_parted) rfl
  exact ⟨_, fd, F, He.glo_ok X G (c.d.fact 24 (f := .glo "require_parted") rfl)⟩
theorem here_require_blocks {K : PySem.W.Frag} {h : Heap} {mg : Str → Option Value} (X : K.In h) (G : h.Ns mainGlobals mg) (c : Sy K) : T.Here K mg "require_blocks" 45 := by
  obtain ⟨fd, F⟩ := c.d.def_ 25 (d := d_require_blocks) rfl
  exact ⟨_, fd, F, He.glo_ok X G (c.d.fact 25 (f := .glo "require_blocks") rfl)⟩
theorem here_blocks_with {K : PySem.W.Frag} {h : Heap} {mg : Str → Option Value} (X : K.In h) (G : h.Ns mainGlobals mg) (c : Sy K) : T.Here K mg "blocks_with" 36 := by
  obtain ⟨fd, F⟩ := c.d.def_ 26 (d := d_blocks_with) rfl
  exact ⟨_, fd, F, He.glo_ok X G (c.d.fact 26 (f := .glo "blocks_with") rfl)⟩
theorem here_partings_in {K : PySem.W.Frag} {h : Heap} {mg : Str → Option Value} (X : K.In h) (G : h.Ns mainGlobals mg) (c : Sy K) : T.Here K mg "partings_in" 37 := by
  obtain ⟨fd, F⟩ := c.d.def_ 27 (d := d_partings_in) rfl
  exact ⟨_, fd, F, He.glo_ok X G (c.d.fact 27 (f := .glo "partings_in") rfl)⟩
theorem here_partings {K : PySem.W.Frag} {h : Heap} {mg : Str → Option Value} (X : K.In h) (G : h.Ns mainGlobals mg) (c : Sy K) : T.Here K mg "partings" 46 := by
  obtain ⟨fd, F⟩ := c.d.def_ 28 (d := d_partings) rfl
  exact ⟨_, fd, F, He.glo_ok X G (c.d.fact 28 (f := .glo "partings") rfl)⟩
theorem here_is_integer {K : PySem.W.Frag} {h : Heap} {mg : Str → Option Value} (X : K.In h) (G : h.Ns mainGlobals mg) (c : Sy K) : T.Here K mg "is_integer" 15 := by
  obtain ⟨fd, F⟩ := c.d.def_ 29 (d := d_is_integer) rfl
  exact ⟨_, fd, F, He.glo_ok X G (c.d.fact 29 (f := .glo "is_integer") rfl)⟩
theorem here_is_row {K : PySem.W.Frag} {h : Heap} {mg : Str → Option Value} (X : K.In h) (G : h.Ns mainGlobals mg) (c : Sy K) : T.Here K mg "is_row" 17 := by
  obtain ⟨fd, F⟩ := c.d.def_ 30 (d := d_is_row) rfl
  exact ⟨_, fd, F, He.glo_ok X G (c.d.fact 30 (f := .glo "is_row") rfl)⟩
theorem here_are_rows {K : PySem.W.Frag} {h : Heap} {mg : Str → Option Value} (X : K.In h) (G : h.Ns mainGlobals mg) (c : Sy K) : T.Here K mg "are_rows" 18 := by
  obtain ⟨fd, F⟩ := c.d.def_ 31 (d := d_are_rows) rfl
  exact ⟨_, fd, F, He.glo_ok X G (c.d.fact 31 (f := .glo "are_rows") rfl)⟩
theorem here_Poly_init {K : PySem.W.Frag} {h : Heap} {mg : Str → Option Value} (X : K.In h) (G : h.Ns mainGlobals mg) (c : Sy K) : T.HereI K (cls K 1) "Poly.__init__" (T.mtop 20 1) := by
  obtain ⟨fd, F⟩ := c.d.def_ 32 (d := d_Poly_init) rfl
  exact ⟨_, fd, F, He.mkr_ok (c.d.fact 32 (f := .mkr "Poly") rfl)⟩
theorem here_KnownTerms_init {K : PySem.W.Frag} {h : Heap} {mg : Str → Option Value} (X : K.In h) (G : h.Ns mainGlobals mg) (c : Sy K) : T.HereI K (cls K 0) "KnownTerms.__init__" (T.mtop 19 1) := by
  obtain ⟨fd, F⟩ := c.d.def_ 33 (d := d_KnownTerms_init) rfl
  exact ⟨_, fd, F, He.mkr_ok (c.d.fact 33 (f := .mkr "KnownTerms") rfl)⟩
theorem here_poly_of {K : PySem.W.Frag} {h : Heap} {mg : Str → Option Value} (X : K.In h) (G : h.Ns mainGlobals mg) (c : Sy K) : T.Here K mg "poly_of" 21 := by
  obtain ⟨fd, F⟩ := c.d.def_ 34 (d := d_poly_of) rfl
  exact ⟨_, fd, F, He.glo_ok X G (c.d.fact 34 (f := .glo "poly_of") rfl)⟩
theorem here_one_poly {K : PySem.W.Frag} {h : Heap} {mg : Str → Option Value} (X : K.In h) (G : h.Ns mainGlobals mg) (c : Sy K) : T.Here K mg "one_poly" 23 := by
  obtain ⟨fd, F⟩ := c.d.def_ 35 (d := d_one_poly) rfl
  exact ⟨_, fd, F, He.glo_ok X G (c.d.fact 35 (f := .glo "one_poly") rfl)⟩
theorem here_times_in {K : PySem.W.Frag} {h : Heap} {mg : Str → Option Value} (X : K.In h) (G : h.Ns mainGlobals mg) (c : Sy K) : T.Here K mg "times_in" 26 := by
  obtain ⟨fd, F⟩ := c.d.def_ 36 (d := d_times_in) rfl
  exact ⟨_, fd, F, He.glo_ok X G (c.d.fact 36 (f := .glo "times_in") rfl)⟩
theorem here_poly_product {K : PySem.W.Frag} {h : Heap} {mg : Str → Option Value} (X : K.In h) (G : h.Ns mainGlobals mg) (c : Sy K) : T.Here K mg "poly_product" 27 := by
  obtain ⟨fd, F⟩ := c.d.def_ 37 (d := d_poly_product) rfl
  exact ⟨_, fd, F, He.glo_ok X G (c.d.fact 37 (f := .glo "poly_product") rfl)⟩
theorem here_poly_sum {K : PySem.W.Frag} {h : Heap} {mg : Str → Option Value} (X : K.In h) (G : h.Ns mainGlobals mg) (c : Sy K) : T.Here K mg "poly_sum" 25 := by
  obtain ⟨fd, F⟩ := c.d.def_ 38 (d := d_poly_sum) rfl
  exact ⟨_, fd, F, He.glo_ok X G (c.d.fact 38 (f := .glo "poly_sum") rfl)⟩
theorem here_steps_poly {K : PySem.W.Frag} {h : Heap} {mg : Str → Option Value} (X : K.In h) (G : h.Ns mainGlobals mg) (c : Sy K) : T.Here K mg "steps_poly" 41 := by
  obtain ⟨fd, F⟩ := c.d.def_ 39 (d := d_steps_poly) rfl
  exact ⟨_, fd, F, He.glo_ok X G (c.d.fact 39 (f := .glo "steps_poly") rfl)⟩
theorem here_zero_poly {K : PySem.W.Frag} {h : Heap} {mg : Str → Option Value} (X : K.In h) (G : h.Ns mainGlobals mg) (c : Sy K) : T.Here K mg "zero_poly" 22 := by
  obtain ⟨fd, F⟩ := c.d.def_ 40 (d := d_zero_poly) rfl
  exact ⟨_, fd, F, He.glo_ok X G (c.d.fact 40 (f := .glo "zero_poly") rfl)⟩
theorem here_stirling_in {K : PySem.W.Frag} {h : Heap} {mg : Str → Option Value} (X : K.In h) (G : h.Ns mainGlobals mg) (c : Sy K) : T.Here K mg "stirling_in" 42 := by
  obtain ⟨fd, F⟩ := c.d.def_ 41 (d := d_stirling_in) rfl
  exact ⟨_, fd, F, He.glo_ok X G (c.d.fact 41 (f := .glo "stirling_in") rfl)⟩
theorem here_parting_polynomial_in {K : PySem.W.Frag} {h : Heap} {mg : Str → Option Value} (X : K.In h) (G : h.Ns mainGlobals mg) (c : Sy K) : T.Here K mg "parting_polynomial_in" 43 := by
  obtain ⟨fd, F⟩ := c.d.def_ 42 (d := d_parting_polynomial_in) rfl
  exact ⟨_, fd, F, He.glo_ok X G (c.d.fact 42 (f := .glo "parting_polynomial_in") rfl)⟩
theorem here_parting_polynomial {K : PySem.W.Frag} {h : Heap} {mg : Str → Option Value} (X : K.In h) (G : h.Ns mainGlobals mg) (c : Sy K) : T.Here K mg "parting_polynomial" 49 := by
  obtain ⟨fd, F⟩ := c.d.def_ 43 (d := d_parting_polynomial) rfl
  exact ⟨_, fd, F, He.glo_ok X G (c.d.fact 43 (f := .glo "parting_polynomial") rfl)⟩
theorem here_is_parting {K : PySem.W.Frag} {h : Heap} {mg : Str → Option Value} (X : K.In h) (G : h.Ns mainGlobals mg) (c : Sy K) : T.Here K mg "is_parting" 47 := by
  obtain ⟨fd, F⟩ := c.d.def_ 44 (d := d_is_parting) rfl
  exact ⟨_, fd, F, He.glo_ok X G (c.d.fact 44 (f := .glo "is_parting") rfl)⟩
theorem here_law_is_parting {K : PySem.W.Frag} {h : Heap} {mg : Str → Option Value} (X : K.In h) (G : h.Ns mainGlobals mg) (c : Sy K) : T.Here K mg "_law_is_parting" 63 := by
  obtain ⟨fd, F⟩ := c.d.def_ 45 (d := d_law_is_parting) rfl
  exact ⟨_, fd, F, He.glo_ok X G (c.d.fact 45 (f := .glo "_law_is_parting") rfl)⟩
theorem here_law_right {K : PySem.W.Frag} {h : Heap} {mg : Str → Option Value} (X : K.In h) (G : h.Ns mainGlobals mg) (c : Sy K) : T.Here K mg "_law_right" 65 := by
  obtain ⟨fd, F⟩ := c.d.def_ 46 (d := d_law_right) rfl
  exact ⟨_, fd, F, He.glo_ok X G (c.d.fact 46 (f := .glo "_law_right") rfl)⟩
theorem here_law {K : PySem.W.Frag} {h : Heap} {mg : Str → Option Value} (X : K.In h) (G : h.Ns mainGlobals mg) (c : Sy K) : T.Here K mg "law" 66 := by
  obtain ⟨fd, F⟩ := c.d.def_ 47 (d := d_law) rfl
  exact ⟨_, fd, F, He.glo_ok X G (c.d.fact 47 (f := .glo "law") rfl)⟩
theorem facts {P : Program} {w : World} {K : PySem.W.Frag} {h : Heap} {mg : Str → Option Value} {f : Addr} (X : K.In h) (G : h.Ns mainGlobals mg) (hfa : mg ("law" : Str) = some (.ref f)) (c : Sy K) :
    ∃ fd : FuncData, (∀ (s : Shared) (v : Value), BindsTo s fd ⟨[v], []⟩ [("script", v)]) ∧ ∀ base : Heap, K.In base → base.Ns mainGlobals mg → FnOk P w K mg base CX0 21 f fd ["script"] (T.spT (T.tb K w (cls K)) 1 T.B_law) := by
  have B := blt X G c
  have CC := clz X G c
  have H_law_dice : ∀ base : Heap, T.Has P w K mg base (cls K) 1 "_law_dice" 2 T.B_law_dice := fun base => T.ok_law_dice B CC (here_law_dice X G c) 
  have H_law_roll : ∀ base : Heap, T.Has P w K mg base (cls K) 1 "_law_roll" 2 T.B_law_roll := fun base => T.ok_law_roll B CC (here_law_roll X G c) 
  have H_inversions_in : ∀ base : Heap, T.Has P w K mg base (cls K) 1 "inversions_in" 1 T.B_inversions_in := fun base => T.ok_inversions_in B CC (here_inversions_in X G c) 
  have H_is_whole_number : ∀ base : Heap, T.Has P w K mg base (cls K) 1 "is_whole_number" 1 T.B_is_whole_number := fun base => T.ok_is_whole_number B CC (here_is_whole_number X G c) 
  have H_is_within : ∀ base : Heap, T.Has P w K mg base (cls K) 2 "is_within" 3 T.B_is_within := fun base => T.ok_is_within B CC (here_is_within X G c) (H_is_whole_number base)
  have H_is_block : ∀ base : Heap, T.Has P w K mg base (cls K) 3 "is_block" 2 T.B_is_block := fun base => T.ok_is_block B CC (here_is_block X G c) (H_is_within base)
  have H_is_parting_in : ∀ base : Heap, T.Has P w K mg base (cls K) 4 "is_parting_in" 2 T.B_is_parting_in := fun base => T.ok_is_parting_in B CC (here_is_parting_in X G c) (H_is_block base)
  have H_inversions : ∀ base : Heap, T.Has P w K mg base (cls K) 5 "inversions" 1 T.B_inversions := fun base => T.ok_inversions B CC (here_inversions X G c) (H_inversions_in base) (H_is_parting_in base)
  have H_law_partings : ∀ base : Heap, T.Has P w K mg base (cls K) 1 "_law_partings" 2 T.B_law_partings := fun base => T.ok_law_partings B CC (here_law_partings X G c) 
  have H_law_rows : ∀ base : Heap, T.Has P w K mg base (cls K) 1 "_law_rows" 1 T.B_law_rows := fun base => T.ok_law_rows B CC (here_law_rows X G c) 
  have H_law_one_of : ∀ base : Heap, T.Has P w K mg base (cls K) 2 "_law_one_of" 2 T.B_law_one_of := fun base => T.ok_law_one_of B CC (here_law_one_of X G c) (H_law_roll base)
  have H_law_near_parting : ∀ base : Heap, T.Has P w K mg base (cls K) 2 "_law_near_parting" 3 T.B_law_near_parting := fun base => T.ok_law_near_parting B CC (here_law_near_parting X G c) (H_law_roll base)
  have H_Poly_rows : ∀ base : Heap, T.HasP P w K mg base (cls K) 1 1 "rows" T.B_Poly_rows := fun base => T.ok_Poly_rows B CC (here_Poly_rows X G c) 
  have H_law_times : ∀ base : Heap, T.Has P w K mg base (cls K) 1 "_law_times" 2 T.B_law_times := fun base => T.ok_law_times B CC (here_law_times X G c) 
  have H_law_plus : ∀ base : Heap, T.Has P w K mg base (cls K) 1 "_law_plus" 3 T.B_law_plus := fun base => T.ok_law_plus B CC (here_law_plus X G c) 
  have H_law_steps_of : ∀ base : Heap, T.Has P w K mg base (cls K) 1 "_law_steps_of" 1 T.B_law_steps_of := fun base => T.ok_law_steps_of B CC (here_law_steps_of X G c) 
  have H_law_stirling : ∀ base : Heap, T.Has P w K mg base (cls K) 10 "_law_stirling" 2 T.B_law_stirling := fun base => T.ok_law_stirling B CC (here_law_stirling X G c) (H_law_plus base) (H_law_times base) (H_law_steps_of base)
  have H_law_parted : ∀ base : Heap, T.Has P w K mg base (cls K) 11 "_law_parted" 2 T.B_law_parted := fun base => T.ok_law_parted B CC (here_law_parted X G c) (H_law_times base) (H_law_steps_of base) (H_law_stirling base)
  have H_law_upside : ∀ base : Heap, T.Has P w K mg base (cls K) 1 "_law_upside" 1 T.B_law_upside := fun base => T.ok_law_upside B CC (here_law_upside X G c) 
  have H_law_by_upside : ∀ base : Heap, T.Has P w K mg base (cls K) 2 "_law_by_upside" 1 T.B_law_by_upside := fun base => T.ok_law_by_upside B CC (here_law_by_upside X G c) (H_law_upside base)
  have H_number_power : ∀ base : Heap, T.Has P w K mg base (cls K) 1 "number_power" 2 T.B_number_power := fun base => T.ok_number_power B CC (here_number_power X G c) 
  have H_power_pair : ∀ base : Heap, T.Has P w K mg base (cls K) 2 "power_pair" 2 T.B_power_pair := fun base => T.ok_power_pair B CC (here_power_pair X G c) (H_number_power base)
  have H_span_of : ∀ base : Heap, T.Has P w K mg base (cls K) 1 "span_of" 2 T.B_span_of := fun base => T.ok_span_of B CC (here_span_of X G c) 
  have H_value_at : ∀ base : Heap, T.Has P w K mg base (cls K) 3 "value_at" 3 T.B_value_at := fun base => T.ok_value_at B CC (here_value_at X G c) (H_power_pair base) (H_number_power base) (H_span_of base)
  have H_Poly_at : ∀ base : Heap, T.HasM P w K mg base (cls K) 4 1 "at" 3 T.B_Poly_at := fun base => T.ok_Poly_at B CC (here_Poly_at X G c) (H_value_at base) (H_is_within base)
  have H_require_parted : ∀ base : Heap, T.Has P w K mg base (cls K) 3 "require_parted" 1 T.B_require_parted := fun base => T.ok_require_parted B CC (here_require_parted X G c) (H_is_within base)
  have H_require_blocks : ∀ base : Heap, T.Has P w K mg base (cls K) 4 "require_blocks" 2 T.B_require_blocks := fun base => T.ok_require_blocks B CC (here_require_blocks X G c) (H_is_within base) (H_require_parted base)
  have H_blocks_with : ∀ base : Heap, T.Has P w K mg base (cls K) 1 "blocks_with" 2 T.B_blocks_with := fun base => T.ok_blocks_with B CC (here_blocks_with X G c) 
  have H_partings_in : ∀ base : Heap, T.Has P w K mg base (cls K) 2 "partings_in" 2 T.B_partings_in := fun base => T.ok_partings_in B CC (here_partings_in X G c) (H_blocks_with base)
  have H_partings : ∀ base : Heap, T.HasG P w K mg base (cls K) 5 "partings" 2 T.B_partings := fun base => T.ok_partings B CC (here_partings X G c) (H_require_blocks base) (H_partings_in base)
  have H_is_integer : ∀ base : Heap, T.Has P w K mg base (cls K) 2 "is_integer" 1 T.B_is_integer := fun base => T.ok_is_integer B CC (here_is_integer X G c) (H_is_whole_number base)
  have H_is_row : ∀ base : Heap, T.Has P w K mg base (cls K) 3 "is_row" 1 T.B_is_row := fun base => T.ok_is_row B CC (here_is_row X G c) (H_is_integer base)
  have H_are_rows : ∀ base : Heap, T.Has P w K mg base (cls K) 4 "are_rows" 1 T.B_are_rows := fun base => T.ok_are_rows B CC (here_are_rows X G c) (H_is_row base)
  have H_Poly_init : ∀ base : Heap, T.HasI P w K mg base (cls K) 5 1 2 T.B_Poly_init := fun base => T.ok_Poly_init B CC (here_Poly_init X G c) (H_are_rows base)
  have H_KnownTerms_init : ∀ base : Heap, T.HasI P w K mg base (cls K) 1 0 2 T.B_KnownTerms_init := fun base => T.ok_KnownTerms_init B CC (here_KnownTerms_init X G c) 
  have H_poly_of : ∀ base : Heap, T.Has P w K mg base (cls K) 7 "poly_of" 1 T.B_poly_of := fun base => T.ok_poly_of B CC (here_poly_of X G c) (H_Poly_init base) (H_KnownTerms_init base)
  have H_one_poly : ∀ base : Heap, T.Has P w K mg base (cls K) 8 "one_poly" 0 T.B_one_poly := fun base => T.ok_one_poly B CC (here_one_poly X G c) (H_poly_of base)
  have H_times_in : ∀ base : Heap, T.Has P w K mg base (cls K) 8 "times_in" 2 T.B_times_in := fun base => T.ok_times_in B CC (here_times_in X G c) (H_poly_of base)
  have H_poly_product : ∀ base : Heap, T.Has P w K mg base (cls K) 9 "poly_product" 1 T.B_poly_product := fun base => T.ok_poly_product B CC (here_poly_product X G c) (H_times_in base) (H_one_poly base)
  have H_poly_sum : ∀ base : Heap, T.Has P w K mg base (cls K) 8 "poly_sum" 1 T.B_poly_sum := fun base => T.ok_poly_sum B CC (here_poly_sum X G c) (H_poly_of base)
  have H_steps_poly : ∀ base : Heap, T.Has P w K mg base (cls K) 8 "steps_poly" 1 T.B_steps_poly := fun base => T.ok_steps_poly B CC (here_steps_poly X G c) (H_poly_of base)
  have H_zero_poly : ∀ base : Heap, T.Has P w K mg base (cls K) 8 "zero_poly" 0 T.B_zero_poly := fun base => T.ok_zero_poly B CC (here_zero_poly X G c) (H_poly_of base)
  have H_stirling_in : ∀ base : Heap, T.Has P w K mg base (cls K) 17 "stirling_in" 2 T.B_stirling_in := fun base => T.ok_stirling_in B CC (here_stirling_in X G c) (H_poly_sum base) (H_times_in base) (H_steps_poly base) (H_one_poly base) (H_zero_poly base)
  have H_parting_polynomial_in : ∀ base : Heap, T.Has P w K mg base (cls K) 18 "parting_polynomial_in" 2 T.B_parting_polynomial_in := fun base => T.ok_parting_polynomial_in B CC (here_parting_polynomial_in X G c) (H_poly_product base) (H_stirling_in base) (H_steps_poly base)
  have H_parting_polynomial : ∀ base : Heap, T.Has P w K mg base (cls K) 19 "parting_polynomial" 2 T.B_parting_polynomial := fun base => T.ok_parting_polynomial B CC (here_parting_polynomial X G c) (H_parting_polynomial_in base) (H_require_blocks base)
  have H_is_parting : ∀ base : Heap, T.Has P w K mg base (cls K) 5 "is_parting" 2 T.B_is_parting := fun base => T.ok_is_parting B CC (here_is_parting X G c) (H_is_parting_in base) (H_require_parted base)
  have H_law_is_parting : ∀ base : Heap, T.Has P w K mg base (cls K) 1 "_law_is_parting" 2 T.B_law_is_parting := fun base => T.ok_law_is_parting B CC (here_law_is_parting X G c) 
  have H_law_right : ∀ base : Heap, T.Has P w K mg base (cls K) 20 "_law_right" 1 T.B_law_right := fun base => T.ok_law_right B CC (here_law_right X G c) (H_Poly_at base) (H_parting_polynomial base) (H_law_near_parting base) (H_is_parting base) (H_law_is_parting base) (H_inversions base) (H_law_upside base) (H_law_one_of base) (H_law_rows base) (H_law_parted base) (H_law_by_upside base) (H_partings base) (H_Poly_rows base) (H_law_partings base) (H_law_roll base)
  obtain ⟨fd, F⟩ := c.d.def_ 47 (d := d_law) rfl
  have e := hfa.symm.trans (He.glo_ok X G (c.d.fact 47 (f := .glo "law") rfl))
  cases e
  have b := FunD.bindsA (ps := ["script"]) F fun _ _ _ _ _ _ us hl => match us, hl with | [_], _ => rfl
  refine ⟨fd, fun s v => b s [v] rfl, fun base _ _ => ?_⟩
  exact T.okf_law B CC F (H_partings base) (H_inversions base) (H_law_right base) (H_Poly_rows base) (H_parting_polynomial base) (H_law_rows base) (H_law_parted base) (H_law_roll base) (H_law_dice base)
end Hd
open PySem PySem.W PySem.Calls PyProof.Rows
theorem PySem.Challenge.cw_armrises_k80_whole_ordered_partings_holds : PySem.Challenge.rw_armrises_k80_whole_ordered_partings.Holds := by
  w_on; o_law
  refine HandSHeadRun.head_imp (r := OpenLaw.row PySem.Challenge.rw_armrises_k80_whole_ordered_partings) (q := view (OpenLaw.row PySem.Challenge.rw_armrises_k80_whole_ordered_partings).prog [0, 66]) (H := Hd.hk) (ob := Hd.ob) (M := 60000) (loose := Hd.names) (d := HandSHeadRun.topDef (OpenLaw.row PySem.Challenge.rw_armrises_k80_whole_ordered_partings).prog 66) (kwd := []) Hd.ob_eq
    Hd.run (by kernel_rfl) (by kernel_rfl) (by kernel_rfl) (by rfl) (by first | assumption | decide +kernel) (by decide +kernel) ⟨rfl, rfl, rfl, rfl, rfl, by decide +kernel⟩ ?hw ?hc
  case hw => w_witness2
  case hc =>
    refine L2.walk_ofE (l := PySem.Challenge.rw_armrises_k80_whole_ordered_partings) (n := 63) (k := 21) (x := "script") (CX := L2.CX0) rfl (by decide) (by kernel_rfl) ⟨rfl, by decide, by decide⟩ ?F (fun _ _ _ _ z => z)
    intro w mg fa h Y G hmg0
    obtain ⟨K, KX, c⟩ := Y
    have hmg : mg ("law" : PySem.Str) = some (.ref fa) := by
      have e : (HandSHeadRun.topDef (OpenLaw.row PySem.Challenge.rw_armrises_k80_whole_ordered_partings).prog 66).name = ("law" : PySem.Str) := by kernel_rfl
      rw [← e]
      exact hmg0
    obtain ⟨fd, hb, hF⟩ := Hd.facts (P := (PySem.Challenge.rw_armrises_k80_whole_ordered_partings).prog) (w := w) KX G hmg c
    exact ⟨K, fd, T.spT (T.tb K w (Hd.cls K)) 1 T.B_law, KX, hb, fun H a ns hl _ hS => T.sp_law hS fun _ => rfl, hF⟩
