import PyProof.Rows.All
import Wide.All
import OpenK.AllK
import Wide.FinOn
import KE.KStateDown
import HandS.ForMost
import HandS.HeadHook2
import KE.KeyNested
import HandS.Lambda
import HandS.ExcInit
import HandS.IsInst
import HandS.TupAny
import HandS.TupMul
import HandS.Style
import HandS.RaiseMore
import HandS.FStr
import HandS.Steps
import HandS.Set
import HandS.SetBool
import HandS.Codes
import HandS.Star
import HandS.DictComp
import HandS.Flow
import KE.GoesEnum
import HandS.Head0
import HandS.Head1
import HandS.Head2
import HandS.HeadEnd
import HandS.HeadHook1
import PyProof.ReprRoads
import PyProof.StrLawsRepr
import HandS.Deep
import KE.KAssignIn
import PyProof.P3In
import HandS.More
import HandS.SlotsOwn
import PyProof.CallStr
import PyProof.Rows.Range3
import KE.KUnpack
import PyProof.CollectIter
import HandS.Exc
import HandS.ClsMeth
import HandS.ExcValue
import HandS.HeadHook3
import KE.KExcSuper
import KE.KSuper
import HandS.ReplaceDef
import HandS.ExcOwn
import HandS.ExcIs
import HandS.ExcField
import HandS.TryOnly
import HandS.WordsExc
import KE.KExcIs
import KE.KExcInit
import PySem.Challenge.RW_deskcards_k01_errors_and_what_they_keep
import HandS.Property
import HandS.Small
import PyProof.InstNe
import HandS.TryMany
import HandS.RaiseFrom
import HandS.SuiteRaise
import HandS.ExcInitHot
import HandS.Finally
import HandS.MakeKw
import HandS.MakeKwOnly
import KE.KDictDisplayH
import HandS.Strs
import HandS.Conv
import HandS.Comp
import PyProof.FactsAll.str_7
import PyProof.MeetsStr3
import HandS.ReplaceLit
set_option Elab.async false
set_option linter.all false
set_option maxRecDepth 100000
set_option maxHeartbeats 0
namespace DK
open PySem PySem.Spec L2
inductive D where
  | non | bl (b : Bool) | int (i : Int) | str (s : Str) | tup (xs : List D) | lst (xs : List D)
  | obj (c : Str) (ns : List Str) (xs : List D) | ty (n : String) | cls (c : Str) | scr (ns : List Int)
abbrev SB : Nat := 90000
abbrev LB : Nat := 100000
def sOk (s : Str) : Prop := s.length ≤ SB ∧ s.cps.all (· < 0x110000) = true
structure ClsOk (K : PySem.W.Frag) (C : Addr) : Prop where
  cl : Cls K C
  ha : PySem.W.findIn K (.ref C) "__class__" = some (some (.builtin "object.__class__"))
  hn : PySem.W.specialIn K (.builtin "object.__class__") "__get__" = some (some (.builtin "getset_descriptor.__get__"))
  htk : PySem.W.takesIn K (.builtin "object.__class__") = some true
  hm : PySem.W.mroIn K C (.type "object") = some true
  no : ∀ T : String, T ∈ ["int", "bool", "str", "list", "tuple"] → PySem.W.kitOne K (.ref C) (.type T) = some false
section
variable (K : PySem.W.Frag) (G : Hp)
mutual
def Rep : D → V → Prop
  | .non, v => v = .non
  | .bl b, v => v = .bl b
  | .int i, v => v = .int i
  | .str s, v => v = .str s ∧ sOk s
  | .tup xs, v => xs.length ≤ LB ∧ ∃ a vs, v = .ref a ∧ SqT K G a vs ∧ RepL xs vs
  | .lst xs, v => xs.length ≤ LB ∧ ∃ a vs, v = .ref a ∧ G a = some (.lst vs) ∧ RepL xs vs
  | .obj c ns xs, v => ClsOk K (He.ga K c) ∧ ∃ a dx vs, v = .ref a ∧ G a = some (.ins (He.ga K c) dx (ns.zip vs)) ∧ ns.length = xs.length ∧ RepL xs vs
  | .ty n, v => v = .ty n
  | .cls c, v => v = .ref (He.ga K c)
  | .scr ns, v => ∃ a, v = .ref a ∧ SqL K G a (ns.map V.int)
def RepL : List D → List V → Prop
  | [], vs => vs = []
  | d :: ds, vs => ∃ v r, vs = v :: r ∧ Rep d v ∧ RepL ds r
end
end
section
variable {K : PySem.W.Frag} {G G' : Hp}
theorem same_sql {a : Addr} {xs : List V} (e : Same G G') (h : SqL K G a xs) : SqL K G' a xs := by
  rcases h with (h | ⟨o, h⟩) | h
  · exact .inl (.inl (e _ _ h))
  · exact .inl (.inr ⟨o, e _ _ h⟩)
  · exact .inr h
theorem same_sqt {a : Addr} {xs : List V} (e : Same G G') (h : SqT K G a xs) : SqT K G' a xs := by
  rcases h with (h | ⟨o, h⟩) | h
  · exact .inl (.inl (e _ _ h))
  · exact .inl (.inr ⟨o, e _ _ h⟩)
  · exact .inr h
mutual
theorem Rep.mono (e : Same G G') : ∀ (d : D) (v : V), Rep K G d v → Rep K G' d v
  | .non, _, h => h
  | .bl _, _, h => h
  | .int _, _, h => h
  | .str _, _, h => h
  | .tup xs, _, ⟨z, a, vs, ev, h, r⟩ => ⟨z, a, vs, ev, same_sqt e h, RepL.mono e xs vs r⟩
  | .lst xs, _, ⟨z, a, vs, ev, h, r⟩ => ⟨z, a, vs, ev, e _ _ h, RepL.mono e xs vs r⟩
  | .obj _ _ xs, _, ⟨k, a, dx, vs, ev, h, n, r⟩ => ⟨k, a, dx, vs, ev, e _ _ h, n, RepL.mono e xs vs r⟩
  | .ty _, _, h => h
  | .cls _, _, h => h
  | .scr _, _, ⟨a, e, h⟩ => ⟨a, e, same_sql ‹_› h⟩
theorem RepL.mono (e : Same G G') : ∀ (ds : List D) (vs : List V), RepL K G ds vs → RepL K G' ds vs
  | [], _, h => h
  | d :: ds, _, ⟨v, r, ev, h1, h2⟩ => ⟨v, r, ev, Rep.mono e d v h1, RepL.mono e ds r h2⟩
end
theorem RepL.length : ∀ {ds : List D} {vs : List V}, RepL K G ds vs → vs.length = ds.length
  | [], _, h => by rw [h]; rfl
  | _ :: _, _, ⟨_, _, e, _, h⟩ => by rw [e, List.length_cons, List.length_cons, RepL.length h]
theorem RepL.nil : RepL K G [] [] := rfl
theorem RepL.cons {d : D} {ds : List D} {v : V} {vs : List V} (h : Rep K G d v) (t : RepL K G ds vs) : RepL K G (d :: ds) (v :: vs) := ⟨v, vs, rfl, h, t⟩
theorem RepL.append : ∀ {ds es : List D} {vs us : List V}, RepL K G ds vs → RepL K G es us → RepL K G (ds ++ es) (vs ++ us)
  | [], _, _, _, h, k => by rw [show _ = [] from h]; exact k
  | _ :: _, _, _, _, ⟨v, r, e, h1, h2⟩, k => by rw [e]; exact ⟨v, r ++ _, rfl, h1, RepL.append h2 k⟩
theorem RepL.get : ∀ {ds : List D} {vs : List V} {i : Nat} {d : D}, RepL K G ds vs → ds[i]? = some d → ∃ v, vs[i]? = some v ∧ Rep K G d v
  | [], _, _, _, _, e => by simp at e
  | _ :: _, _, 0, _, ⟨v, r, ev, h1, _⟩, e => by
    subst ev
    simp at e
    subst e
    exact ⟨v, rfl, h1⟩
  | _ :: _, _, i + 1, d, ⟨v, r, ev, _, h2⟩, e => by
    subst ev
    obtain ⟨u, q1, q2⟩ := RepL.get (i := i) (d := d) h2 (by simpa using e)
    exact ⟨u, by simpa using q1, q2⟩
theorem RepL.take : ∀ {ds : List D} {vs : List V} (n : Nat), RepL K G ds vs → RepL K G (ds.take n) (vs.take n)
  | [], _, n, h => by
    rw [show _ = [] from h]
    simp [RepL]
  | _ :: _, _, 0, ⟨v, r, ev, _, _⟩ => rfl
  | _ :: _, _, n + 1, ⟨v, r, ev, h1, h2⟩ => by
    subst ev
    exact ⟨v, _, rfl, h1, RepL.take n h2⟩
theorem RepL.drop : ∀ {ds : List D} {vs : List V} (n : Nat), RepL K G ds vs → RepL K G (ds.drop n) (vs.drop n)
  | [], _, n, h => by
    rw [show _ = [] from h]
    simp [RepL]
  | _ :: _, _, 0, h => h
  | _ :: _, _, n + 1, ⟨v, r, ev, h1, h2⟩ => by
    subst ev
    exact RepL.drop n h2
theorem RepL.reverse : ∀ {ds : List D} {vs : List V}, RepL K G ds vs → RepL K G ds.reverse vs.reverse
  | [], _, h => by rw [show _ = [] from h]; rfl
  | d :: ds, _, ⟨v, r, ev, h1, h2⟩ => by
    subst ev
    rw [List.reverse_cons, List.reverse_cons]
    exact RepL.append (RepL.reverse h2) (RepL.cons h1 RepL.nil)
theorem RepL.ofInts : ∀ {ns : List Int}, RepL K G (ns.map D.int) (ns.map V.int)
  | [] => rfl
  | n :: ns => ⟨.int n, _, rfl, rfl, RepL.ofInts⟩
end
mutual
/-- data as a key of a dict, if it is one -/
def nkD : D → Option NestedKey
  | .non => some .none
  | .bl b => some (.num (if b = true then 1 else 0))
  | .int i => some (.num i)
  | .str s => some (.text s)
  | .tup xs => match nkDs xs with
    | some ks => some (.tup ks)
    | none => none
  | _ => none
def nkDs : List D → Option (List NestedKey)
  | [] => some []
  | x :: xs => match nkD x with
    | some k => match nkDs xs with
      | some ks => some (k :: ks)
      | none => none
    | none => none
end
def nkT : D → Option NestedKey
  | .tup xs => match nkDs xs with
    | some ks => if Nat.ble (NestedKey.tup ks).depth 8 = true then some (.tup ks) else none
    | none => none
  | _ => none
class HasW (K : PySem.W.Frag) where
  w : World
  ts : List (Addr × Str)
instance (priority := 10) noW {K : PySem.W.Frag} : HasW K := ⟨⟨fun _ _ => 0, { strHash := fun _ => 0, shareClass := fun _ => 0, mergeTok := fun t => t, idOf := fun _ => 0, idOfShared := fun _ _ => 0, followText := fun _ => false, idOfImm := fun _ => 0 }⟩, []⟩
def NdO (w : World) (a : Addr) (es : List (NestedKey × Addr × V)) : HO := .ext fun h => es.length ≤ sizeLine ∧ (a == sysModules) = false ∧ ∃ xs : List (NestedKey × Addr × Value), Paired (fun p q => p.1 = q.1 ∧ p.2.1 = q.2.1 ∧ RelV p.2.2 q.2.2) es xs ∧
  ∃ o ds ep, h.get? a = some o ∧ o.ExactDict ∧ o.data = .dict ds ep ∧ ds.toList = xs.map (fun x => (⟨x.1.hash w, .ref x.2.1, x.2.2⟩ : DictEntry)) ∧ (xs.map (·.1)).Nodup
inductive W where
  | val (d : D) | loc (j : Nat)
inductive MO where
  | lst (xs : List D) | frz (xs : List D) | lsW (ws : List W) | ins (c : Str) (fs : List (Str × W)) | dK (kvs : List (Key × D)) | scr (ns : List Int) | gone | raw (o : HO) | dW (kvs : List (Str × W)) | lkW (kvs : List (Str × W)) | dN (kvs : List (NestedKey × D × D)) | tupW (ws : List W) | exW (c : Str) (fs : List (Str × W))
abbrev Env' := List (Option W)
abbrev Mu := List MO
def W.below (n : Nat) : W → Bool
  | .val _ => true
  | .loc j => decide (j < n)
def MO.below (n : Nat) : MO → Bool
  | .lsW ws => ws.all (W.below n)
  | .ins _ fs => fs.all fun p => p.2.below n
  | .dW fs => fs.all fun p => p.2.below n
  | .lkW fs => fs.all fun p => p.2.below n
  | .tupW ws => ws.all (W.below n)
  | .exW _ fs => fs.all fun p => p.2.below n
  | _ => true
section
variable (K : PySem.W.Frag) (G H : Hp) (as : List Addr)
def RepW : W → V → Prop
  | .val d, v => Rep K G d v
  | .loc j, v => ∃ a, as[j]? = some a ∧ v = .ref a
def RepWs : List W → List V → Prop
  | [], vs => vs = []
  | w :: ws, vs => ∃ v r, vs = v :: r ∧ RepW K G as w v ∧ RepWs ws r
def RepFs : List (Str × W) → List (Str × V) → Prop
  | [], vs => vs = []
  | (f, w) :: ws, vs => ∃ v r, vs = (f, v) :: r ∧ RepW K G as w v ∧ RepFs ws r
def RepK : List (Key × D) → List (Key × V) → Prop
  | [], vs => vs = []
  | (k, d) :: ks, vs => ∃ v r, vs = (k, v) :: r ∧ Rep K G d v ∧ RepK ks r
def RepN : List (NestedKey × D × D) → List (NestedKey × Addr × V) → Prop
  | [], es => es = []
  | (k, d, v) :: r, es => ∃ b y t, es = (k, b, y) :: t ∧ nkT d = some k ∧ Rep K G d (.ref b) ∧ Rep K G v y ∧ RepN r t
def kS (p : Str × V) : Key × V := (.inr p.1, p.2)
variable [HasW K]
def MOk (a : Addr) : MO → Prop
  | .lst xs => G a = none ∧ xs.length ≤ LB ∧ ∃ vs, H a = some (.lst vs) ∧ RepL K G xs vs
  | .frz xs => xs.length ≤ LB ∧ ∃ vs, G a = some (.lst vs) ∧ RepL K G xs vs
  | .lsW ws => G a = none ∧ ws.length ≤ LB ∧ ∃ vs, H a = some (.lst vs) ∧ RepWs K G as ws vs
  | .ins c fs => G a = none ∧ fs.length ≤ 100 ∧ ∃ dx vs, H a = some (.ins (He.ga K c) dx vs) ∧ RepFs K G as fs vs
  | .dK kvs => G a = none ∧ kvs.length ≤ LB ∧ ∃ vs, H a = some (.dK vs) ∧ RepK K G kvs vs
  | .scr ns => G a = none ∧ H a ≠ none ∧ SqL K H a (ns.map V.int)
  | .gone => H a ≠ none
  | .raw o => G a = none ∧ H a = some o
  | .dW fs => G a = none ∧ fs.length ≤ 100 ∧ ∃ vs : List (Str × V), H a = some (.dK (vs.map kS)) ∧ RepFs K G as fs vs
  | .lkW fs => fs.length ≤ 100 ∧ ∃ (o : Obj) (vs : List (Str × V)), G a = some (.frz o (.dK (vs.map kS))) ∧ RepFs K G as fs vs
  | .dN kvs => G a = none ∧ kvs.length ≤ LB ∧ ∃ es, H a = some (NdO (HasW.w K) a es) ∧ RepN K G kvs es
  | .tupW ws => ws.length ≤ LB ∧ ∃ vs, G a = some (.tup vs) ∧ RepWs K G as ws vs
  | .exW c fs => ∃ d vs, G a = some (exo a (He.ga K c) d) ∧ (d = none ∧ vs = [] ∨ ∃ dd, d = some dd ∧ G dd = some (exd dd vs)) ∧ RepFs K G as fs vs
def TbOk (P : Addr → Prop) : Prop := (∀ b ps, G b ≠ some (.tbl ps)) ∧ ∀ p : Addr × Str, p ∈ HasW.ts K → ¬ P p.1 ∧ G p.1 = none ∧ p.1 ∉ as ∧ ∃ ps : Array Value, H p.1 = some (.tbl ps) ∧ TriplesOk ps.toList ∧ ∀ (pos : Pos) (cv : Value), codeAmong pos ps.toList = some cv → ∃ c, cv = .ref c ∧ G c = some (LamX.CodeO c p.2)
structure Rl (P : Addr → Prop) (ρ : Env') (μ : Mu) (σ : St) : Prop where
  sub : Same G H
  pro : ∀ a, P a → G a = none ∧ H a ≠ none ∧ a ∉ as
  nd : as.Nodup
  len : as.length = μ.length
  mu : ∀ (j : Nat) (a : Addr) (m : MO), as[j]? = some a → μ[j]? = some m → MOk K G H as a m
  wf : ∀ m : MO, m ∈ μ → m.below μ.length = true
  sz : ρ.length = σ.length
  env : ∀ (i : Nat) (w : W), ρ[i]? = some (some w) → ∃ v, σ[i]? = some (some v) ∧ RepW K G as w v
  tb : TbOk K G H as P
end
structure Nx (P : Addr → Prop) (as : List Addr) (G H : Hp) (as' : List Addr) (G' H' : Hp) : Prop where
  pre : ∃ t, as' = as ++ t
  gr : Same G G'
  kp : ∀ a, P a → H' a = H a
theorem Nx.refl {P : Addr → Prop} {as : List Addr} {G H : Hp} : Nx P as G H as G H := ⟨⟨[], by simp⟩, Same.refl _, fun _ _ => rfl⟩
theorem Nx.trans {P : Addr → Prop} {as as1 as2 : List Addr} {G G1 G2 H H1 H2 : Hp} (a : Nx P as G H as1 G1 H1) (b : Nx P as1 G1 H1 as2 G2 H2) : Nx P as G H as2 G2 H2 := by
  obtain ⟨t, e⟩ := a.pre
  obtain ⟨u, f⟩ := b.pre
  exact ⟨⟨t ++ u, by rw [f, e, List.append_assoc]⟩, a.gr.trans b.gr, fun x hx => (b.kp x hx).trans (a.kp x hx)⟩
theorem at_pre {α : Type} {as as' : List α} {j : Nat} {a : α} (p : ∃ t, as' = as ++ t) (h : as[j]? = some a) : as'[j]? = some a := by
  obtain ⟨t, e⟩ := p
  rw [e, List.getElem?_append_left (List.getElem?_eq_some_iff.mp h).1]
  exact h
section
variable {K : PySem.W.Frag} [HasW K] {G G' H H' : Hp} {as as' : List Addr} {P : Addr → Prop} {ρ : Env'} {μ : Mu} {σ : St}
theorem RepW.mono {w : W} {v : V} (e : Same G G') (p : ∃ t, as' = as ++ t) (h : RepW K G as w v) : RepW K G' as' w v := by
  cases w with
  | val d => exact Rep.mono e d v h
  | loc j =>
    obtain ⟨a, q, ev⟩ := h
    exact ⟨a, at_pre p q, ev⟩
theorem RepWs.mono (e : Same G G') (p : ∃ t, as' = as ++ t) : ∀ {ws : List W} {vs : List V}, RepWs K G as ws vs → RepWs K G' as' ws vs
  | [], _, h => h
  | _ :: _, _, ⟨v, r, ev, h1, h2⟩ => ⟨v, r, ev, h1.mono e p, RepWs.mono e p h2⟩
theorem RepFs.mono (e : Same G G') (p : ∃ t, as' = as ++ t) : ∀ {ws : List (Str × W)} {vs : List (Str × V)}, RepFs K G as ws vs → RepFs K G' as' ws vs
  | [], _, h => h
  | (_, _) :: _, _, ⟨v, r, ev, h1, h2⟩ => ⟨v, r, ev, h1.mono e p, RepFs.mono e p h2⟩
theorem RepK.mono (e : Same G G') : ∀ {ks : List (Key × D)} {vs : List (Key × V)}, RepK K G ks vs → RepK K G' ks vs
  | [], _, h => h
  | (_, d) :: _, _, ⟨v, r, ev, h1, h2⟩ => ⟨v, r, ev, Rep.mono e d v h1, RepK.mono e h2⟩
theorem RepN.mono (e : Same G G') : ∀ {ks : List (NestedKey × D × D)} {vs : List (NestedKey × Addr × V)}, RepN K G ks vs → RepN K G' ks vs
  | [], _, h => h
  | (_, _, _) :: _, _, ⟨b, y, t, ev, h0, h1, h2, h3⟩ => ⟨b, y, t, ev, h0, Rep.mono e _ _ h1, Rep.mono e _ _ h2, RepN.mono e h3⟩
theorem RepWs.vals : ∀ {ds : List D} {vs : List V}, RepWs K G as (ds.map W.val) vs ↔ RepL K G ds vs
  | [], _ => Iff.rfl
  | _ :: _, _ => ⟨fun ⟨v, r, ev, h1, h2⟩ => ⟨v, r, ev, h1, RepWs.vals.mp h2⟩, fun ⟨v, r, ev, h1, h2⟩ => ⟨v, r, ev, h1, RepWs.vals.mpr h2⟩⟩
theorem RepWs.length : ∀ {ws : List W} {vs : List V}, RepWs K G as ws vs → vs.length = ws.length
  | [], _, h => by rw [h]; rfl
  | _ :: _, _, ⟨_, _, e, _, h⟩ => by rw [e, List.length_cons, List.length_cons, RepWs.length h]
theorem MOk.here {a : Addr} {m : MO} (h : MOk K G H as a m) (s : Same G H) : H a ≠ none := by
  cases m with
  | lst xs => obtain ⟨_, _, vs, e, _⟩ := h; rw [e]; simp
  | frz xs => obtain ⟨_, vs, e, _⟩ := h; rw [s _ _ e]; simp
  | lsW ws => obtain ⟨_, _, vs, e, _⟩ := h; rw [e]; simp
  | ins c fs => obtain ⟨_, _, dx, vs, e, _⟩ := h; rw [e]; simp
  | dK kvs => obtain ⟨_, _, vs, e, _⟩ := h; rw [e]; simp
  | scr ns => exact h.2.1
  | gone => exact h
  | raw o => rw [h.2]; simp
  | dW fs => obtain ⟨_, _, vs, e, _⟩ := h; rw [e]; simp
  | lkW fs => obtain ⟨_, o, vs, e, _⟩ := h; rw [s _ _ e]; simp
  | dN kvs => obtain ⟨_, _, vs, e, _⟩ := h; rw [e]; simp
  | tupW ws => obtain ⟨_, vs, e, _⟩ := h; rw [s _ _ e]; simp
  | exW c fs => obtain ⟨d, vs, e, _⟩ := h; rw [s _ _ e]; simp
theorem Rl.here (R : Rl K G H as P ρ μ σ) {a : Addr} (h : a ∈ as) : H a ≠ none := by
  obtain ⟨j, hj, e⟩ := List.getElem_of_mem h
  have hm : j < μ.length := R.len ▸ hj
  exact (R.mu j a _ (by rw [← e]; exact List.getElem?_eq_getElem hj) (List.getElem?_eq_getElem hm)).here R.sub
theorem MOk.mono {a : Addr} {m : MO} (h : MOk K G H as a m) (e : Same G G') (n : G a = none → G' a = none) (k : H' a = H a) (p : ∃ t, as' = as ++ t) : MOk K G' H' as' a m := by
  cases m with
  | lst xs => obtain ⟨g, z, vs, q, r⟩ := h; exact ⟨n g, z, vs, k.trans q, RepL.mono e _ _ r⟩
  | frz xs => obtain ⟨z, vs, q, r⟩ := h; exact ⟨z, vs, e _ _ q, RepL.mono e _ _ r⟩
  | lsW ws => obtain ⟨g, z, vs, q, r⟩ := h; exact ⟨n g, z, vs, k.trans q, r.mono e p⟩
  | ins c fs => obtain ⟨g, z, dx, vs, q, r⟩ := h; exact ⟨n g, z, dx, vs, k.trans q, r.mono e p⟩
  | dK kvs => obtain ⟨g, z, vs, q, r⟩ := h; exact ⟨n g, z, vs, k.trans q, r.mono e⟩
  | scr ns =>
    obtain ⟨g, z, q⟩ := h
    refine ⟨n g, k ▸ z, ?_⟩
    rcases q with (q | ⟨o, q⟩) | q
    · exact .inl (.inl (k.trans q))
    · exact .inl (.inr ⟨o, k.trans q⟩)
    · exact .inr q
  | gone => show H' a ≠ none; rw [k]; exact h
  | raw o => exact ⟨n h.1, k.trans h.2⟩
  | dW fs => obtain ⟨g, z, vs, q, r⟩ := h; exact ⟨n g, z, vs, k.trans q, r.mono e p⟩
  | lkW fs => obtain ⟨z, o, vs, q, r⟩ := h; exact ⟨z, o, vs, e _ _ q, r.mono e p⟩
  | dN kvs => obtain ⟨g, z, vs, q, r⟩ := h; exact ⟨n g, z, vs, k.trans q, r.mono e⟩
  | tupW ws => obtain ⟨z, vs, q, r⟩ := h; exact ⟨z, vs, e _ _ q, r.mono e p⟩
  | exW c fs => obtain ⟨d, vs, q, z, r⟩ := h; exact ⟨d, vs, e _ _ q, z.imp id fun ⟨dd, z1, z2⟩ => ⟨dd, z1, e _ _ z2⟩, r.mono e p⟩
theorem TbOk.mono {as2 : List Addr} {P P2 : Addr → Prop} (h : TbOk K G H as P) (e : Same G G') (t : ∀ b ps, G' b ≠ some (.tbl ps)) (k : ∀ p : Addr, ¬ P p → G p = none → p ∉ as → H p ≠ none → ¬ P2 p ∧ G' p = none ∧ p ∉ as2 ∧ H' p = H p) : TbOk K G' H' as2 P2 := ⟨t, fun p hp => by
  obtain ⟨h0, h1, h2, ps, h3, h4, h5⟩ := h.2 p hp
  obtain ⟨k0, k1, k2, k3⟩ := k p.1 h0 h1 h2 (by rw [h3]; simp)
  exact ⟨k0, k1, k2, ps, k3.trans h3, h4, fun pos cv hc => let ⟨c, e1, e2⟩ := h5 pos cv hc; ⟨c, e1, e _ _ e2⟩⟩⟩
theorem TbOk.updN {P : Addr → Prop} (h : TbOk K G H as P) {a : Addr} {o : HO} (ho : ∀ ps, o ≠ .tbl ps) : ∀ b ps, upd G a o b ≠ some (.tbl ps) := fun b ps z => by
  by_cases c : b = a
  · rw [c, upd_same] at z
    exact ho ps (Option.some.inj z)
  · rw [upd_ne c] at z
    exact h.1 b ps z
theorem TbOk.ne {P : Addr → Prop} (h : TbOk K G H as P) {a : Addr} (ha : H a = none) : ∀ q ∈ HasW.ts K, q.1 ≠ a := fun q hq z => by
  obtain ⟨_, _, _, ps, h3, _⟩ := h.2 q hq
  rw [z, ha] at h3
  cases h3
theorem Rl.imm (R : Rl K G H as P ρ μ σ) {p : Addr} (hp : H p = none) (o : HO) (ho : ∀ ps, o ≠ HO.tbl ps := by intro ps z; cases z) : Rl K (upd G p o) (upd H p o) as P ρ μ σ ∧ Nx P as G H as (upd G p o) (upd H p o) := by
  have gp : G p = none := R.sub.free hp
  have e : Same G (upd G p o) := fun b u h => by rw [upd_ne (ne_of_none h gp)]; exact h
  have ne : ∀ {a}, H a ≠ none → a ≠ p := fun h z => h (by rw [z]; exact hp)
  refine ⟨⟨fun b u h => ?_, fun a h => ?_, R.nd, R.len, fun j a m h1 h2 => ?_, R.wf, R.sz, fun i w h => ?_, R.tb.mono e (R.tb.updN ho) fun a t0 t1 t2 t3 => ⟨t0, by rw [upd_ne (ne t3)]; exact t1, t2, upd_ne (ne t3)⟩⟩, ⟨⟨[], by simp⟩, e, fun a h => upd_ne (ne (R.pro a h).2.1)⟩⟩
  · by_cases q : b = p
    · subst q
      rw [upd_same] at h ⊢
      exact h
    · rw [upd_ne q] at h ⊢
      exact R.sub _ _ h
  · obtain ⟨h1, h2, h3⟩ := R.pro a h
    exact ⟨by rw [upd_ne (ne h2)]; exact h1, by rw [upd_ne (ne h2)]; exact h2, h3⟩
  · have q := R.mu j a m h1 h2
    have z := ne (q.here R.sub)
    exact q.mono e (fun g => by rw [upd_ne z]; exact g) (upd_ne z) ⟨[], by simp⟩
  · obtain ⟨v, h1, h2⟩ := R.env i w h
    exact ⟨v, h1, h2.mono e ⟨[], by simp⟩⟩
theorem below_mono {m n : Nat} (h : m ≤ n) {o : MO} (q : o.below m = true) : o.below n = true := by
  have hw : ∀ w : W, w.below m = true → w.below n = true := fun w hw => by
    cases w with
    | val d => rfl
    | loc j => exact decide_eq_true (Nat.lt_of_lt_of_le (of_decide_eq_true hw) h)
  cases o with
  | lsW ws => exact List.all_eq_true.mpr fun w hm => hw w (List.all_eq_true.mp q w hm)
  | ins c fs => exact List.all_eq_true.mpr fun w hm => hw w.2 (List.all_eq_true.mp q w hm)
  | dW fs => exact List.all_eq_true.mpr fun w hm => hw w.2 (List.all_eq_true.mp q w hm)
  | lkW fs => exact List.all_eq_true.mpr fun w hm => hw w.2 (List.all_eq_true.mp q w hm)
  | tupW ws => exact List.all_eq_true.mpr fun w hm => hw w (List.all_eq_true.mp q w hm)
  | exW c fs => exact List.all_eq_true.mpr fun w hm => hw w.2 (List.all_eq_true.mp q w hm)
  | _ => rfl
theorem Rl.mut (R : Rl K G H as P ρ μ σ) {p : Addr} (hp : H p = none) {o : HO} {m : MO} (hm : MOk K G (upd H p o) (as ++ [p]) p m) (hb : m.below (μ.length + 1) = true) :
    Rl K G (upd H p o) (as ++ [p]) P ρ (μ ++ [m]) σ ∧ Nx P as G H (as ++ [p]) G (upd H p o) := by
  have gp : G p = none := R.sub.free hp
  have ne : ∀ {a}, H a ≠ none → a ≠ p := fun h z => h (by rw [z]; exact hp)
  have pin : p ∉ as := fun z => R.here z hp
  refine ⟨⟨fun b u h => ?_, fun a h => ?_, ?_, by simp [R.len], fun j a k h1 h2 => ?_, fun k hk => ?_, R.sz, fun i w h => ?_, R.tb.mono (Same.refl _) R.tb.1 fun a t0 t1 t2 t3 => ⟨t0, t1, fun z => (List.mem_append.mp z).elim t2 fun z => ne t3 (by simpa using z), upd_ne (ne t3)⟩⟩, ⟨⟨[p], rfl⟩, Same.refl _, fun a h => upd_ne (ne (R.pro a h).2.1)⟩⟩
  · rw [upd_ne (ne_of_none h gp)]
    exact R.sub _ _ h
  · obtain ⟨h1, h2, h3⟩ := R.pro a h
    refine ⟨h1, by rw [upd_ne (ne h2)]; exact h2, fun z => ?_⟩
    rcases List.mem_append.mp z with z | z
    · exact h3 z
    · exact ne h2 (by simpa using z)
  · refine List.nodup_append.mpr ⟨R.nd, by simp, fun a ha b hb => ?_⟩
    have : b = p := by simpa using hb
    subst this
    exact fun z => pin (z ▸ ha)
  · by_cases q : j < as.length
    · rw [List.getElem?_append_left q] at h1
      rw [List.getElem?_append_left (R.len ▸ q)] at h2
      have z := R.mu j a k h1 h2
      exact z.mono (Same.refl _) id (upd_ne (ne (z.here R.sub))) ⟨[p], rfl⟩
    · have hj : j = as.length := by
        have := (List.getElem?_eq_some_iff.mp h1).1
        simp at this
        omega
      subst hj
      rw [List.getElem?_append_right (Nat.le_refl _)] at h1
      rw [List.getElem?_append_right (by rw [R.len]; exact Nat.le_refl _)] at h2
      simp at h1
      rw [R.len] at h2
      simp at h2
      subst h1 h2
      exact hm
  · rw [List.length_append, List.length_singleton]
    rcases List.mem_append.mp hk with z | z
    · exact below_mono (Nat.le_succ _) (R.wf k z)
    · have : k = m := by simpa using z
      subst this
      exact hb
  · obtain ⟨v, h1, h2⟩ := R.env i w h
    exact ⟨v, h1, h2.mono (Same.refl _) ⟨[p], rfl⟩⟩
theorem Rl.mutI (R : Rl K G H as P ρ μ σ) {p : Addr} (hp : H p = none) {o : HO} {m : MO} (hm : MOk K (upd G p o) (upd H p o) (as ++ [p]) p m) (hb : m.below (μ.length + 1) = true) (ho : ∀ ps, o ≠ HO.tbl ps := by intro ps z; cases z) :
    Rl K (upd G p o) (upd H p o) (as ++ [p]) P ρ (μ ++ [m]) σ ∧ Nx P as G H (as ++ [p]) (upd G p o) (upd H p o) := by
  obtain ⟨R1, n1⟩ := R.imm hp o ho
  have ne : ∀ {a}, H a ≠ none → a ≠ p := fun h z => h (by rw [z]; exact hp)
  have pin : p ∉ as := fun z => R.here z hp
  refine ⟨⟨R1.sub, fun a h => ?_, ?_, by simp [R.len], fun j a k h1 h2 => ?_, fun k hk => ?_, R.sz, fun i w h => ?_, R.tb.mono n1.gr R1.tb.1 fun a t0 t1 t2 t3 => ⟨t0, by rw [upd_ne (ne t3)]; exact t1, fun z => (List.mem_append.mp z).elim t2 fun z => ne t3 (by simpa using z), upd_ne (ne t3)⟩⟩, ⟨⟨[p], rfl⟩, n1.gr, n1.kp⟩⟩
  · obtain ⟨h1, h2, h3⟩ := R1.pro a h
    refine ⟨h1, h2, fun z => ?_⟩
    rcases List.mem_append.mp z with z | z
    · exact h3 z
    · exact ne (R.pro a h).2.1 (by simpa using z)
  · refine List.nodup_append.mpr ⟨R.nd, by simp, fun a ha b hb => ?_⟩
    have : b = p := by simpa using hb
    subst this
    exact fun z => pin (z ▸ ha)
  · by_cases q : j < as.length
    · rw [List.getElem?_append_left q] at h1
      rw [List.getElem?_append_left (R.len ▸ q)] at h2
      exact (R1.mu j a k h1 h2).mono (Same.refl _) id rfl ⟨[p], rfl⟩
    · have hj : j = as.length := by
        have := (List.getElem?_eq_some_iff.mp h1).1
        simp at this
        omega
      subst hj
      rw [List.getElem?_append_right (Nat.le_refl _)] at h1
      rw [List.getElem?_append_right (by rw [R.len]; exact Nat.le_refl _)] at h2
      simp at h1
      rw [R.len] at h2
      simp at h2
      subst h1 h2
      exact hm
  · rw [List.length_append, List.length_singleton]
    rcases List.mem_append.mp hk with z | z
    · exact below_mono (Nat.le_succ _) (R.wf k z)
    · have : k = m := by simpa using z
      subst this
      exact hb
  · obtain ⟨v, h1, h2⟩ := R1.env i w h
    exact ⟨v, h1, h2.mono (Same.refl _) ⟨[p], rfl⟩⟩
theorem Rl.put (R : Rl K G H as P ρ μ σ) {j : Nat} {a : Addr} {o : HO} {m m' : MO} (ha : as[j]? = some a) (hm : μ[j]? = some m) (hg : G a = none) (h : MOk K G (upd H a o) as a m') (hb : m'.below μ.length = true) :
    Rl K G (upd H a o) as P ρ (μ.set j m') σ ∧ Nx P as G H as G (upd H a o) := by
  have inA : a ∈ as := List.mem_of_getElem? ha
  have neP : ∀ {b}, P b → b ≠ a := fun hp z => (R.pro _ hp).2.2 (z ▸ inA)
  refine ⟨⟨fun b u q => ?_, fun b hp => ?_, R.nd, by rw [List.length_set]; exact R.len, fun i b k h1 h2 => ?_, fun k hk => ?_, R.sz, R.env, R.tb.mono (Same.refl _) R.tb.1 fun b t0 t1 t2 t3 => ⟨t0, t1, t2, upd_ne fun z => t2 (z ▸ inA)⟩⟩, ⟨⟨[], by simp⟩, Same.refl _, fun b hp => upd_ne (neP hp)⟩⟩
  · rw [upd_ne (ne_of_none q hg)]
    exact R.sub _ _ q
  · obtain ⟨h1, h2, h3⟩ := R.pro b hp
    exact ⟨h1, by rw [upd_ne (neP hp)]; exact h2, h3⟩
  · by_cases q : i = j
    · subst q
      rw [ha] at h1
      cases h1
      rw [List.getElem?_set_self (List.getElem?_eq_some_iff.mp hm).1] at h2
      cases h2
      exact h
    · rw [List.getElem?_set_ne (fun z => q z.symm)] at h2
      have ne : b ≠ a := fun z => by
        subst z
        exact q ((List.getElem?_inj (List.getElem?_eq_some_iff.mp h1).1 R.nd).mp (h1.trans ha.symm))
      exact (R.mu i b k h1 h2).mono (Same.refl _) id (upd_ne ne) ⟨[], by simp⟩
  · rw [List.length_set]
    rcases List.mem_or_eq_of_mem_set hk with z | z
    · exact R.wf k z
    · rw [z]
      exact hb
theorem Rl.freeze (R : Rl K G H as P ρ μ σ) {j : Nat} {xs : List D} (hm : μ[j]? = some (.lst xs)) : ∃ a vs, as[j]? = some a ∧ Rl K (upd G a (.lst vs)) H as P ρ (μ.set j (.frz xs)) σ ∧ Nx P as G H as (upd G a (.lst vs)) H ∧ Rep K (upd G a (.lst vs)) (.lst xs) (.ref a) := by
  have hj : j < as.length := by rw [R.len]; exact (List.getElem?_eq_some_iff.mp hm).1
  obtain ⟨a, ha⟩ : ∃ a, as[j]? = some a := ⟨_, List.getElem?_eq_getElem hj⟩
  obtain ⟨g, z, vs, q, r⟩ := R.mu j a _ ha hm
  have inA : a ∈ as := List.mem_of_getElem? ha
  have e : Same G (upd G a (.lst vs)) := fun b u h => by rw [upd_ne (ne_of_none h g)]; exact h
  refine ⟨a, vs, ha, ⟨fun b u h => ?_, fun b hp => ?_, R.nd, by rw [List.length_set]; exact R.len, fun i b k h1 h2 => ?_, fun k hk => ?_, R.sz, fun i w h => ?_, R.tb.mono e (R.tb.updN fun ps z => by cases z) fun b t0 t1 t2 t3 => ⟨t0, by rw [upd_ne (show b ≠ a from fun z => t2 (by rw [z]; exact inA))]; exact t1, t2, rfl⟩⟩, ⟨⟨[], by simp⟩, e, fun _ _ => rfl⟩, z, a, vs, rfl, upd_same, RepL.mono e _ _ r⟩
  · by_cases y : b = a
    · subst y
      rw [upd_same] at h
      rw [q]
      exact h
    · rw [upd_ne y] at h
      exact R.sub _ _ h
  · obtain ⟨h1, h2, h3⟩ := R.pro b hp
    have nb : b ≠ a := fun y => h3 (by rw [y]; exact inA)
    exact ⟨by rw [upd_ne nb]; exact h1, h2, h3⟩
  · by_cases y : i = j
    · subst y
      rw [ha] at h1
      cases h1
      rw [List.getElem?_set_self (List.getElem?_eq_some_iff.mp hm).1] at h2
      cases h2
      exact ⟨z, vs, upd_same, RepL.mono e _ _ r⟩
    · rw [List.getElem?_set_ne (fun z => y z.symm)] at h2
      have ne : b ≠ a := fun z => by
        subst z
        exact y ((List.getElem?_inj (List.getElem?_eq_some_iff.mp h1).1 R.nd).mp (h1.trans ha.symm))
      exact (R.mu i b k h1 h2).mono e (fun g' => by rw [upd_ne ne]; exact g') rfl ⟨[], by simp⟩
  · rw [List.length_set]
    rcases List.mem_or_eq_of_mem_set hk with z | z
    · exact R.wf k z
    · rw [z]
      rfl
  · obtain ⟨v, h1, h2⟩ := R.env i w h
    exact ⟨v, h1, h2.mono e ⟨[], by simp⟩⟩
theorem Rl.to (R : Rl K G H as P ρ μ σ) {ρ' : Env'} {σ' : St} (hz : ρ'.length = σ'.length) (he : ∀ (i : Nat) (w : W), ρ'[i]? = some (some w) → ∃ v, σ'[i]? = some (some v) ∧ RepW K G as w v) : Rl K G H as P ρ' μ σ' := ⟨R.sub, R.pro, R.nd, R.len, R.mu, R.wf, hz, he, R.tb⟩
theorem Rl.nil (R : Rl K G H as P ρ μ σ) : Rl K G H as P [] μ [] := R.to rfl fun i w h => by simp at h
theorem Rl.set (R : Rl K G H as P ρ μ σ) {i : Nat} {w : W} {v : V} (h : RepW K G as w v) : Rl K G H as P (ρ.set i (some w)) μ (σ.set i (some v)) :=
  R.to (by simp [R.sz]) fun k u hk => by
    by_cases q : k = i
    · subst q
      have hl : k < ρ.length := by
        have := (List.getElem?_eq_some_iff.mp hk).1
        simpa using this
      rw [List.getElem?_set_self hl] at hk
      cases hk
      exact ⟨v, List.getElem?_set_self (R.sz ▸ hl), h⟩
    · rw [List.getElem?_set_ne (fun z => q z.symm)] at hk
      rw [List.getElem?_set_ne (fun z => q z.symm)]
      exact R.env k u hk
theorem Rl.drop (R : Rl K G H as P ρ μ σ) {μ0 t : Mu} (e : μ = μ0 ++ t) (wf : ∀ m : MO, m ∈ μ0 → m.below μ0.length = true) : Rl K G H (as.take μ0.length) P [] μ0 [] := by
  have hl : μ0.length ≤ as.length := by rw [R.len, e, List.length_append]; omega
  refine ⟨R.sub, fun a h => ?_, R.nd.sublist (List.take_sublist _ _), by rw [List.length_take]; omega, fun j a m h1 h2 => ?_, wf, rfl, fun i w h => by simp at h, R.tb.mono (Same.refl _) R.tb.1 fun a t0 t1 t2 _ => ⟨t0, t1, fun z => t2 (List.mem_of_mem_take z), rfl⟩⟩
  · obtain ⟨h1, h2, h3⟩ := R.pro a h
    exact ⟨h1, h2, fun z => h3 (List.mem_of_mem_take z)⟩
  · have hj : j < μ0.length := (List.getElem?_eq_some_iff.mp h2).1
    rw [List.getElem?_take_of_lt hj] at h1
    have q := R.mu j a m h1 (by rw [e, List.getElem?_append_left hj]; exact h2)
    have hw : ∀ (w : W) (v : V), w.below μ0.length = true → RepW K G as w v → RepW K G (as.take μ0.length) w v := fun w v hb hr => by
      cases w with
      | val d => exact hr
      | loc k =>
        obtain ⟨b, q1, q2⟩ := hr
        exact ⟨b, by rw [List.getElem?_take_of_lt (of_decide_eq_true hb)]; exact q1, q2⟩
    have hws : ∀ (ws : List W) (vs : List V), ws.all (W.below μ0.length) = true → RepWs K G as ws vs → RepWs K G (as.take μ0.length) ws vs := by
      intro ws
      induction ws with
      | nil => exact fun vs _ h => h
      | cons w ws ih =>
        rintro vs hb ⟨v, r, ev, h1, h2⟩
        rw [List.all_cons, Bool.and_eq_true] at hb
        exact ⟨v, r, ev, hw w v hb.1 h1, ih r hb.2 h2⟩
    have hfs : ∀ (ws : List (Str × W)) (vs : List (Str × V)), (ws.all fun p => p.2.below μ0.length) = true → RepFs K G as ws vs → RepFs K G (as.take μ0.length) ws vs := by
      intro ws
      induction ws with
      | nil => exact fun vs _ h => h
      | cons w ws ih =>
        rintro vs hb ⟨v, r, ev, h1, h2⟩
        rw [List.all_cons, Bool.and_eq_true] at hb
        exact ⟨v, r, ev, hw w.2 v hb.1 h1, ih r hb.2 h2⟩
    have hm := wf m (List.mem_of_getElem? h2)
    cases m with
    | lsW ws => obtain ⟨g, z, vs, q, r⟩ := q; exact ⟨g, z, vs, q, hws ws vs hm r⟩
    | ins c fs => obtain ⟨g, z, dx, vs, q, r⟩ := q; exact ⟨g, z, dx, vs, q, hfs fs vs hm r⟩
    | lst xs => exact q
    | frz xs => exact q
    | dK kvs => exact q
    | scr ns => exact q
    | gone => exact q
    | raw o => exact q
    | dW fs => obtain ⟨g, z, vs, q, r⟩ := q; exact ⟨g, z, vs, q, hfs fs vs hm r⟩
    | lkW fs => obtain ⟨z, o, vs, q, r⟩ := q; exact ⟨z, o, vs, q, hfs fs vs hm r⟩
    | dN kvs => exact q
    | tupW ws => obtain ⟨z, vs, q, r⟩ := q; exact ⟨z, vs, q, hws ws vs hm r⟩
    | exW c fs => obtain ⟨d, vs, q, z, r⟩ := q; exact ⟨d, vs, q, z, hfs fs vs hm r⟩
end
end DK
namespace DK
open PySem PySem.Spec L2
section
variable (K : PySem.W.Frag) [HasW K]
def Ev (te : TE) (ρ : Env') (μ : Mu) (w : W) (μ' : Mu) : Prop := ∀ (P : Addr → Prop) (as : List Addr) (σ : St) (G H : Hp), Rl K G H as P ρ μ σ → ∀ Q : VK,
  (∀ v as' G' H', Nx P as G H as' G' H' → Rl K G' H' as' P ρ μ' σ → RepW K G' as' w v → Q v H') → te σ H Q
def EvB (tt : TT) (ρ : Env') (μ : Mu) (b : Bool) (μ' : Mu) : Prop := ∀ (P : Addr → Prop) (as : List Addr) (σ : St) (G H : Hp), Rl K G H as P ρ μ σ → ∀ Q : Bool → Hp → Prop,
  (∀ as' G' H', Nx P as G H as' G' H' → Rl K G' H' as' P ρ μ' σ → Q b H') → tt σ H Q
def EvA (ta : TA) (ρ : Env') (μ : Mu) (ws : List W) (μ' : Mu) : Prop := ∀ (P : Addr → Prop) (as : List Addr) (σ : St) (G H : Hp), Rl K G H as P ρ μ σ → ∀ Q : List V → Hp → Prop,
  (∀ vs as' G' H', Nx P as G H as' G' H' → Rl K G' H' as' P ρ μ' σ → RepWs K G' as' ws vs → Q vs H') → ta σ H Q
inductive Out where
  | nx (ρ : Env') (μ : Mu) | rt (w : W) (μ : Mu) | bk (ρ : Env') (μ : Mu) | ct (ρ : Env') (μ : Mu)
def OutOk (P : Addr → Prop) (as : List Addr) (G H : Hp) (E : Ends) : Out → Prop
  | .nx ρ' μ' => ∀ as' σ' G' H', Nx P as G H as' G' H' → Rl K G' H' as' P ρ' μ' σ' → E.nx σ' H'
  | .rt w μ' => ∀ v as' G' H', Nx P as G H as' G' H' → Rl K G' H' as' P [] μ' [] → RepW K G' as' w v → E.rt v H'
  | .bk ρ' μ' => ∀ as' σ' G' H', Nx P as G H as' G' H' → Rl K G' H' as' P ρ' μ' σ' → E.bk σ' H'
  | .ct ρ' μ' => ∀ as' σ' G' H', Nx P as G H as' G' H' → Rl K G' H' as' P ρ' μ' σ' → E.ct σ' H'
def Ex (ts : TS) (ρ : Env') (μ : Mu) (o : Out) : Prop := ∀ (P : Addr → Prop) (as : List Addr) (σ : St) (G H : Hp), Rl K G H as P ρ μ σ → ∀ E : Ends, OutOk K P as G H E o → ts E σ H
def EvG (g : TG) (w : W) (ρ ρ' : Env') : Prop := ∀ (P : Addr → Prop) (as : List Addr) (μ : Mu) (σ : St) (G H : Hp) (v : V), Rl K G H as P ρ μ σ → RepW K G as w v → ∀ Q : St → Hp → Prop,
  (∀ σ', Rl K G H as P ρ' μ σ' → Q σ' H) → g v σ H Q
def Op2 (r : R2) (a b d : D) : Prop := ∀ (P : Addr → Prop) (as : List Addr) (ρ : Env') (μ : Mu) (σ : St) (G H : Hp) (x y : V), Rl K G H as P ρ μ σ → Rep K G a x → Rep K G b y → ∀ Q : VK,
  (∀ v G' H', Nx P as G H as G' H' → Rl K G' H' as P ρ μ σ → Rep K G' d v → Q v H') → r x y H Q
end
section
variable {K : PySem.W.Frag} [HasW K] {ρ ρ1 ρ2 : Env'} {μ μ1 μ2 μ3 : Mu} {ta tb te tc : TE} {t u : TT} {w : W} {a b d : D} {r : R2} {i : Nat}
theorem ev_var (h : ρ[i]? = some (some w)) : Ev K (tVar i) ρ μ w μ := fun P as σ G H R Q q => by
  obtain ⟨v, h1, h2⟩ := R.env i w h
  exact ⟨v, h1, q v as G H .refl R h2⟩
theorem ev_int {n : Int} : Ev K (tC (.int n)) ρ μ (.val (.int n)) μ := fun P as σ G H R Q q => q _ as G H .refl R rfl
theorem ev_bl {n : Bool} : Ev K (tC (.bl n)) ρ μ (.val (.bl n)) μ := fun P as σ G H R Q q => q _ as G H .refl R rfl
theorem ev_non : Ev K (tC .non) ρ μ (.val .non) μ := fun P as σ G H R Q q => q _ as G H .refl R rfl
theorem ev_str {s : Str} (h : sOk s := by exact ⟨by decide +kernel, by decide +kernel⟩) : Ev K (tC (.str s)) ρ μ (.val (.str s)) μ := fun P as σ G H R Q q => q _ as G H .refl R ⟨rfl, h⟩
theorem eb_test {k : Bool} (h : Ev K te ρ μ (.val (.bl k)) μ1) : EvB K (tTest te) ρ μ k μ1 := fun P as σ G H R Q q =>
  h P as σ G H R _ fun v as1 G1 H1 n1 R1 r1 => ⟨k, r1, q as1 G1 H1 n1 R1⟩
theorem eb_B {k : Bool} (h : Ev K te ρ μ (.val (.bl k)) μ1) : EvB K (tB te) ρ μ k μ1 := fun P as σ G H R Q q =>
  h P as σ G H R _ fun v as1 G1 H1 n1 R1 r1 => ⟨k, r1, q as1 G1 H1 n1 R1⟩
theorem eb_not {k : Bool} (h : EvB K t ρ μ k μ1) : EvB K (tNot t) ρ μ (!k) μ1 := fun P as σ G H R Q q => h P as σ G H R _ fun as1 G1 H1 n1 R1 => q as1 G1 H1 n1 R1
theorem ev_not {k : Bool} (ha : Ev K ta ρ μ (.val (.bl k)) μ1) : Ev K (tNotV ta) ρ μ (.val (.bl (!k))) μ1 := fun P as σ G H R Q q =>
  ha P as σ G H R _ fun v as1 G1 H1 n1 R1 r1 => ⟨k, r1, q _ as1 G1 H1 n1 R1 rfl⟩
theorem ev_if {k : Bool} (hc : EvB K t ρ μ k μ1) (ha : k = true → Ev K ta ρ μ1 w μ2) (hb : k = false → Ev K tb ρ μ1 w μ2) : Ev K (tIf t ta tb) ρ μ w μ2 := fun P as σ G H R Q q =>
  hc P as σ G H R _ fun as1 G1 H1 n1 R1 => by
    cases k with
    | true => exact iteT (ha rfl P as1 σ G1 H1 R1 Q fun v as2 G2 H2 n2 R2 r2 => q v as2 G2 H2 (n1.trans n2) R2 r2)
    | false => exact iteF (hb rfl P as1 σ G1 H1 R1 Q fun v as2 G2 H2 n2 R2 r2 => q v as2 G2 H2 (n1.trans n2) R2 r2)
theorem ea_nil : EvA K tNil ρ μ [] μ := fun P as σ G H R Q q => q [] as G H .refl R rfl
theorem ea_cons {tr : TA} {ws : List W} (h : Ev K te ρ μ w μ1) (hr : EvA K tr ρ μ1 ws μ2) : EvA K (tCons te tr) ρ μ (w :: ws) μ2 := fun P as σ G H R Q q =>
  h P as σ G H R _ fun v as1 G1 H1 n1 R1 r1 => hr P as1 σ G1 H1 R1 _ fun vs as2 G2 H2 n2 R2 r2 => q (v :: vs) as2 G2 H2 (n1.trans n2) R2 ⟨v, vs, rfl, r1.mono n2.gr n2.pre, r2⟩
def EvD (K : PySem.W.Frag) [HasW K] (ta : TA) (ρ : Env') (μ : Mu) (ds : List D) (μ' : Mu) : Prop := EvA K ta ρ μ (ds.map W.val) μ'
theorem ev_lst {t : TA} {ds : List D} (h : EvD K t ρ μ ds μ1) (hz : ds.length ≤ LB) : Ev K (tLst t) ρ μ (.val (.lst ds)) μ1 := fun P as σ G H R Q q =>
  h P as σ G H R _ fun vs as1 G1 H1 n1 R1 r1 => by
    have r := RepWs.vals.mp r1
    refine ⟨by rw [r.length]; exact Nat.le_trans hz (by decide), fun p hp => ?_⟩
    obtain ⟨R2, n2⟩ := R1.imm hp (.lst vs)
    exact q _ as1 _ _ (n1.trans n2) R2 ⟨hz, p, vs, rfl, upd_same, RepL.mono n2.gr _ _ r⟩
def tLstM (t : TA) : TE := tLst t
theorem ev_lstM {t : TA} {ds : List D} (h : EvD K t ρ μ ds μ1) (hz : ds.length ≤ LB) : Ev K (tLstM t) ρ μ (.loc μ1.length) (μ1 ++ [.lst ds]) := fun P as σ G H R Q q =>
  h P as σ G H R _ fun vs as1 G1 H1 n1 R1 r1 => by
    have r := RepWs.vals.mp r1
    refine ⟨by rw [r.length]; exact Nat.le_trans hz (by decide), fun p hp => ?_⟩
    obtain ⟨R2, n2⟩ := R1.mut (m := .lst ds) hp ⟨R1.sub.free hp, hz, vs, upd_same, r⟩ rfl
    exact q _ _ _ _ (n1.trans n2) R2 ⟨p, by rw [List.getElem?_append_right (by rw [R1.len]; exact Nat.le_refl _), R1.len]; simp, rfl⟩
def fpos (f : Str) : List Str → Nat
  | [] => 0
  | n :: ns => if (f == n) = true then 0 else fpos f ns + 1
theorem eg_name {w : W} : EvG K (gName i) w ρ (ρ.set i (some w)) := fun P as μ σ G H v R r Q q => q _ (R.set r)
variable {ts us : TS} {o : Out}
theorem OutOk.after {P : Addr → Prop} {as as1 : List Addr} {G G1 H H1 : Hp} {E : Ends} (n : Nx P as G H as1 G1 H1) (h : OutOk K P as G H E o) : OutOk K P as1 G1 H1 E o := by
  cases o with
  | nx ρ' μ' => exact fun as' σ' G' H' n' R' => h as' σ' G' H' (n.trans n') R'
  | rt w μ' => exact fun v as' G' H' n' R' r' => h v as' G' H' (n.trans n') R' r'
  | bk ρ' μ' => exact fun as' σ' G' H' n' R' => h as' σ' G' H' (n.trans n') R'
  | ct ρ' μ' => exact fun as' σ' G' H' n' R' => h as' σ' G' H' (n.trans n') R'
theorem ex_seq (h1 : Ex K ts ρ μ (.nx ρ1 μ1)) (h2 : Ex K us ρ1 μ1 o) : Ex K (tSeq ts us) ρ μ o := fun P as σ G H R E q =>
  h1 P as σ G H R _ fun as' σ' G' H' n' R' => h2 P as' σ' G' H' R' E (q.after n')
theorem ex_seqR (h1 : Ex K ts ρ μ (.rt w μ1)) : Ex K (tSeq ts us) ρ μ (.rt w μ1) := fun P as σ G H R E q => h1 P as σ G H R _ q
theorem ex_seqC (h1 : Ex K ts ρ μ (.ct ρ1 μ1)) : Ex K (tSeq ts us) ρ μ (.ct ρ1 μ1) := fun P as σ G H R E q => h1 P as σ G H R _ q
theorem ex_seqB (h1 : Ex K ts ρ μ (.bk ρ1 μ1)) : Ex K (tSeq ts us) ρ μ (.bk ρ1 μ1) := fun P as σ G H R E q => h1 P as σ G H R _ q
theorem ex_next : Ex K tNext ρ μ (.nx ρ μ) := fun P as σ G H R E q => q as σ G H .refl R
theorem ex_ret (h : Ev K te ρ μ w μ1) : Ex K (tRet te) ρ μ (.rt w μ1) := fun P as σ G H R E q => h P as σ G H R _ fun v as1 G1 H1 n1 R1 r1 => q v as1 G1 H1 n1 R1.nil r1
theorem ex_drop (h : Ev K te ρ μ w μ1) : Ex K (tDrop te) ρ μ (.nx ρ μ1) := fun P as σ G H R E q => h P as σ G H R _ fun v as1 G1 H1 n1 R1 r1 => q as1 σ G1 H1 n1 R1
theorem ex_asg {g : TG} (h : Ev K te ρ μ w μ1) (hg : EvG K g w ρ ρ1) : Ex K (tAsg te g) ρ μ (.nx ρ1 μ1) := fun P as σ G H R E q => h P as σ G H R _ fun v as1 G1 H1 n1 R1 r1 => hg P as1 μ1 σ G1 H1 v R1 r1 _ fun σ' R' => q as1 σ' G1 H1 n1 R'
theorem ex_if {k : Bool} (hc : EvB K t ρ μ k μ1) (ha : k = true → Ex K ts ρ μ1 o) (hb : k = false → Ex K us ρ μ1 o) : Ex K (tIfS t ts us) ρ μ o := fun P as σ G H R E q =>
  hc P as σ G H R _ fun as1 G1 H1 n1 R1 => by
    cases k with
    | true => exact iteT (ha rfl P as1 σ G1 H1 R1 E (q.after n1))
    | false => exact iteF (hb rfl P as1 σ G1 H1 R1 E (q.after n1))
def ItD (K : PySem.W.Frag) [HasW K] (G : Hp) (as0 : List Addr) (C : Mu → Prop) (J : It) (xs : List D) : Prop := ∀ (i : Nat) (P : Addr → Prop) (as : List Addr) (ρ : Env') (μ : Mu) (σ : St) (G1 H : Hp), Same G G1 → (∃ t, as = as0 ++ t) → C μ → Rl K G1 H as P ρ μ σ →
  (∀ d, xs[i]? = some d → J.go i H ∧ ∀ x H', J.yld i H x H' → ∃ G2, Nx P as G1 H as G2 H' ∧ Rl K G2 H' as P ρ μ σ ∧ Rep K G2 d x) ∧ (xs[i]? = none → J.stop i H)
def EvI (K : PySem.W.Frag) [HasW K] (wi : TI) (ρ : Env') (μ : Mu) (xs : List D) (μ' : Mu) (C : Mu → Prop) : Prop := C μ' ∧ ∀ (P : Addr → Prop) (as : List Addr) (σ : St) (G H : Hp), Rl K G H as P ρ μ σ → ∀ R : It → Hp → Prop,
  (∀ J as' G' H', Nx P as G H as' G' H' → Rl K G' H' as' P ρ μ' σ → ItD K G' as' C J xs → R J H') → wi σ H R
abbrev CT : Mu → Prop := fun _ => True
theorem ei_list {xs : List D} (h : Ev K te ρ μ (.val (.lst xs)) μ1) : EvI K (iList K te) ρ μ xs μ1 CT := ⟨trivial, fun P as σ G H R Q q =>
  h P as σ G H R _ fun v as1 G1 H1 n1 R1 ⟨hz, a, vs, ev, g, r⟩ => by
    refine ⟨a, ev, ⟨vs, SqL.of (R1.sub _ _ g)⟩, q _ as1 G1 H1 n1 R1 fun i P' as' ρ' μ' σ' G' H' s _ _ R' => ?_⟩
    have hs : SqL K H' a vs := SqL.of (R'.sub _ _ (s _ _ g))
    constructor
    · intro d hd
      obtain ⟨x, hx, _⟩ := r.get hd
      refine ⟨⟨vs, x, hs, hx⟩, fun y H2 ⟨e, hy⟩ => ?_⟩
      subst e
      obtain ⟨u, hu, ru⟩ := r.get hd
      have : y = u := by
        have := hy vs hs
        rw [hu] at this
        exact (Option.some.inj this).symm
      subst this
      exact ⟨G', .refl, R', Rep.mono s _ _ ru⟩
    · intro hn
      exact ⟨vs, hs, by rw [r.length]; exact List.getElem?_eq_none_iff.mp hn⟩⟩
theorem ei_tup {xs : List D} (h : Ev K te ρ μ (.val (.tup xs)) μ1) : EvI K (iTup K te) ρ μ xs μ1 CT := ⟨trivial, fun P as σ G H R Q q =>
  h P as σ G H R _ fun v as1 G1 H1 n1 R1 ⟨hz, a, vs, ev, g, r⟩ => by
    refine ⟨a, ev, ⟨vs, same_sqt R1.sub g⟩, q _ as1 G1 H1 n1 R1 fun i P' as' ρ' μ' σ' G' H' s _ _ R' => ?_⟩
    have hs : SqT K H' a vs := same_sqt R'.sub (same_sqt s g)
    constructor
    · intro d hd
      obtain ⟨x, hx, _⟩ := r.get hd
      refine ⟨⟨vs, x, hs, hx⟩, fun y H2 ⟨e, hy⟩ => ?_⟩
      subst e
      obtain ⟨u, hu, ru⟩ := r.get hd
      have : y = u := by
        have := hy vs hs
        rw [hu] at this
        exact (Option.some.inj this).symm
      subst this
      exact ⟨G', .refl, R', Rep.mono s _ _ ru⟩
    · intro hn
      exact ⟨vs, hs, by rw [r.length]; exact List.getElem?_eq_none_iff.mp hn⟩⟩
def rangeD (lo : Int) (n : Nat) : List D := (List.range n).map fun (k : Nat) => D.int (lo + (k : Int))
theorem it_range {G : Hp} {as : List Addr} {lo : Int} {n : Nat} : ItD K G as CT (Itr lo n) (rangeD lo n) := fun i P' as' ρ' μ' σ' G' H' s _ _ R' => by
  constructor
  · intro d hd
    unfold rangeD at hd
    rw [List.getElem?_map] at hd
    by_cases hi : i < n
    · rw [List.getElem?_range hi] at hd
      cases hd
      exact ⟨hi, fun x H2 ⟨e, hx⟩ => ⟨G', by rw [e]; exact .refl, by rw [e]; exact R', hx⟩⟩
    · rw [List.getElem?_eq_none (by simpa using hi)] at hd
      cases hd
  · intro hn
    have := List.getElem?_eq_none_iff.mp hn
    unfold rangeD at this
    show n ≤ i
    simpa using this
theorem ei_range1 {n : Int} {t : TA} (h : EvD K t ρ μ [.int n] μ1) (h1 : -(2 ^ 62) ≤ n) (h2 : n < 2 ^ 62) : EvI K (iRng1 t) ρ μ (rangeD 0 n.toNat) μ1 CT := ⟨trivial, fun P as σ G H R Q q =>
  h P as σ G H R _ fun vs as1 G1 H1 n1 R1 r1 => by
    obtain ⟨v, r, ev, r2, r3⟩ := r1
    rw [show r = [] from r3, show v = .int n from r2] at ev
    exact ⟨n, ev, h1, h2, q _ as1 G1 H1 n1 R1 it_range⟩⟩
theorem pre_tr {α : Type} {a b c : List α} (h : ∃ t, b = a ++ t) (k : ∃ t, c = b ++ t) : ∃ t, c = a ++ t := by
  obtain ⟨t, e⟩ := h
  obtain ⟨u, f⟩ := k
  exact ⟨t ++ u, by rw [f, e, List.append_assoc]⟩
inductive Lp (K : PySem.W.Frag) [HasW K] (g : TG) (tb : TS) (C : Mu → Prop) : List D → Env' → Mu → Out → Prop where
  | nil {ρ : Env'} {μ : Mu} : Lp K g tb C [] ρ μ (.nx ρ μ)
  | next {x : D} {xs : List D} {ρ ρ1 ρ2 : Env'} {μ μ2 : Mu} {o : Out} : EvG K g (.val x) ρ ρ1 → Ex K tb ρ1 μ (.nx ρ2 μ2) → C μ2 → Lp K g tb C xs ρ2 μ2 o → Lp K g tb C (x :: xs) ρ μ o
  | cont {x : D} {xs : List D} {ρ ρ1 ρ2 : Env'} {μ μ2 : Mu} {o : Out} : EvG K g (.val x) ρ ρ1 → Ex K tb ρ1 μ (.ct ρ2 μ2) → C μ2 → Lp K g tb C xs ρ2 μ2 o → Lp K g tb C (x :: xs) ρ μ o
  | brk {x : D} {xs : List D} {ρ ρ1 ρ2 : Env'} {μ μ2 : Mu} : EvG K g (.val x) ρ ρ1 → Ex K tb ρ1 μ (.bk ρ2 μ2) → Lp K g tb C (x :: xs) ρ μ (.nx ρ2 μ2)
  | ret {x : D} {xs : List D} {ρ ρ1 : Env'} {μ μ2 : Mu} {w : W} : EvG K g (.val x) ρ ρ1 → Ex K tb ρ1 μ (.rt w μ2) → Lp K g tb C (x :: xs) ρ μ (.rt w μ2)
theorem ex_for {wi : TI} {g : TG} {tb : TS} {C : Mu → Prop} {xs : List D} (hi : EvI K wi ρ μ xs μ1 C) (h : Lp K g tb C xs ρ μ1 o) : Ex K (tFor wi g tb) ρ μ o := fun P as σ G H R E q =>
  hi.2 P as σ G H R _ fun J as0 G0 H0 n0 R0 it => by
    refine ⟨fun i m σ' H' => m = xs.length - i ∧ i ≤ xs.length ∧ ∃ as' G' ρ' μ', Nx P as G H as' G' H' ∧ (∃ t, as' = as0 ++ t) ∧ C μ' ∧ Same G0 G' ∧ Rl K G' H' as' P ρ' μ' σ' ∧ Lp K g tb C (xs.drop i) ρ' μ' o, ⟨xs.length, rfl, Nat.zero_le _, as0, G0, ρ, μ1, n0, ⟨[], by simp⟩, hi.1, Same.refl _, R0, h⟩, ?_⟩
    rintro i m σ' H' ⟨rfl, hi, as', G', ρ', μ', n', a', c', s', R', l'⟩
    obtain ⟨go, stop⟩ := it i P as' ρ' μ' σ' G' H' s' a' c' R'
    cases e : xs[i]? with
    | none =>
      have hd : xs.drop i = [] := List.drop_eq_nil_of_le (List.getElem?_eq_none_iff.mp e)
      rw [hd] at l'
      cases l'
      exact .inl ⟨stop e, q as' σ' G' H' n' R'⟩
    | some d =>
      have hlt : i < xs.length := (List.getElem?_eq_some_iff.mp e).1
      have hd : xs.drop i = d :: xs.drop (i + 1) := by
        rw [List.drop_eq_getElem_cons hlt]
        have := (List.getElem?_eq_some_iff.mp e).2
        rw [this]
      obtain ⟨hgo, hy⟩ := go d e
      refine .inr ⟨hgo, _, fun σ2 H2 z => ⟨xs.length - (i + 1), by omega, z⟩, fun x H2 y => ?_⟩
      obtain ⟨G2, n2, R2, r2⟩ := hy x H2 y
      rw [hd] at l'
      cases l' with
      | next hg hb hC hl =>
        refine hg P as' μ' σ' G2 H2 x R2 r2 _ fun σ3 R3 => hb P as' σ3 G2 H2 R3 _ fun as4 σ4 G4 H4 n4 R4 => ?_
        exact ⟨rfl, hlt, as4, G4, _, _, (n'.trans n2).trans n4, pre_tr a' n4.pre, hC, s'.trans (n2.gr.trans n4.gr), R4, hl⟩
      | cont hg hb hC hl =>
        refine hg P as' μ' σ' G2 H2 x R2 r2 _ fun σ3 R3 => hb P as' σ3 G2 H2 R3 _ fun as4 σ4 G4 H4 n4 R4 => ?_
        exact ⟨rfl, hlt, as4, G4, _, _, (n'.trans n2).trans n4, pre_tr a' n4.pre, hC, s'.trans (n2.gr.trans n4.gr), R4, hl⟩
      | brk hg hb =>
        refine hg P as' μ' σ' G2 H2 x R2 r2 _ fun σ3 R3 => hb P as' σ3 G2 H2 R3 _ fun as4 σ4 G4 H4 n4 R4 => ?_
        exact q as4 σ4 G4 H4 ((n'.trans n2).trans n4) R4
      | ret hg hb =>
        refine hg P as' μ' σ' G2 H2 x R2 r2 _ fun σ3 R3 => hb P as' σ3 G2 H2 R3 _ fun v as4 G4 H4 n4 R4 r4 => ?_
        exact q v as4 G4 H4 ((n'.trans n2).trans n4) R4 r4
inductive Wh (K : PySem.W.Frag) [HasW K] (c : TT) (tb : TS) : Nat → Env' → Mu → Out → Prop where
  | stop {n : Nat} {ρ : Env'} {μ μ1 : Mu} : EvB K c ρ μ false μ1 → Wh K c tb n ρ μ (.nx ρ μ1)
  | next {n : Nat} {ρ ρ2 : Env'} {μ μ1 μ2 : Mu} {o : Out} : EvB K c ρ μ true μ1 → Ex K tb ρ μ1 (.nx ρ2 μ2) → Wh K c tb n ρ2 μ2 o → Wh K c tb (n + 1) ρ μ o
  | cont {n : Nat} {ρ ρ2 : Env'} {μ μ1 μ2 : Mu} {o : Out} : EvB K c ρ μ true μ1 → Ex K tb ρ μ1 (.ct ρ2 μ2) → Wh K c tb n ρ2 μ2 o → Wh K c tb (n + 1) ρ μ o
  | brk {n : Nat} {ρ ρ2 : Env'} {μ μ1 μ2 : Mu} : EvB K c ρ μ true μ1 → Ex K tb ρ μ1 (.bk ρ2 μ2) → Wh K c tb n ρ μ (.nx ρ2 μ2)
  | ret {n : Nat} {ρ : Env'} {μ μ1 μ2 : Mu} {w : W} : EvB K c ρ μ true μ1 → Ex K tb ρ μ1 (.rt w μ2) → Wh K c tb n ρ μ (.rt w μ2)
theorem ex_while {c : TT} {tb : TS} {n : Nat} (h : Wh K c tb n ρ μ o) : Ex K (tWhile c tb) ρ μ o := fun P as σ G H R E q => by
  refine ⟨fun m σ' H' => ∃ as' G' ρ' μ', Nx P as G H as' G' H' ∧ Rl K G' H' as' P ρ' μ' σ' ∧ Wh K c tb m ρ' μ' o, ⟨n, as, G, ρ, μ, .refl, R, h⟩, ?_⟩
  rintro m σ' H' ⟨as', G', ρ', μ', n', R', l'⟩
  cases l' with
  | stop hc => exact hc P as' σ' G' H' R' _ fun as1 G1 H1 n1 R1 => iteF (q as1 σ' G1 H1 (n'.trans n1) R1)
  | next hc hb hl =>
    refine hc P as' σ' G' H' R' _ fun as1 G1 H1 n1 R1 => iteT ⟨_, fun σ2 H2 z => ⟨_, Nat.lt_succ_self _, z⟩, hb P as1 σ' G1 H1 R1 _ fun as4 σ4 G4 H4 n4 R4 => ?_⟩
    exact ⟨as4, G4, _, _, (n'.trans n1).trans n4, R4, hl⟩
  | cont hc hb hl =>
    refine hc P as' σ' G' H' R' _ fun as1 G1 H1 n1 R1 => iteT ⟨_, fun σ2 H2 z => ⟨_, Nat.lt_succ_self _, z⟩, hb P as1 σ' G1 H1 R1 _ fun as4 σ4 G4 H4 n4 R4 => ?_⟩
    exact ⟨as4, G4, _, _, (n'.trans n1).trans n4, R4, hl⟩
  | brk hc hb =>
    refine hc P as' σ' G' H' R' _ fun as1 G1 H1 n1 R1 => iteT ⟨fun _ _ => False, fun _ _ z => z.elim, hb P as1 σ' G1 H1 R1 _ fun as4 σ4 G4 H4 n4 R4 => ?_⟩
    exact q as4 σ4 G4 H4 ((n'.trans n1).trans n4) R4
  | ret hc hb =>
    refine hc P as' σ' G' H' R' _ fun as1 G1 H1 n1 R1 => iteT ⟨fun _ _ => False, fun _ _ z => z.elim, hb P as1 σ' G1 H1 R1 _ fun v as4 G4 H4 n4 R4 r4 => ?_⟩
    exact q v as4 G4 H4 ((n'.trans n1).trans n4) R4 r4
def wipeE (ρ : Env') : List Nat → Env'
  | [] => ρ
  | v :: vs => (wipeE ρ vs).set v none
theorem wipeE_len : ∀ {vs : List Nat}, (wipeE ρ vs).length = ρ.length
  | [] => rfl
  | v :: vs => by unfold wipeE; rw [List.length_set, wipeE_len]
theorem wipeE_some {w : W} : ∀ {vs : List Nat} {i : Nat}, (wipeE ρ vs)[i]? = some (some w) → ρ[i]? = some (some w) ∧ i ∉ vs
  | [], i, h => ⟨h, by simp⟩
  | v :: vs, i, h => by
    unfold wipeE at h
    by_cases q : i = v
    · subst q
      have hl := (List.getElem?_eq_some_iff.mp h).1
      rw [List.length_set] at hl
      rw [List.getElem?_set_self hl] at h
      cases h
    · rw [List.getElem?_set_ne (fun z => q z.symm)] at h
      obtain ⟨h1, h2⟩ := wipeE_some h
      exact ⟨h1, by simp [q, h2]⟩
theorem wipe_at {σ : St} {v : V} : ∀ {vs : List Nat} {i : Nat}, σ[i]? = some (some v) → i ∉ vs → (wipe σ vs)[i]? = some (some v)
  | [], _, h, _ => h
  | k :: vs, i, h, hi => by
    unfold wipe
    rw [List.getElem?_set_ne (fun z => hi (by rw [z]; simp))]
    exact wipe_at h fun z => hi (List.mem_cons_of_mem _ z)
theorem set_none_comm {α : Type} {l : List (Option α)} {i j : Nat} : (l.set i none).set j none = (l.set j none).set i none := by
  by_cases h : i = j
  · rw [h]
  · exact List.set_comm _ _ h
theorem wipe_set {σ : St} {x : Option V} {i : Nat} : ∀ {vs : List Nat}, i ∈ vs → wipe (σ.set i x) vs = wipe σ vs
  | [], h => by cases h
  | k :: vs, h => by
    unfold wipe
    by_cases q : i ∈ vs
    · rw [wipe_set q]
    · have e : i = k := by
        rcases List.mem_cons.mp h with z | z
        · exact z
        · exact absurd z q
      subst e
      have aux : ∀ (us : List Nat) (τ : St), (wipe (τ.set i x) us).set i none = (wipe τ us).set i none := by
        intro us
        induction us with
        | nil => intro τ; unfold wipe; rw [List.set_set]
        | cons u us ih =>
          intro τ
          unfold wipe
          rw [set_none_comm, ih, set_none_comm]
      exact aux vs σ
theorem wipe_wipe {σ : St} {vs : List Nat} : wipe (wipe σ vs) vs = wipe σ vs := by
  have aux : ∀ us : List Nat, (∀ u ∈ us, u ∈ vs) → wipe (wipe σ us) vs = wipe σ vs := by
    intro us
    induction us with
    | nil => intro _; rfl
    | cons u us ih =>
      intro h
      show wipe ((wipe σ us).set u none) vs = wipe σ vs
      rw [wipe_set (h u (by simp))]
      exact ih fun k hk => h k (List.mem_cons_of_mem _ hk)
  exact aux vs fun _ h => h
def EvGc (K : PySem.W.Frag) [HasW K] (g : TG) (d : D) (vs : List Nat) (ρ ρ' : Env') : Prop := ∀ (P : Addr → Prop) (as : List Addr) (μ : Mu) (σ : St) (G H : Hp) (v : V), Rl K G H as P ρ μ σ → Rep K G d v → ∀ Q : St → Hp → Prop,
  (∀ σ', Rl K G H as P ρ' μ σ' → wipe σ' vs = wipe σ vs → Q σ' H) → g v σ H Q
theorem egc_name {vs : List Nat} (h : i ∈ vs := by decide) : EvGc K (gName i) d vs ρ (ρ.set i (some (.val d))) := fun P as μ σ G H v R r Q q => q _ (R.set (w := .val d) r) (wipe_set h)
inductive Lc (K : PySem.W.Frag) [HasW K] (g : TG) (tt : TT) (te : TE) (vs : List Nat) (C : Mu → Prop) (ρ : Env') : List D → Mu → List D → Mu → Prop where
  | nil {μ : Mu} : Lc K g tt te vs C ρ [] μ [] μ
  | skip {x : D} {xs ys : List D} {ρ1 : Env'} {μ μ1 μ' : Mu} : EvGc K g x vs ρ ρ1 → EvB K tt ρ1 μ false μ1 → C μ1 → Lc K g tt te vs C ρ xs μ1 ys μ' → Lc K g tt te vs C ρ (x :: xs) μ ys μ'
  | take {x y : D} {xs ys : List D} {ρ1 : Env'} {μ μ1 μ2 μ' : Mu} : EvGc K g x vs ρ ρ1 → EvB K tt ρ1 μ true μ1 → Ev K te ρ1 μ1 (.val y) μ2 → C μ2 → Lc K g tt te vs C ρ xs μ2 ys μ' → Lc K g tt te vs C ρ (x :: xs) μ (y :: ys) μ'
section
variable {G H : Hp} {as : List Addr} {P P' : Addr → Prop} {σ : St}
theorem Rl.weak (R : Rl K G H as P' ρ μ σ) (h : ∀ a, P a → P' a) : Rl K G H as P ρ μ σ := ⟨R.sub, fun a q => R.pro a (h a q), R.nd, R.len, R.mu, R.wf, R.sz, R.env, R.tb.mono (Same.refl _) R.tb.1 fun a t0 t1 t2 _ => ⟨fun z => t0 (h a z), t1, t2, rfl⟩⟩
theorem Rl.guard (R : Rl K G H as P ρ μ σ) {p : Addr} (hg : G p = none) (hh : H p ≠ none) (ha : p ∉ as) (ht : ∀ q ∈ HasW.ts K, q.1 ≠ p) : Rl K G H as (fun a => P a ∨ a = p) ρ μ σ := ⟨R.sub, fun a q => by
  rcases q with q | q
  · exact R.pro a q
  · subst q; exact ⟨hg, hh, ha⟩, R.nd, R.len, R.mu, R.wf, R.sz, R.env, R.tb.1, fun q hq => let z := R.tb.2 q hq; ⟨fun y => y.elim z.1 (ht q hq), z.2⟩⟩
theorem Rl.touch (R : Rl K G H as P ρ μ σ) {p : Addr} (hp : P p) (o : HO) : Rl K G (upd H p o) as P ρ μ σ := by
  obtain ⟨g, _, n⟩ := R.pro p hp
  refine ⟨fun b u h => ?_, fun a q => ?_, R.nd, R.len, fun j a m h1 h2 => ?_, R.wf, R.sz, R.env, R.tb.mono (Same.refl _) R.tb.1 fun a t0 t1 t2 _ => ⟨t0, t1, t2, upd_ne (show a ≠ p from fun z => t0 (by rw [z]; exact hp))⟩⟩
  · rw [upd_ne (ne_of_none h g)]
    exact R.sub _ _ h
  · obtain ⟨h1, h2, h3⟩ := R.pro a q
    refine ⟨h1, ?_, h3⟩
    by_cases z : a = p
    · subst z
      rw [upd_same]
      simp
    · rw [upd_ne z]
      exact h2
  · have z : a ≠ p := fun e => n (e ▸ List.mem_of_getElem? h1)
    exact (R.mu j a m h1 h2).mono (Same.refl _) id (upd_ne z) ⟨[], by simp⟩
theorem Rl.adopt (R : Rl K G H as P' ρ μ σ) {p : Addr} {o : HO} (hp : P' p) (hP : ∀ a, P a → P' a ∧ a ≠ p) (hH : H p = some o) (ho : ∀ ps, o ≠ HO.tbl ps := by intro ps z; cases z) : Rl K (upd G p o) H as P ρ μ σ := by
  obtain ⟨g, _, n⟩ := R.pro p hp
  have e : Same G (upd G p o) := fun b u h => by rw [upd_ne (ne_of_none h g)]; exact h
  refine ⟨fun b u h => ?_, fun a q => ?_, R.nd, R.len, fun j a m h1 h2 => ?_, R.wf, R.sz, fun i w h => ?_, R.tb.mono e (R.tb.updN ho) fun a t0 t1 t2 _ => ⟨fun z => t0 (hP a z).1, by rw [upd_ne (show a ≠ p from fun z => t0 (by rw [z]; exact hp))]; exact t1, t2, rfl⟩⟩
  · by_cases z : b = p
    · subst z
      rw [upd_same] at h
      rw [hH]
      exact h
    · rw [upd_ne z] at h
      exact R.sub _ _ h
  · obtain ⟨q1, q2⟩ := hP a q
    obtain ⟨h1, h2, h3⟩ := R.pro a q1
    exact ⟨by rw [upd_ne q2]; exact h1, h2, h3⟩
  · have z : a ≠ p := fun e => n (e ▸ List.mem_of_getElem? h1)
    exact (R.mu j a m h1 h2).mono e (fun g => by rw [upd_ne z]; exact g) rfl ⟨[], by simp⟩
  · obtain ⟨v, h1, h2⟩ := R.env i w h
    exact ⟨v, h1, h2.mono e ⟨[], by simp⟩⟩
theorem Rl.wipe (R : Rl K G H as P ρ μ σ) (vs : List Nat) : Rl K G H as P (wipeE ρ vs) μ (L2.wipe σ vs) :=
  R.to (by rw [wipeE_len, wipe_length]; exact R.sz) fun i w h => by
    obtain ⟨h1, h2⟩ := wipeE_some h
    obtain ⟨v, h3, h4⟩ := R.env i w h1
    exact ⟨v, wipe_at h3 h2, h4⟩
end
theorem Nx.weak {P P' : Addr → Prop} {as as' : List Addr} {G G' H H' : Hp} (n : Nx P' as G H as' G' H') (h : ∀ a, P a → P' a) : Nx P as G H as' G' H' := ⟨n.pre, n.gr, fun a q => n.kp a (h a q)⟩
theorem ev_lc {wi : TI} {g : TG} {tt : TT} {vs : List Nat} {C : Mu → Prop} {xs ys : List D} (hi : EvI K wi ρ μ xs μ1 C) (h : Lc K g tt te vs C (wipeE ρ vs) xs μ1 ys μ2) (hz : xs.length ≤ LB) : Ev K (tLc wi g tt te vs) ρ μ (.val (.lst ys)) μ2 := fun P as σ G H R Q q =>
  hi.2 P as σ G H R _ fun J as0 G0 H0 n0 R0 it => fun p hp => by
    have gp : G0 p = none := R0.sub.free hp
    have np : ∀ a, P a → a ≠ p := fun a ha z => (R0.pro a ha).2.1 (by rw [z]; exact hp)
    have pas : p ∉ as0 := fun z => R0.here z hp
    refine ⟨fun i m H' => m = xs.length - i ∧ i ≤ xs.length ∧ ∃ as' G' μ' acc done rest, ys = done ++ rest ∧ Nx P as G H as' G' H' ∧ (∃ t, as' = as0 ++ t) ∧ C μ' ∧ Same G0 G' ∧ Rl K G' H' as' (fun a => P a ∨ a = p) ρ μ' σ ∧ H' p = some (.lst acc) ∧ RepL K G' done acc ∧ Lc K g tt te vs C (wipeE ρ vs) (xs.drop i) μ' rest μ2 ∧ done.length ≤ i,
      ⟨xs.length, rfl, Nat.zero_le _, as0, G0, μ1, [], [], ys, rfl, ?_, ⟨[], by simp⟩, hi.1, Same.refl _, ?_, upd_same, rfl, h, Nat.le_refl _⟩, ?_⟩
    · exact ⟨n0.pre, n0.gr, fun a ha => by rw [upd_ne (np a ha)]; exact n0.kp a ha⟩
    · have R1 := (R0.mut (m := .gone) hp (o := .lst []) (by show upd H0 p _ p ≠ none; rw [upd_same]; simp) rfl).1
      have R2 : Rl K G0 (upd H0 p (.lst [])) as0 P ρ μ1 σ := by
        refine ⟨R1.sub, fun a ha => ?_, R0.nd, R0.len, fun j a m h1 h2 => ?_, R0.wf, R0.sz, R0.env, R0.tb.mono (Same.refl _) R0.tb.1 fun a t0 t1 t2 t3 => ⟨t0, t1, t2, upd_ne fun z => t3 (by rw [z]; exact hp)⟩⟩
        · obtain ⟨h1, h2, h3⟩ := R0.pro a ha
          exact ⟨h1, by rw [upd_ne (np a ha)]; exact h2, h3⟩
        · have z : a ≠ p := fun e => pas (e ▸ List.mem_of_getElem? h1)
          exact (R0.mu j a m h1 h2).mono (Same.refl _) id (upd_ne z) ⟨[], by simp⟩
      exact R2.guard gp (by rw [upd_same]; simp) pas (R0.tb.ne hp)
    rintro i m H' ⟨rfl, hi, as', G', μ', acc, done, rest, ey, n', a', c', s', R', hH, rl, l', dl⟩
    obtain ⟨go, stop⟩ := it i _ as' ρ μ' σ G' H' s' a' c' R'
    cases e : xs[i]? with
    | none =>
      have hd : xs.drop i = [] := List.drop_eq_nil_of_le (List.getElem?_eq_none_iff.mp e)
      rw [hd] at l'
      cases l'
      rw [List.append_nil] at ey
      subst ey
      refine .inl ⟨stop e, ?_⟩
      have R3 : Rl K (upd G' p (.lst acc)) H' as' P ρ μ2 σ := R'.adopt (p := p) (.inr rfl) (fun a ha => ⟨.inl ha, np a ha⟩) hH
      have g' : G' p = none := (R'.pro p (.inr rfl)).1
      have s3 : Same G' (upd G' p (.lst acc)) := fun b u h => by rw [upd_ne (ne_of_none h g')]; exact h
      refine q _ as' _ H' ⟨n'.pre, n'.gr.trans s3, n'.kp⟩ R3 ⟨?_, p, acc, rfl, upd_same, RepL.mono s3 _ _ rl⟩
      have := List.getElem?_eq_none_iff.mp e
      omega
    | some d =>
      have hlt : i < xs.length := (List.getElem?_eq_some_iff.mp e).1
      have hd : xs.drop i = d :: xs.drop (i + 1) := by
        rw [List.drop_eq_getElem_cons hlt]
        have := (List.getElem?_eq_some_iff.mp e).2
        rw [this]
      obtain ⟨hgo, hy⟩ := go d e
      refine .inr ⟨hgo, _, fun H2 z => ⟨xs.length - (i + 1), by omega, z⟩, fun x H2 y => ?_⟩
      obtain ⟨G2, n2, R2, r2⟩ := hy x H2 y
      rw [hd] at l'
      have np2 : ∀ a, P a → P a ∨ a = p := fun a ha => .inl ha
      cases l' with
      | skip hg ht hC hl =>
        refine hg _ as' μ' _ G2 H2 x (R2.wipe vs) r2 _ fun σ3 R3 e3 => ⟨e3.trans wipe_wipe, ht _ as' σ3 G2 H2 R3 _ fun as4 G4 H4 n4 R4 => iteF ?_⟩
        refine ⟨rfl, hlt, as4, G4, _, acc, done, rest, ey, n'.trans ((n2.trans n4).weak np2), pre_tr a' n4.pre, hC, s'.trans (n2.gr.trans n4.gr), ?_, ?_, RepL.mono (n2.gr.trans n4.gr) _ _ rl, hl, Nat.le_succ_of_le dl⟩
        · exact R4.to R2.sz fun k w hk => by
            obtain ⟨v, h1, h2⟩ := R2.env k w hk
            exact ⟨v, h1, h2.mono n4.gr n4.pre⟩
        · exact (n4.kp p (.inr rfl)).trans ((n2.kp p (.inr rfl)).trans hH)
      | take hg ht hv hC hl =>
        rename_i yv ys' ρ1 μ1' μ2'
        refine hg _ as' μ' _ G2 H2 x (R2.wipe vs) r2 _ fun σ3 R3 e3 => ⟨e3.trans wipe_wipe, ht _ as' σ3 G2 H2 R3 _ fun as4 G4 H4 n4 R4 => iteT ?_⟩
        refine hv _ as4 σ3 G4 H4 R4 _ fun v5 as5 G5 H5 n5 R5 r5 => ?_
        have h5 : H5 p = some (.lst acc) := (n5.kp p (.inr rfl)).trans ((n4.kp p (.inr rfl)).trans ((n2.kp p (.inr rfl)).trans hH))
        have al : acc.length = done.length := rl.length
        refine ⟨acc, h5, by rw [al]; exact Nat.lt_of_lt_of_le (Nat.lt_of_le_of_lt dl hlt) (Nat.le_trans hz (by decide)), ?_⟩
        have ng := (n2.trans n4).trans n5
        refine ⟨rfl, hlt, as5, G5, _, acc ++ [v5], done ++ [_], _, by rw [ey, List.append_assoc]; rfl, ?_, pre_tr a' (n4.trans n5).pre, hC, s'.trans ng.gr, ?_, upd_same, (RepL.mono ng.gr _ _ rl).append (RepL.cons r5 RepL.nil), hl, by rw [List.length_append]; exact Nat.succ_le_succ dl⟩
        · have n6 := n'.trans (ng.weak np2)
          exact ⟨n6.pre, n6.gr, fun a ha => by rw [upd_ne (np a ha)]; exact n6.kp a ha⟩
        · have R6 : Rl K G5 H5 as5 (fun a => P a ∨ a = p) ρ μ2' σ := R5.to R2.sz fun k w hk => by
            obtain ⟨v, h1, h2⟩ := R2.env k w hk
            exact ⟨v, h1, h2.mono (n4.gr.trans n5.gr) (n4.trans n5).pre⟩
          exact R6.touch (.inr rfl) _
theorem eb_yes : EvB K tYes ρ μ true μ := fun P as σ G H R Q q => q as G H .refl R
theorem lc_map {g : TG} {vs : List Nat} {C : Mu → Prop} (hC : C μ) {f : D → D} : ∀ {xs : List D}, (∀ x ∈ xs, ∃ ρ1, EvGc K g x vs ρ ρ1 ∧ Ev K te ρ1 μ (.val (f x)) μ) → Lc K g tYes te vs C ρ xs μ (xs.map f) μ
  | [], _ => .nil
  | x :: xs, h => by
    obtain ⟨ρ1, h1, h3⟩ := h x (by simp)
    exact .take h1 eb_yes h3 hC (lc_map hC fun y hy => h y (List.mem_cons_of_mem _ hy))
end
end DK
namespace DK
open PySem PySem.Spec L2
section
variable {K : PySem.W.Frag} [HasW K] {ρ ρ1 ρ2 : Env'} {μ μ1 μ2 μ3 : Mu} {ta tb te tc : TE} {w : W} {a b d : D} {i : Nat} {G H : Hp} {as : List Addr} {P : Addr → Prop} {σ : St}
abbrev Phi := List W → Mu → W → Mu → Prop
def spD (K : PySem.W.Frag) [HasW K] (Φ : Phi) : Sp := fun vs H Q _ => ∃ (P : Addr → Prop) (as : List Addr) (G : Hp) (ws : List W) (μ : Mu) (w : W) (μ' : Mu), Φ ws μ w μ' ∧ Rl K G H as P (ws.map some) μ (vs.map some) ∧
  ∀ v as' G' H', Nx P as G H as' G' H' → Rl K G' H' as' P [] μ' [] → RepW K G' as' w v → Q v H'
theorem RepWs.get : ∀ {ws : List W} {vs : List V} {i : Nat} {w : W}, RepWs K G as ws vs → ws[i]? = some w → ∃ v, vs[i]? = some v ∧ RepW K G as w v
  | [], _, _, _, _, e => by simp at e
  | _ :: _, _, 0, _, ⟨v, r, ev, h1, _⟩, e => by
    subst ev
    simp at e
    subst e
    exact ⟨v, rfl, h1⟩
  | _ :: _, _, i + 1, d, ⟨v, r, ev, _, h2⟩, e => by
    subst ev
    obtain ⟨u, q1, q2⟩ := RepWs.get (i := i) (w := d) h2 (by simpa using e)
    exact ⟨u, by simpa using q1, q2⟩
theorem RepWs.append : ∀ {ds es : List W} {vs us : List V}, RepWs K G as ds vs → RepWs K G as es us → RepWs K G as (ds ++ es) (vs ++ us)
  | [], _, _, _, h, k => by rw [show _ = [] from h]; exact k
  | _ :: _, _, _, _, ⟨v, r, e, h1, h2⟩, k => by rw [e]; exact ⟨v, r ++ _, rfl, h1, RepWs.append h2 k⟩
theorem Rl.args (R : Rl K G H as P ρ μ σ) {ws : List W} {vs : List V} (h : RepWs K G as ws vs) : Rl K G H as P (ws.map some) μ (vs.map some) :=
  R.to (by rw [List.length_map, List.length_map, h.length]) fun i w q => by
    rw [List.getElem?_map] at q
    cases e : ws[i]? with
    | none => rw [e] at q; cases q
    | some u =>
      rw [e] at q
      cases q
      obtain ⟨v, h1, h2⟩ := h.get e
      exact ⟨v, by rw [List.getElem?_map, h1]; rfl, h2⟩
theorem Rl.back {as' : List Addr} {G' H' : Hp} (R : Rl K G H as P ρ μ σ) (n : Nx P as G H as' G' H') (R' : Rl K G' H' as' P [] μ1 []) : Rl K G' H' as' P ρ μ1 σ :=
  R'.to R.sz fun i w h => by
    obtain ⟨v, h1, h2⟩ := R.env i w h
    exact ⟨v, h1, h2.mono n.gr n.pre⟩
theorem call_phi {Φ : Phi} {ws : List W} {vs : List V} {Q : VK} {E : XK} (R : Rl K G H as P ρ μ σ) (r : RepWs K G as ws vs) (h : Φ ws μ w μ1) (q : ∀ v as' G' H', Nx P as G H as' G' H' → Rl K G' H' as' P ρ μ1 σ → RepW K G' as' w v → Q v H') : spD K Φ vs H Q E :=
  ⟨P, as, G, ws, μ, w, μ1, h, R.args r, fun v as' G' H' n R' rv => q v as' G' H' n (R.back n R') rv⟩
def Dfl (K : PySem.W.Frag) (ds : List D) (vs : List V) : Prop := ∀ G, RepL K G ds vs
theorem dfl_nil : Dfl K [] [] := fun _ => rfl
def putW (f : Str) (w : W) : List (Str × W) → List (Str × W)
  | [] => [(f, w)]
  | (g, x) :: r => if g = f then (g, w) :: r else (g, x) :: putW f w r
theorem RepFs.length : ∀ {fs : List (Str × W)} {vs : List (Str × V)}, RepFs K G as fs vs → vs.length = fs.length
  | [], _, h => by rw [show _ = [] from h]; rfl
  | (_, _) :: _, _, ⟨_, _, e, _, h⟩ => by rw [e, List.length_cons, List.length_cons, RepFs.length h]
theorem RepFs.vals : ∀ {ns : List Str} {ds : List D} {vs : List (Str × V)}, ns.length = ds.length → RepFs K G as (ns.zip (ds.map W.val)) vs → ∃ us, vs = ns.zip us ∧ RepL K G ds us
  | [], [], _, _, h => ⟨[], h, rfl⟩
  | [], _ :: _, _, e, _ => by cases e
  | _ :: _, [], _, e, _ => by cases e
  | n :: ns, d :: ds, _, e, ⟨v, r, ev, h1, h2⟩ => by
    obtain ⟨us, e1, e2⟩ := RepFs.vals (by simpa using e) h2
    subst ev e1
    exact ⟨v :: us, rfl, v, us, rfl, h1, e2⟩
structure FnD (K : PySem.W.Frag) [HasW K] (t : TS) (n : Nat) (Φ : Phi) : Prop where
  run : ∀ (ws : List W) (μ : Mu) (w : W) (μ' : Mu), Φ ws μ w μ' → (∀ m : MO, m ∈ μ → m.below μ.length = true) → ∃ tail : Mu, μ.length ≤ μ'.length ∧ w.below μ'.length = true ∧ (∀ m : MO, m ∈ μ' → m.below μ'.length = true) ∧
    (Ex K t (ws.map some ++ List.replicate (n - ws.length) none) μ (.rt w (μ' ++ tail)) ∨ (w = .val .non ∧ ∃ ρ', Ex K t (ws.map some ++ List.replicate (n - ws.length) none) μ (.nx ρ' (μ' ++ tail))))
theorem fn_rd {t : TS} {N : List Str} {Φ : Phi} (F : FnD K t N.length Φ) {vs : List V} {Q : VK} {E : XK} (h : spD K Φ vs H Q E) : t { nx := fun _ H' => Q .non H', rt := Q } (L2.start N vs) H := by
  obtain ⟨P, as, G, ws, μ, w, μ', hΦ, R, q⟩ := h
  obtain ⟨tail, hl, hb, hwf, ho⟩ := F.run ws μ w μ' hΦ R.wf
  have hz : ws.length = vs.length := by simpa using R.sz
  have R0 : Rl K G H as P (ws.map some ++ List.replicate (N.length - ws.length) none) μ (L2.start N vs) := R.to (by unfold L2.start; simp [hz]) fun i w hi => by
    unfold L2.start
    by_cases hlt : i < ws.length
    · rw [List.getElem?_append_left (by simpa using hlt)] at hi
      rw [List.getElem?_append_left (by simpa [← hz] using hlt)]
      exact R.env i w hi
    · rw [List.getElem?_append_right (by simpa using hlt)] at hi
      rw [List.getElem?_replicate] at hi
      split at hi <;> cases hi
  have fin : ∀ v as' G' H', Nx P as G H as' G' H' → Rl K G' H' as' P [] (μ' ++ tail) [] → RepW K G' as' w v → Q v H' := fun v as' G' H' n R' r => by
    refine q v (as'.take μ'.length) G' H' ⟨?_, n.gr, n.kp⟩ (R'.drop rfl hwf) ?_
    · obtain ⟨t, et⟩ := n.pre
      refine ⟨t.take (μ'.length - as.length), ?_⟩
      have : as.length ≤ μ'.length := by rw [R.len]; exact hl
      rw [et, List.take_append, List.take_of_length_le this]
    · cases w with
      | val d => exact r
      | loc k =>
        obtain ⟨b, q1, q2⟩ := r
        exact ⟨b, by rw [List.getElem?_take_of_lt (of_decide_eq_true hb)]; exact q1, q2⟩
  rcases ho with ho | ⟨ew, ρ', ho⟩
  · exact ho P as _ G H R0 _ fun v as' G' H' n R' r => fin v as' G' H' n R' r
  · exact ho P as _ G H R0 _ fun as' σ' G' H' n R' => fin .non as' G' H' n R'.nil (by rw [ew]; rfl)
end
end DK
namespace DK
open PySem PySem.Spec L2
section
variable {K : PySem.W.Frag} [HasW K]
theorem OpR.or {X : Cx} {f : Value → Value → Sem Value} {r r' : R2} (h : OpR X f r) (h' : OpR X f r') : OpR X f (fun x y H Q => r x y H Q ∨ r' x y H Q) := fun pins s σ H x y u v Q I rx ry q => by
  rcases q with q | q
  · exact h pins s σ H x y u v Q I rx ry q
  · exact h' pins s σ H x y u v Q I rx ry q
theorem CallR.or {X : Cx} {f : Value} {r r' : List V → Hp → VK → Prop} (h : CallR X f r) (h' : CallR X f r') : CallR X f (fun xs H Q => r xs H Q ∨ r' xs H Q) := fun pins s σ H vs us Q I rv q => by
  rcases q with q | q
  · exact h pins s σ H vs us Q I rv q
  · exact h' pins s σ H vs us Q I rv q
def rAddI : R2 := rI0 fun i j => .int (i + j)
def rAddS : R2 := fun x y H Q => ∃ i j : Str, x = .str i ∧ y = .str j ∧ i.length + j.length ≤ sizeLine ∧ Q (.str (i ++ j)) H
def rPlus (K : PySem.W.Frag) : R2 := fun x y H Q => rAddI x y H Q ∨ (rAddS x y H Q ∨ (rCat x y H Q ∨ rCatA K x y H Q))
theorem op_plus {X : Cx} : OpR X (binaryOp .Add) (rPlus X.K) := OpR.or op_add (OpR.or op_add_str (OpR.or op_cat op_catA))
theorem o_addI {i j : Int} : Op2 K (rPlus K) (.int i) (.int j) (.int (i + j)) := fun P as ρ μ σ G H x y R rx ry Q q => .inl ⟨i, j, rx, ry, q _ G H .refl R rfl⟩
theorem sOk_append {a b : Str} (ha : sOk a) (hb : sOk b) (h : (a ++ b).length ≤ SB) : sOk (a ++ b) := ⟨h, by
  have := ha.2
  have := hb.2
  rw [Str.cps_append, Array.all_append]
  simp_all⟩
theorem len_append (a b : Str) : (a ++ b).length = a.length + b.length := by
  show (a ++ b).cps.size = a.cps.size + b.cps.size
  rw [Str.cps_append, Array.size_append]
theorem o_addS {a b : Str} (h : (a ++ b).length ≤ SB) : Op2 K (rPlus K) (.str a) (.str b) (.str (a ++ b)) := fun P as ρ μ σ G H x y R ⟨rx, ka⟩ ⟨ry, kb⟩ Q q =>
  .inr (.inl ⟨a, b, rx, ry, by rw [← len_append]; exact Nat.le_trans h (by decide), q _ G H .refl R ⟨rfl, sOk_append ka kb h⟩⟩)
theorem o_addT {xs ys : List D} (h : xs.length + ys.length ≤ LB) : Op2 K (rPlus K) (.tup xs) (.tup ys) (.tup (xs ++ ys)) := fun P as ρ μ σ G H x y R ⟨_, a, vs, ex, ga, ra⟩ ⟨_, b, us, ey, gb, rb⟩ Q q => by
  refine .inr (.inr (.inr ⟨a, b, vs, us, ex, ey, same_sqt R.sub ga, same_sqt R.sub gb, ?_, ?_⟩))
  · rw [ra.length, rb.length]
    exact Nat.le_trans h (by decide)
  · refine ⟨fun e => ?_, fun _ e => ?_, fun _ _ p hp => ?_⟩
    · have e' : xs = [] := List.eq_nil_of_length_eq_zero (by rw [← ra.length, e]; rfl)
      subst e'
      exact q _ G H .refl R ⟨by simpa using h, b, us, rfl, gb, rb⟩
    · have e' : ys = [] := List.eq_nil_of_length_eq_zero (by rw [← rb.length, e]; rfl)
      subst e'
      rw [List.append_nil] at q
      exact q _ G H .refl R ⟨by simpa using h, a, vs, rfl, ga, ra⟩
    · obtain ⟨R2, n2⟩ := R.imm hp (.tup (vs ++ us))
      exact q _ _ _ n2 R2 ⟨by rw [List.length_append]; exact h, p, _, rfl, SqT.of upd_same, RepL.mono n2.gr _ _ (ra.append rb)⟩
theorem o_int {C : Int → Int → Prop} {g : Int → Int → V} {i j : Int} {d : D} (hc : C i j) (hd : ∀ G, Rep K G d (g i j)) : Op2 K (rI C g) (.int i) (.int j) d := fun P as ρ μ σ G H x y R rx ry Q q => ⟨i, j, rx, ry, hc, q _ G H .refl R (hd G)⟩
theorem o_int0 {g : Int → Int → V} {i j : Int} {d : D} (hd : ∀ G, Rep K G d (g i j)) : Op2 K (rI0 g) (.int i) (.int j) d := fun P as ρ μ σ G H x y R rx ry Q q => ⟨i, j, rx, ry, q _ G H .refl R (hd G)⟩
def rMinus : R2 := rI0 fun i j => .int (i - j)
theorem op_minus {X : Cx} : OpR X (binaryOp .Sub) rMinus := op_sub
theorem o_sub {i j : Int} : Op2 K rMinus (.int i) (.int j) (.int (i - j)) := o_int0 fun _ => rfl
def rFd : R2 := rI CDiv fun i j => .int (i / j)
theorem op_fd {X : Cx} : OpR X (binaryOp .FloorDiv) rFd := op_fdiv
theorem o_fd {i j : Int} (h : 0 < j ∧ j < 1073741824) : Op2 K rFd (.int i) (.int j) (.int (i / j)) := o_int h fun _ => rfl
def rMd : R2 := rI (fun _ j => 0 < j) fun i j => .int (i % j)
theorem op_md {X : Cx} : OpR X (binaryOp .Mod) rMd := op_mod
theorem o_md {i j : Int} (h : 0 < j) : Op2 K rMd (.int i) (.int j) (.int (i % j)) := o_int h fun _ => rfl
def rPw : R2 := rI CPow fun i j => .int (i ^ j.toNat)
theorem op_pw {X : Cx} : OpR X (binaryOp .Pow) rPw := op_pow
theorem o_pw {i j : Int} (h : 0 ≤ j ∧ j ≤ 1000000 ∧ i.natAbs < 2 ^ 64) : Op2 K rPw (.int i) (.int j) (.int (i ^ j.toNat)) := o_int h fun _ => rfl
def rLt' : R2 := rI0 fun i j => .bl (decide (i < j))
def rGt' : R2 := rI0 fun i j => .bl (decide (j < i))
def rGe' : R2 := rI0 fun i j => .bl (decide (j ≤ i))
theorem op_lt' {X : Cx} : OpR X (compareOp .Lt) rLt' := op_lt
theorem op_gt' {X : Cx} : OpR X (compareOp .Gt) rGt' := op_gt
theorem op_ge' {X : Cx} : OpR X (compareOp .GtE) rGe' := op_ge
theorem o_lt {i j : Int} : Op2 K rLt' (.int i) (.int j) (.bl (decide (i < j))) := o_int0 fun _ => rfl
theorem o_gt {i j : Int} : Op2 K rGt' (.int i) (.int j) (.bl (decide (j < i))) := o_int0 fun _ => rfl
theorem o_ge {i j : Int} : Op2 K rGe' (.int i) (.int j) (.bl (decide (j ≤ i))) := o_int0 fun _ => rfl
def rMulI : R2 := rI CMul fun i j => .int (i * j)
def rTimes (K : PySem.W.Frag) : R2 := fun x y H Q => rMulI x y H Q ∨ (rRep x y H Q ∨ rRepT K x y H Q)
theorem op_times {X : Cx} : OpR X (binaryOp .Mult) (rTimes X.K) := OpR.or op_mul (OpR.or op_rep op_repT)
theorem o_mul {i j : Int} (h : (-(2 ^ 64) < i ∧ i < 2 ^ 64) ∨ (-(2 ^ 64) < j ∧ j < 2 ^ 64)) : Op2 K (rTimes K) (.int i) (.int j) (.int (i * j)) := fun P as ρ μ σ G H x y R rx ry Q q => .inl ⟨i, j, rx, ry, h, q _ G H .refl R rfl⟩
def isNon : D → Bool
  | .non => true
  | _ => false
mutual
def toPy : D → PyData
  | .non => .none
  | .bl b => .bool b
  | .int i => .int i
  | .str s => .str s
  | .tup xs => .tuple (toPyL xs)
  | .lst xs => .list (toPyL xs)
  | .obj _ _ _ => .none
  | .ty _ => .none
  | .cls _ => .none
  | .scr _ => .none
def toPyL : List D → List PyData
  | [] => []
  | x :: xs => toPy x :: toPyL xs
end
mutual
def pyOk : D → Bool
  | .obj _ _ _ => false
  | .ty _ => false
  | .cls _ => false
  | .scr _ => false
  | .tup xs => pyOkL xs
  | .lst xs => pyOkL xs
  | _ => true
def pyOkL : List D → Bool
  | [] => true
  | x :: xs => pyOk x && pyOkL xs
end
mutual
theorem dp_of {G H : Hp} (s : Same G H) : ∀ (d : D) (v : V), pyOk d = true → Rep K G d v → Dp K H v (toPy d)
  | .non, v, _, h => by rw [show v = .non from h]; exact .non
  | .bl b, v, _, h => by rw [show v = .bl b from h]; exact .bl b
  | .int b, v, _, h => by rw [show v = .int b from h]; exact .int b
  | .str b, v, _, h => by rw [show v = .str b from h.1]; exact .str b
  | .tup xs, v, k, ⟨_, a, vs, e, g, r⟩ => by rw [e]; exact .tup (same_sqt s g) (dp_ofL s xs vs k r)
  | .lst xs, v, k, ⟨_, a, vs, e, g, r⟩ => by rw [e]; exact .lst (SqL.of (s _ _ g)) (dp_ofL s xs vs k r)
  | .obj _ _ _, _, k, _ => by cases k
  | .ty _, _, k, _ => by cases k
  | .cls _, _, k, _ => by cases k
  | .scr _, _, k, _ => by cases k
theorem dp_ofL {G H : Hp} (s : Same G H) : ∀ (ds : List D) (vs : List V), pyOkL ds = true → RepL K G ds vs → DpAll K H vs (toPyL ds)
  | [], vs, _, h => by rw [show vs = [] from h]; exact .nil
  | d :: ds, vs, k, ⟨v, r, e, h1, h2⟩ => by
    have k' := Bool.and_eq_true_iff.mp (show (pyOk d && pyOkL ds) = true from k)
    rw [e]
    exact .cons (dp_of s d v k'.1 h1) (dp_ofL s ds r k'.2 h2)
end
mutual
theorem lay_of {G : Hp} : ∀ (d : D) (v : V), Rep K G d v → (toPy d).canLay0 = true
  | .non, _, _ => rfl
  | .bl _, _, _ => rfl
  | .int _, _, _ => rfl
  | .str s, _, h => h.2.2
  | .tup xs, _, ⟨_, a, vs, e, g, r⟩ => lay_ofL xs vs r
  | .lst xs, _, ⟨_, a, vs, e, g, r⟩ => lay_ofL xs vs r
  | .obj _ _ _, _, _ => rfl
  | .ty _, _, _ => rfl
  | .cls _, _, _ => rfl
  | .scr _, _, _ => rfl
theorem lay_ofL {G : Hp} : ∀ (ds : List D) (vs : List V), RepL K G ds vs → PyData.canLayAll0 (toPyL ds) = true
  | [], _, _ => rfl
  | d :: ds, vs, ⟨v, r, e, h1, h2⟩ => Bool.and_eq_true_iff.mpr ⟨lay_of d v h1, lay_ofL ds r h2⟩
end
def rEqq (K : PySem.W.Frag) : R2 := fun x y H Q => rEq x y H Q ∨ rEqD K x y H Q
def rNee (K : PySem.W.Frag) : R2 := fun x y H Q => rNe x y H Q ∨ rNeD K x y H Q
theorem op_eqq {X : Cx} (hu : X.A.units + 64 < cLine) : OpR X (compareOp .Eq) (rEqq X.K) := OpR.or op_eq (op_eqD hu)
theorem op_nee {X : Cx} (hu : X.A.units + 64 < cLine) : OpR X (compareOp .NotEq) (rNee X.K) := OpR.or op_ne (op_neD hu)
def eqP (a b : D) : Bool := PyData.eqv (toPy a) (toPy b)
theorem dec_congr {p q : Prop} [Decidable p] [Decidable q] (h : p ↔ q) : decide p = decide q := by
  by_cases k : p
  · rw [decide_eq_true k, decide_eq_true (h.mp k)]
  · rw [decide_eq_false k, decide_eq_false fun z => k (h.mpr z)]
theorem o_eqI {i j : Int} : Op2 K (rEqq K) (.int i) (.int j) (.bl (decide (i = j))) := fun P as ρ μ σ G H x y R rx ry Q q => by
  subst rx ry
  refine .inl ⟨rfl, ?_⟩
  rw [dec_congr (show V.int i = V.int j ↔ i = j from ⟨fun e => by injection e, fun e => by rw [e]⟩)]
  exact q _ G H .refl R rfl
theorem o_neI {i j : Int} : Op2 K (rNee K) (.int i) (.int j) (.bl (!decide (i = j))) := fun P as ρ μ σ G H x y R rx ry Q q => by
  subst rx ry
  refine .inl ⟨rfl, ?_⟩
  rw [dec_congr (show V.int i = V.int j ↔ i = j from ⟨fun e => by injection e, fun e => by rw [e]⟩)]
  exact q _ G H .refl R rfl
theorem o_eqS {i j : Str} : Op2 K (rEqq K) (.str i) (.str j) (.bl (decide (i = j))) := fun P as ρ μ σ G H x y R ⟨rx, _⟩ ⟨ry, _⟩ Q q => by
  subst rx ry
  refine .inl ⟨rfl, ?_⟩
  rw [dec_congr (show V.str i = V.str j ↔ i = j from ⟨fun e => by injection e, fun e => by rw [e]⟩)]
  exact q _ G H .refl R rfl
theorem o_neS {i j : Str} : Op2 K (rNee K) (.str i) (.str j) (.bl (!decide (i = j))) := fun P as ρ μ σ G H x y R ⟨rx, _⟩ ⟨ry, _⟩ Q q => by
  subst rx ry
  refine .inl ⟨rfl, ?_⟩
  rw [dec_congr (show V.str i = V.str j ↔ i = j from ⟨fun e => by injection e, fun e => by rw [e]⟩)]
  exact q _ G H .refl R rfl
theorem o_eqB {i j : Bool} : Op2 K (rEqq K) (.bl i) (.bl j) (.bl (decide (i = j))) := fun P as ρ μ σ G H x y R rx ry Q q => by
  subst rx ry
  refine .inl ⟨rfl, ?_⟩
  rw [dec_congr (show V.bl i = V.bl j ↔ i = j from ⟨fun e => by injection e, fun e => by rw [e]⟩)]
  exact q _ G H .refl R rfl
theorem o_neB {i j : Bool} : Op2 K (rNee K) (.bl i) (.bl j) (.bl (!decide (i = j))) := fun P as ρ μ σ G H x y R rx ry Q q => by
  subst rx ry
  refine .inl ⟨rfl, ?_⟩
  rw [dec_congr (show V.bl i = V.bl j ↔ i = j from ⟨fun e => by injection e, fun e => by rw [e]⟩)]
  exact q _ G H .refl R rfl
theorem inV_strs {s : Str} : ∀ {ss : List Str}, inV (.str s) (ss.map V.str) = decide (s ∈ ss)
  | [] => rfl
  | x :: ss => by
    show (eqV (.str x) (.str s) || inV (.str s) (ss.map V.str)) = _
    rw [inV_strs]
    show ((x == s) || decide (s ∈ ss)) = _
    by_cases h : x = s
    · subst h
      simp
    · have h' : ¬ s = x := fun e => h e.symm
      simp [h, h']
theorem atI_rep {G : Hp} {ds : List D} {vs : List V} {i : Int} {d : D} (r : RepL K G ds vs) (h : atI ds i = some d) : ∃ v, atI vs i = some v ∧ Rep K G d v := by
  unfold atI at h ⊢
  rw [r.length]
  cases e : ixN ds.length i with
  | none => rw [e] at h; cases h
  | some j =>
    rw [e] at h
    exact r.get h
theorem o_ixT {xs : List D} {i : Int} {d : D} (h : atI xs i = some d) : Op2 K (rIx K) (.tup xs) (.int i) d := fun P as ρ μ σ G H x y R ⟨_, a, vs, e, g, r⟩ ry Q q => by
  obtain ⟨v, h1, h2⟩ := atI_rep r h
  exact .inr (.inl ⟨a, vs, i, v, e, ry, same_sqt R.sub g, h1, q _ G H .refl R h2⟩)
theorem o_ixS {s : Str} {i : Int} {c : Nat} (h : atI s.cps.toList i = some c) : Op2 K (rIx K) (.str s) (.int i) (.str ⟨#[c]⟩) := fun P as ρ μ σ G H x y R ⟨rx, hs⟩ ry Q q => by
  refine .inr (.inr ⟨s, i, c, rx, ry, Nat.le_trans hs.1 (by decide), h, q _ G H .refl R ⟨rfl, by show (1 : Nat) ≤ SB; decide, ?_⟩⟩)
  have hm : c ∈ s.cps.toList := by
    unfold atI at h
    cases e : ixN s.cps.toList.length i with
    | none => rw [e] at h; cases h
    | some j =>
      rw [e] at h
      exact List.mem_of_getElem? h
  have := Array.all_eq_true_iff_forall_mem.mp hs.2 c (by simpa using hm)
  simpa using this
end
end DK
namespace DK
open PySem PySem.Spec PyProof.Rows L2
def txtOf (e : Int × Value) : Str := match e.2 with | .str z _ => z | _ => Str.empty
def TxtE (w : World) (e : Int × Value) : Prop := ∃ z tk, e.2 = Value.str z tk ∧ e.1 = hashStr w z
def SetS (w : World) (h : Heap) (a : Addr) (M : Str → Bool) (n : Nat) : Prop :=
  ∃ ob es ep tb, h.get? a = some ob ∧ ob.ExactSet ∧ ob.data = .set es ep tb ∧ (∀ e ∈ es.toList, TxtE w e) ∧ (es.toList.map txtOf).Nodup ∧ (∀ z, M z = true ↔ z ∈ es.toList.map txtOf) ∧
    es.size < scanBound ∧ tb.fits es.size = true ∧ es.size = n ∧ L2.Ris tb.place.toList ∧ (w.params.followText "set-order" = true ∨ tb.led = true)
section
variable {P : Program} {w : World} {h h' : Heap} {a : Addr} {M : Str → Bool} {n : Nat}
theorem SetS.stay (R : SetS w h a M n) (kp : ∀ ob, h.get? a = some ob → h'.get? a = some ob) : SetS w h' a M n :=
  let ⟨ob, es, ep, tb, g, rest⟩ := R
  ⟨ob, es, ep, tb, kp ob g, rest⟩
end
section
variable {P : Program} {w : World} {A : Around} {E : Value → Shared → Prop} {s : Shared} {a : Addr} {M : Str → Bool} {n : Nat}
end
section
variable {X : Cx}
end
end DK
namespace DK
open PySem PySem.Spec PyProof.Rows L2
end DK
namespace DK
open PySem PySem.Spec PyProof.Rows L2
theorem lt_irr : ∀ a : List Nat, ltCps a a = false
  | [] => rfl
  | x :: a => by
    show (decide (x < x) || (x == x && ltCps a a)) = false
    rw [lt_irr a]
    simp
theorem lt_tri : ∀ a b : List Nat, ltCps a b = false → ltCps b a = false → a = b
  | [], [], _, _ => rfl
  | [], _ :: _, h, _ => by cases h
  | _ :: _, [], _, h => by cases h
  | x :: a, y :: b, h1, h2 => by
    have h1' : (decide (x < y) || (x == y && ltCps a b)) = false := h1
    have h2' : (decide (y < x) || (y == x && ltCps b a)) = false := h2
    simp only [Bool.or_eq_false_iff, decide_eq_false_iff_not, Bool.and_eq_false_iff, beq_eq_false_iff_ne] at h1' h2'
    have e : x = y := by omega
    subst e
    have q1 : ltCps a b = false := h1'.2.resolve_left fun z => z rfl
    have q2 : ltCps b a = false := h2'.2.resolve_left fun z => z rfl
    rw [lt_tri a b q1 q2]
theorem lt_tr : ∀ a b c : List Nat, ltCps a b = true → ltCps b c = true → ltCps a c = true
  | [], [], _, h, _ => by cases h
  | [], _ :: _, [], _, h => by cases h
  | [], _ :: _, _ :: _, _, _ => rfl
  | _ :: _, [], _, h, _ => by cases h
  | _ :: _, _ :: _, [], _, h => by cases h
  | x :: a, y :: b, z :: c, h1, h2 => by
    have h1' : (decide (x < y) || (x == y && ltCps a b)) = true := h1
    have h2' : (decide (y < z) || (y == z && ltCps b c)) = true := h2
    show (decide (x < z) || (x == z && ltCps a c)) = true
    simp only [Bool.or_eq_true, decide_eq_true_eq, Bool.and_eq_true, beq_iff_eq] at h1' h2' ⊢
    rcases h1' with p | ⟨p1, p2⟩ <;> rcases h2' with q | ⟨q1, q2⟩
    · exact .inl (by omega)
    · exact .inl (by omega)
    · exact .inl (by omega)
    · exact .inr ⟨by omega, lt_tr a b c p2 q2⟩
def leS (a b : Str) : Bool := !ltCps b.cps.toList a.cps.toList
theorem leS_tot (a b : Str) : leS a b = true ∨ leS b a = true := by
  unfold leS
  cases h : ltCps b.cps.toList a.cps.toList with
  | false => exact .inl rfl
  | true =>
    refine .inr ?_
    cases k : ltCps a.cps.toList b.cps.toList with
    | false => rfl
    | true =>
      have := lt_tr _ _ _ h k
      rw [lt_irr] at this
      cases this
theorem leS_anti {a b : Str} (h : leS a b = true) (k : leS b a = true) : a = b := by
  unfold leS at h k
  rw [Bool.not_eq_true'] at h k
  exact TL.ext_tl (lt_tri _ _ k h)
theorem leS_tr {a b c : Str} (h : leS a b = true) (k : leS b c = true) : leS a c = true := by
  unfold leS at h k ⊢
  rw [Bool.not_eq_true'] at h k ⊢
  cases q : ltCps c.cps.toList a.cps.toList with
  | false => rfl
  | true =>
    by_cases e : ltCps a.cps.toList b.cps.toList = true
    · rw [lt_tr _ _ _ q e] at k
      cases k
    · have e1 : ltCps a.cps.toList b.cps.toList = false := by simpa using e
      have := lt_tri _ _ e1 h
      rw [this, k] at q
      cases q
def insS (x : Str) : List Str → List Str
  | [] => [x]
  | y :: r => if leS x y = true then x :: y :: r else y :: insS x r
def srt : List Str → List Str
  | [] => []
  | x :: r => insS x (srt r)
theorem insS_perm (x : Str) : ∀ l : List Str, (insS x l).Perm (x :: l)
  | [] => .refl _
  | y :: r => by
    unfold insS
    split
    · exact .refl _
    · exact ((insS_perm x r).cons y).trans (List.Perm.swap x y r)
theorem srt_perm : ∀ l : List Str, (srt l).Perm l
  | [] => .refl _
  | x :: r => (insS_perm x (srt r)).trans ((srt_perm r).cons x)
def Srt (l : List Str) : Prop := l.Pairwise fun a b => leS a b = true
theorem insS_srt {x : Str} : ∀ {l : List Str}, Srt l → Srt (insS x l)
  | [], _ => List.pairwise_singleton _ _
  | y :: r, h => by
    obtain ⟨h1, h2⟩ := List.pairwise_cons.mp h
    unfold insS
    split
    · rename_i c
      refine List.pairwise_cons.mpr ⟨fun z hz => ?_, h⟩
      rcases List.mem_cons.mp hz with e | e
      · rw [e]; exact c
      · exact leS_tr c (h1 z e)
    · rename_i c
      refine List.pairwise_cons.mpr ⟨fun z hz => ?_, insS_srt h2⟩
      rcases List.mem_cons.mp ((insS_perm x r).mem_iff.mp hz) with e | e
      · rw [e]
        exact (leS_tot y x).resolve_right c
      · exact h1 z e
theorem srt_srt : ∀ l : List Str, Srt (srt l)
  | [] => List.Pairwise.nil
  | x :: r => insS_srt (srt_srt r)
theorem srt_uniq : ∀ {l m : List Str}, Srt l → Srt m → l.Perm m → l = m
  | [], m, _, _, p => (List.nil_perm.mp p).symm ▸ rfl
  | x :: l, [], _, _, p => absurd (List.perm_nil.mp p) (by simp)
  | x :: l, y :: m, h, k, p => by
    obtain ⟨h1, h2⟩ := List.pairwise_cons.mp h
    obtain ⟨k1, k2⟩ := List.pairwise_cons.mp k
    have e : x = y := by
      have xm : x ∈ y :: m := p.mem_iff.mp (List.mem_cons_self)
      have ym : y ∈ x :: l := p.mem_iff.mpr (List.mem_cons_self)
      rcases List.mem_cons.mp xm with e | e
      · exact e
      · rcases List.mem_cons.mp ym with f | f
        · exact f.symm
        · exact leS_anti (h1 y f) (k1 x e)
    subst e
    rw [srt_uniq h2 k2 ((List.perm_cons x).mp p)]
def once : List Str → List Str
  | [] => []
  | x :: r => if x ∈ r then once r else x :: once r
def srtU (l : List Str) : List Str := srt (once l)
end DK
namespace DK
open PySem PySem.Spec PyProof.Rows L2
section
variable {K : PySem.W.Frag} [HasW K] {ρ ρ1 ρ2 : Env'} {μ μ1 μ2 μ3 : Mu} {ta tb te tc : TE} {w : W} {a b d : D} {i : Nat}
inductive SeqW (μ : Mu) : W → List D → Prop where
  | lst {xs : List D} : SeqW μ (.val (.lst xs)) xs
  | tup {xs : List D} : SeqW μ (.val (.tup xs)) xs
  | loc {j : Nat} {xs : List D} : μ[j]? = some (.lst xs) → SeqW μ (.loc j) xs
  | frz {j : Nat} {xs : List D} : μ[j]? = some (.frz xs) → SeqW μ (.loc j) xs
theorem PI.or {X : Cx} {tg e : Expr} {wi wj : TI} (h : PI X tg e wi) (k : PI X tg e wj) : PI X tg e (fun σ H R => wi σ H R ∨ wj σ H R) := ⟨fun pins s σ H R I q => by
  rcases q with q | q
  · exact h.run pins s σ H R I q
  · exact k.run pins s σ H R I q⟩
def iSeq (K : PySem.W.Frag) (te : TE) : TI := fun σ H R => iList K te σ H R ∨ iTup K te σ H R
theorem pi_seq {X : Cx} {tg e : Expr} {te : TE} (h : PE X e te) : PI X tg e (iSeq X.K te) := PI.or (pi_list h) (pi_tup h)
theorem at_loc {G H : Hp} {as : List Addr} {P : Addr → Prop} {σ : L2.St} {j : Nat} {a : Addr} {xs : List D} (R : Rl K G H as P ρ μ σ) (ha : as[j]? = some a) (hm : μ[j]? = some (.lst xs) ∨ μ[j]? = some (.frz xs)) : ∃ vs, H a = some (.lst vs) ∧ RepL K G xs vs ∧ xs.length ≤ LB := by
  rcases hm with hm | hm
  · obtain ⟨_, z, vs, h1, h2⟩ := R.mu j a _ ha hm
    exact ⟨vs, h1, h2, z⟩
  · obtain ⟨z, vs, h1, h2⟩ := R.mu j a _ ha hm
    exact ⟨vs, R.sub _ _ h1, h2, z⟩
def lstAt (j : Nat) (xs : List D) : Mu → Prop := fun μ => μ[j]? = some (.lst xs) ∨ μ[j]? = some (.frz xs)
theorem ei_loc {j : Nat} {xs : List D} (h : Ev K te ρ μ (.loc j) μ1) (hm : lstAt j xs μ1) : EvI K (iList K te) ρ μ xs μ1 (lstAt j xs) := ⟨hm, fun P as σ G H R Q q =>
  h P as σ G H R _ fun v as1 G1 H1 n1 R1 ⟨a, ha, ev⟩ => by
    obtain ⟨vs, h1, r1, z1⟩ := at_loc R1 ha hm
    refine ⟨a, ev, ⟨vs, SqL.of h1⟩, q _ as1 G1 H1 n1 R1 fun i P' as' ρ' μ' σ' G' H' s pr hc R' => ?_⟩
    obtain ⟨us, h2, r2, _⟩ := at_loc R' (at_pre pr ha) hc
    have hs : SqL K H' a us := SqL.of h2
    constructor
    · intro d hd
      obtain ⟨x, hx, rx⟩ := r2.get hd
      refine ⟨⟨us, x, hs, hx⟩, fun y H2 ⟨e, hy⟩ => ?_⟩
      subst e
      have : y = x := by
        have := hy us hs
        rw [hx] at this
        exact (Option.some.inj this).symm
      subst this
      exact ⟨G', .refl, R', rx⟩
    · intro hn
      exact ⟨us, hs, by rw [r2.length]; exact List.getElem?_eq_none_iff.mp hn⟩⟩
def seqC (w : W) (xs : List D) : Mu → Prop := match w with
  | .loc j => lstAt j xs
  | _ => CT
theorem ei_seq {xs : List D} (h : Ev K te ρ μ w μ1) (hw : SeqW μ1 w xs) : EvI K (iSeq K te) ρ μ xs μ1 (seqC w xs) := by
  cases hw with
  | lst => exact ⟨trivial, fun P as σ G H R Q q => .inl ((ei_list h).2 P as σ G H R Q q)⟩
  | tup => exact ⟨trivial, fun P as σ G H R Q q => .inr ((ei_tup h).2 P as σ G H R Q q)⟩
  | loc hm => exact ⟨.inl hm, fun P as σ G H R Q q => .inl ((ei_loc h (.inl hm)).2 P as σ G H R Q q)⟩
  | frz hm => exact ⟨.inr hm, fun P as σ G H R Q q => .inl ((ei_loc h (.inr hm)).2 P as σ G H R Q q)⟩
theorem SeqW.size {G H : Hp} {as : List Addr} {P : Addr → Prop} {σ : L2.St} {xs : List D} {v : V} (R : Rl K G H as P ρ μ σ) (h : SeqW μ w xs) (r : RepW K G as w v) : ∃ a vs, v = .ref a ∧ (SqL K H a vs ∨ SqT K H a vs) ∧ RepL K G xs vs ∧ xs.length ≤ LB := by
  cases h with
  | lst => obtain ⟨z, a, vs, e, g, q⟩ := r; exact ⟨a, vs, e, .inl (SqL.of (R.sub _ _ g)), q, z⟩
  | tup => obtain ⟨z, a, vs, e, g, q⟩ := r; exact ⟨a, vs, e, .inr (same_sqt R.sub g), q, z⟩
  | loc hm =>
    obtain ⟨a, ha, e⟩ := r
    obtain ⟨vs, h1, h2, z⟩ := at_loc R ha (.inl hm)
    exact ⟨a, vs, e, .inl (SqL.of h1), h2, z⟩
  | frz hm =>
    obtain ⟨a, ha, e⟩ := r
    obtain ⟨vs, h1, h2, z⟩ := at_loc R ha (.inr hm)
    exact ⟨a, vs, e, .inl (SqL.of h1), h2, z⟩
def signs (s : Str) : List D := s.cps.toList.map fun c => D.str ⟨#[c]⟩
theorem repL1 {G : Hp} {d : D} {vs : List V} (h : RepL K G [d] vs) : ∃ v, vs = [v] ∧ Rep K G d v := by
  obtain ⟨v, r, e, h1, h2⟩ := h
  rw [show r = [] from h2] at e
  exact ⟨v, e, h1⟩
theorem repW1 {G : Hp} {as : List Addr} {w : W} {vs : List V} (h : RepWs K G as [w] vs) : ∃ v, vs = [v] ∧ RepW K G as w v := by
  obtain ⟨v, r, e, h1, h2⟩ := h
  rw [show r = [] from h2] at e
  exact ⟨v, e, h1⟩
def rLenA (K : PySem.W.Frag) : List V → Hp → VK → Prop := fun xs H Q => ∃ x n, xs = [x] ∧ LenV K x H n ∧ Q (.int n) H
theorem call_lenA {X : Cx} : CallR X (.builtin "len") (rLenA X.K) := call_len
def isData : D → Bool
  | .ty _ => false
  | .cls _ => false
  | .scr _ => false
  | _ => true
def isT (T : String) : D → Bool
  | .non => false
  | .bl _ => T == "int" || T == "bool"
  | .int _ => T == "int"
  | .str _ => T == "str"
  | .tup _ => T == "tuple"
  | .lst _ => T == "list"
  | _ => false
def rTupOf (K : PySem.W.Frag) : List V → Hp → VK → Prop := fun xs H Q => ∃ p ys, xs = [.ref p] ∧ ((SqL K H p ys ∧ ∀ l, H l = none → Q (.ref l) (upd H l (.tup ys))) ∨ (SqT K H p ys ∧ Q (.ref p) H))
theorem call_tupOf {X : Cx} : CallR X (.type "tuple") (rTupOf X.K) := call_tuple_of
def rInt1 : List V → Hp → VK → Prop := fun xs H Q => (∃ i, xs = [.int i] ∧ Q (.int i) H) ∨ ∃ k, xs = [.bl k] ∧ Q (.int (if k then 1 else 0)) H
theorem call_int1' {X : Cx} : CallR X (.type "int") rInt1 := call_int1
def rAbs : List V → Hp → VK → Prop := fun xs H Q => ∃ i, xs = [.int i] ∧ Q (.int (if i < 0 then -i else i)) H
theorem call_abs' {X : Cx} : CallR X (.builtin "abs") rAbs := call_abs
end
end DK
namespace DK
open PySem PySem.Spec PyProof.Rows L2
section
variable {K : PySem.W.Frag} [HasW K] {ρ ρ1 ρ2 : Env'} {μ μ1 μ2 μ3 : Mu} {ta tb te tc : TE} {w : W} {a b d : D} {i : Nat}
theorem sOk_iff {s : Str} : sOk s ↔ (TL.tl s).length ≤ SB ∧ ∀ c ∈ TL.tl s, c < 0x110000 := by
  unfold sOk
  rw [TL.len_tl, Array.all_eq_true_iff_forall_mem]
  refine and_congr_right fun _ => ⟨fun h c hc => ?_, fun h c hc => ?_⟩
  · have := h c (by simpa using hc)
    simpa using this
  · have := h c (by simpa using hc)
    simpa using this
def cutD (xs : List D) (lo hi : Option Int) : List D := (xs.drop (HT.sIx xs.length 0 lo)).take (HT.sIx xs.length xs.length hi - HT.sIx xs.length 0 lo)
theorem cut_rep {G : Hp} {xs : List D} {vs : List V} {lo hi : Option Int} (r : RepL K G xs vs) : RepL K G (cutD xs lo hi) (cutV vs lo hi) := by
  unfold cutD cutV
  rw [r.length]
  exact (r.drop _).take _
theorem cut_len {xs : List D} {lo hi : Option Int} : (cutD xs lo hi).length ≤ xs.length := by
  unfold cutD
  rw [List.length_take, List.length_drop]
  omega
def rSlc (K : PySem.W.Frag) : V → Option Int → Option Int → Hp → VK → Prop := fun x lo hi H Q => rSlL K x lo hi H Q ∨ (rSlA K x lo hi H Q ∨ rSlS x lo hi H Q)
theorem SlR.or {X : Cx} {r r' : V → Option Int → Option Int → Hp → VK → Prop} (h : SlR X r) (h' : SlR X r') : SlR X (fun x lo hi H Q => r x lo hi H Q ∨ r' x lo hi H Q) := by
  intro pins s σ H x v vl vu lo hi sl Q I rx hs pl pu q
  rcases q with q | q
  · exact h pins s σ H x v vl vu lo hi sl Q I rx hs pl pu q
  · exact h' pins s σ H x v vl vu lo hi sl Q I rx hs pl pu q
theorem sl_any {X : Cx} : SlR X (rSlc X.K) := SlR.or sl_list (SlR.or sl_tupA sl_str)
theorem ev_append {j : Nat} {xs : List D} {t : TA} (ho : Ev K ta ρ μ (.loc j) μ1) (ha : EvD K t ρ μ1 [d] μ2) (h1 : ∃ ys, lstAt j ys μ1) (hm : μ2[j]? = some (.lst xs)) (hz : xs.length < LB) : Ev K (tBM K "list" rAppend ta t) ρ μ (.val .non) (μ2.set j (.lst (xs ++ [d]))) := fun P as σ G H R Q q =>
  ho P as σ G H R _ fun v as1 G1 H1 n1 R1 ⟨a, ha', ev⟩ => by
    obtain ⟨ys, h1⟩ := h1
    obtain ⟨vs0, g0, _, _⟩ := at_loc R1 ha' h1
    subst ev
    refine ⟨.inl ⟨rfl, _, SqL.of g0⟩, ha P as1 σ G1 H1 R1 _ fun us as2 G2 H2 n2 R2 r2 => ?_⟩
    obtain ⟨u, eu, ru⟩ := repL1 (RepWs.vals.mp r2)
    have ha2 := at_pre n2.pre ha'
    obtain ⟨g, z, vs, hh, rl⟩ := R2.mu j a _ ha2 hm
    refine ⟨a, vs, u, rfl, eu, hh, by rw [rl.length]; exact Nat.lt_of_lt_of_le hz (by decide), ?_⟩
    obtain ⟨R3, n3⟩ := R2.put (o := .lst (vs ++ [u])) (m' := .lst (xs ++ [d])) ha2 hm g ⟨g, by rw [List.length_append]; exact hz, _, upd_same, rl.append (RepL.cons ru RepL.nil)⟩ rfl
    exact q _ as2 G2 _ ((n1.trans n2).trans n3) R3 rfl
theorem ev_pop {j : Nat} {xs : List D} (ho : Ev K ta ρ μ (.loc j) μ1) (hm : μ1[j]? = some (.lst (xs ++ [d]))) : Ev K (tBM0 K "list" rPop ta) ρ μ (.val d) (μ1.set j (.lst xs)) := fun P as σ G H R Q q =>
  ho P as σ G H R _ fun v as1 G1 H1 n1 R1 ⟨a, ha', ev⟩ => by
    obtain ⟨g, z, vs, hh, rl⟩ := R1.mu j a _ ha' hm
    subst ev
    have hl : vs.length = xs.length + 1 := by rw [rl.length]; simp
    obtain ⟨u, eu, ru⟩ := rl.get (i := xs.length) (d := d) (by simp)
    refine ⟨.inl ⟨rfl, _, SqL.of hh⟩, a, vs, u, rfl, rfl, hh, by rw [hl]; exact eu, ?_⟩
    have rd : RepL K G1 xs vs.dropLast := by
      have := rl.take xs.length
      rw [List.take_append_of_le_length (Nat.le_refl _), List.take_length] at this
      rw [List.dropLast_eq_take, hl]
      exact this
    obtain ⟨R3, n3⟩ := R1.put (o := .lst vs.dropLast) (m' := .lst xs) ha' hm g ⟨g, by simp at z; omega, _, upd_same, rd⟩ rfl
    exact q _ as1 G1 _ (n1.trans n3) R3 ru
theorem RepL.erase {G : Hp} : ∀ {xs : List D} {vs : List V} (k : Nat), RepL K G xs vs → RepL K G (xs.eraseIdx k) (vs.eraseIdx k)
  | [], _, k, h => by rw [show _ = [] from h]; exact rfl
  | _ :: _, _, 0, ⟨v, r, e, _, h2⟩ => by rw [e]; exact h2
  | _ :: _, _, k + 1, ⟨v, r, e, h1, h2⟩ => by rw [e]; exact ⟨v, _, rfl, h1, RepL.erase k h2⟩
theorem ex_setItem {j k : Nat} {xs : List D} {n : Int} (hv : Ev K te ρ μ (.val d) μ1) (ho : Ev K ta ρ μ1 (.loc j) μ2) (hi : Ev K tb ρ μ2 (.val (.int n)) μ3) (hm : μ3[j]? = some (.lst xs)) (hk : ixN xs.length n = some k) : Ex K (tAsg te (gSub ta tb rSetL)) ρ μ (.nx ρ (μ3.set j (.lst (xs.set k d)))) := fun P as σ G H R E q =>
  hv P as σ G H R _ fun v as1 G1 H1 n1 R1 r1 => ho P as1 σ G1 H1 R1 _ fun o as2 G2 H2 n2 R2 ⟨a, ha', ev⟩ => hi P as2 σ G2 H2 R2 _ fun x as3 G3 H3 n3 R3 r3 => by
    have ha3 := at_pre n3.pre ha'
    obtain ⟨g, z, vs, hh, rl⟩ := R3.mu j a _ ha3 hm
    refine ⟨a, vs, n, k, ev, r3, hh, by rw [rl.length]; exact hk, ?_⟩
    have rs : ∀ {xs : List D} {vs : List V} (k : Nat), RepL K G3 xs vs → RepL K G3 (xs.set k d) (vs.set k v) := by
      have rv := Rep.mono (n2.trans n3).gr _ _ r1
      intro xs
      induction xs with
      | nil => intro vs k h; rw [show vs = [] from h]; exact rfl
      | cons x xs ih =>
        rintro vs k ⟨u, r, e, h1, h2⟩
        subst e
        cases k with
        | zero => exact ⟨v, r, rfl, rv, h2⟩
        | succ k => exact ⟨u, _, rfl, h1, ih k h2⟩
    obtain ⟨R4, n4⟩ := R3.put (o := .lst (vs.set k v)) (m' := .lst (xs.set k d)) ha3 hm g ⟨g, by rw [List.length_set]; exact z, _, upd_same, rs k rl⟩ rfl
    exact q as3 σ G3 _ (((n1.trans n2).trans n3).trans n4) R4
theorem ex_par {j : Nat} {t : TA} {w1 w2 : W} (h : EvA K t ρ μ [w1, w2] μ1) : Ex K (tPar i j t) ρ μ (.nx ((ρ.set i (some w1)).set j (some w2)) μ1) := fun P as σ G H R E q =>
  h P as σ G H R _ fun vs as1 G1 H1 n1 R1 ⟨v, r, ev, r1, r2⟩ => by
    obtain ⟨u, eu, ru⟩ := repW1 r2
    subst eu
    exact ⟨v, u, ev, q as1 _ G1 H1 n1 ((R1.set r1).set ru)⟩
end
end DK
namespace DK
open PySem PySem.Spec PyProof.Rows L2
section
variable {K : PySem.W.Frag} [HasW K] {ρ : Env'} {μ μ1 : Mu} {w : W} {t : TA}
def enumD : Nat → List D → List D
  | _, [] => []
  | n, x :: xs => .tup [.int (n : Int), x] :: enumD (n + 1) xs
end
end DK
namespace DK
open PySem PySem.Spec PyProof.Rows L2
section
variable {K : PySem.W.Frag} [HasW K] {ρ ρ1 ρ2 : Env'} {μ μ1 μ2 μ3 : Mu} {ta tb te tc : TE} {w : W} {a b d : D} {i : Nat}
def keyD : Key → D
  | .inl n => .int n
  | .inr s => .str s
def valD (kvs : List (Key × D)) (k : Key) : Option D := (kvs.find? fun kv => decide (kv.1 = k)).map (·.2)
def putD (kvs : List (Key × D)) (k : Key) (d : D) : List (Key × D) :=
  if (kvs.any fun kv => decide (kv.1 = k)) = true then kvs.map (fun kv => if kv.1 = k then (kv.1, d) else kv) else kvs ++ [(k, d)]
def dropD (kvs : List (Key × D)) (k : Key) : List (Key × D) := kvs.filter fun kv => decide (kv.1 ≠ k)
theorem RepK.length {G : Hp} : ∀ {ks : List (Key × D)} {vs : List (Key × V)}, RepK K G ks vs → vs.length = ks.length
  | [], _, h => by rw [show _ = [] from h]; rfl
  | (_, _) :: _, _, ⟨_, _, e, _, h⟩ => by rw [e, List.length_cons, List.length_cons, RepK.length h]
theorem RepK.val {G : Hp} {k : Key} : ∀ {ks : List (Key × D)} {vs : List (Key × V)}, RepK K G ks vs → (∀ d, valD ks k = some d → ∃ v, valV vs k = some v ∧ Rep K G d v) ∧ (valD ks k = none → valV vs k = none)
  | [], _, h => by
    rw [show _ = [] from h]
    exact ⟨fun d e => (by cases e), fun _ => rfl⟩
  | (k0, d0) :: ks, _, ⟨v, r, e, h1, h2⟩ => by
    subst e
    obtain ⟨i1, i2⟩ := RepK.val (k := k) h2
    unfold valD valV at *
    rw [List.find?_cons, List.find?_cons]
    by_cases q : k0 = k
    · simp only [q, decide_true, Option.map_some]
      exact ⟨fun d e => ⟨v, rfl, by cases e; exact h1⟩, fun e => (by cases e)⟩
    · simp only [q, decide_false]
      exact ⟨i1, i2⟩
theorem RepK.any {G : Hp} {k : Key} : ∀ {ks : List (Key × D)} {vs : List (Key × V)}, RepK K G ks vs → (vs.any fun kv => decide (kv.1 = k)) = (ks.any fun kv => decide (kv.1 = k))
  | [], _, h => by rw [show _ = [] from h]; rfl
  | (_, _) :: _, _, ⟨_, _, e, _, h⟩ => by rw [e, List.any_cons, List.any_cons, RepK.any h]
theorem RepK.append {G : Hp} : ∀ {ks ls : List (Key × D)} {vs us : List (Key × V)}, RepK K G ks vs → RepK K G ls us → RepK K G (ks ++ ls) (vs ++ us)
  | [], _, _, _, h, k => by rw [show _ = [] from h]; exact k
  | (_, _) :: _, _, _, _, ⟨v, r, e, h1, h2⟩, k => by rw [e]; exact ⟨v, r ++ _, rfl, h1, RepK.append h2 k⟩
theorem RepK.over {G : Hp} {k : Key} {d : D} {v : V} (hd : Rep K G d v) : ∀ {ks : List (Key × D)} {vs : List (Key × V)}, RepK K G ks vs → RepK K G (ks.map fun kv => if kv.1 = k then (kv.1, d) else kv) (vs.map fun kv => if kv.1 = k then (kv.1, v) else kv)
  | [], _, h => by rw [show _ = [] from h]; exact rfl
  | (k0, d0) :: ks, _, ⟨u, r, e, h1, h2⟩ => by
    subst e
    rw [List.map_cons, List.map_cons]
    by_cases q : k0 = k
    · rw [if_pos (show (k0, d0).1 = k from q), if_pos (show (k0, u).1 = k from q)]
      exact ⟨v, _, rfl, hd, RepK.over hd h2⟩
    · rw [if_neg (show ¬ (k0, d0).1 = k from q), if_neg (show ¬ (k0, u).1 = k from q)]
      exact ⟨u, _, rfl, h1, RepK.over hd h2⟩
theorem RepK.put {G : Hp} {k : Key} {d : D} {v : V} (hd : Rep K G d v) {ks : List (Key × D)} {vs : List (Key × V)} (h : RepK K G ks vs) : RepK K G (putD ks k d) (putK vs k v) := by
  unfold putD putK
  rw [h.any]
  split
  · exact RepK.over hd h
  · exact h.append ⟨v, [], rfl, hd, rfl⟩
theorem RepK.drop {G : Hp} {k : Key} : ∀ {ks : List (Key × D)} {vs : List (Key × V)}, RepK K G ks vs → RepK K G (dropD ks k) (dropK vs k)
  | [], _, h => by rw [show _ = [] from h]; exact rfl
  | (k0, d0) :: ks, _, ⟨v, r, e, h1, h2⟩ => by
    subst e
    have ih := RepK.drop (k := k) h2
    unfold dropD dropK at *
    by_cases q : k0 ≠ k
    · rw [List.filter_cons_of_pos (a := (k0, d0)) (decide_eq_true q), List.filter_cons_of_pos (a := (k0, v)) (decide_eq_true q)]
      exact ⟨v, _, rfl, h1, ih⟩
    · rw [List.filter_cons_of_neg (a := (k0, d0)) (by simpa using q), List.filter_cons_of_neg (a := (k0, v)) (by simpa using q)]
      exact ih
inductive Dc (K : PySem.W.Frag) [HasW K] (g : TG) (tt : TT) (tk tv : TE) (vs : List Nat) (C : Mu → Prop) (ρ : Env') : List D → Mu → List (Key × D) → Mu → List (Key × D) → Prop where
  | nil {μ : Mu} {acc : List (Key × D)} : Dc K g tt tk tv vs C ρ [] μ acc μ acc
  | skip {x : D} {xs : List D} {ρ1 : Env'} {μ μ1 μ' : Mu} {acc out : List (Key × D)} : EvGc K g x vs ρ ρ1 → EvB K tt ρ1 μ false μ1 → C μ1 → Dc K g tt tk tv vs C ρ xs μ1 acc μ' out → Dc K g tt tk tv vs C ρ (x :: xs) μ acc μ' out
  | take {x y : D} {k : Key} {xs : List D} {ρ1 : Env'} {μ μ1 μ2 μ3 μ' : Mu} {acc out : List (Key × D)} : EvGc K g x vs ρ ρ1 → EvB K tt ρ1 μ true μ1 → Ev K tk ρ1 μ1 (.val (keyD k)) μ2 → Ev K tv ρ1 μ2 (.val y) μ3 → C μ3 →
      Dc K g tt tk tv vs C ρ xs μ3 (putD acc k y) μ' out → Dc K g tt tk tv vs C ρ (x :: xs) μ acc μ' out
inductive Lc2 (K : PySem.W.Frag) [HasW K] (g : TG) (tt : TT) (wi1 : TI) (g1 : TG) (tt1 : TT) (te : TE) (vs vs1 : List Nat) (ρ : Env') (μ : Mu) : List D → List D → Prop where
  | nil : Lc2 K g tt wi1 g1 tt1 te vs vs1 ρ μ [] []
  | skip {x : D} {xs ys : List D} {ρ1 : Env'} : EvGc K g x vs ρ ρ1 → EvB K tt ρ1 μ false μ → Lc2 K g tt wi1 g1 tt1 te vs vs1 ρ μ xs ys → Lc2 K g tt wi1 g1 tt1 te vs vs1 ρ μ (x :: xs) ys
  | take {x : D} {xs us zs ys : List D} {ρ1 : Env'} : EvGc K g x vs ρ ρ1 → EvB K tt ρ1 μ true μ → EvI K wi1 ρ1 μ us μ CT → Lc K g1 tt1 te vs1 CT (wipeE ρ1 vs1) us μ zs μ → Lc2 K g tt wi1 g1 tt1 te vs vs1 ρ μ xs ys → Lc2 K g tt wi1 g1 tt1 te vs vs1 ρ μ (x :: xs) (zs ++ ys)
end
end DK
namespace DK
open PySem PySem.Spec PyProof.Rows L2
section
variable {K : PySem.W.Frag} [HasW K] {ρ ρ1 ρ2 : Env'} {μ μ1 μ2 μ3 : Mu} {ta tb te tc : TE} {w : W} {a b d : D} {i : Nat}
theorem new_loc {G H : Hp} {as : List Addr} {P : Addr → Prop} {σ : L2.St} {p : Addr} {o : HO} {m : MO} (R : Rl K G H as P ρ μ σ) (hp : H p = none) (hm : MOk K G (upd H p o) (as ++ [p]) p m) (hb : m.below (μ.length + 1) = true) {Q : VK}
    (q : ∀ v as' G' H', Nx P as G H as' G' H' → Rl K G' H' as' P ρ (μ ++ [m]) σ → RepW K G' as' (.loc μ.length) v → Q v H') : Q (.ref p) (upd H p o) := by
  obtain ⟨R2, n2⟩ := R.mut hp hm hb
  exact q _ _ _ _ n2 R2 ⟨p, by rw [List.getElem?_append_right (by rw [R.len]; exact Nat.le_refl _), R.len]; simp, rfl⟩
theorem ev_lsW {t : TA} {ws : List W} (h : EvA K t ρ μ ws μ1) (hz : ws.length ≤ LB) (hb : ∀ w ∈ ws, w.below μ1.length = true) : Ev K (tLst t) ρ μ (.loc μ1.length) (μ1 ++ [.lsW ws]) := fun P as σ G H R Q q =>
  h P as σ G H R _ fun vs as1 G1 H1 n1 R1 r1 => by
    refine ⟨by rw [r1.length]; exact Nat.le_trans hz (by decide), fun p hp => ?_⟩
    have hp' := R1.sub.free hp
    refine new_loc R1 hp (m := .lsW ws) (o := .lst vs) ⟨hp', hz, vs, upd_same, r1.mono (Same.refl _) ⟨[p], rfl⟩⟩ ?_ fun v as' G' H' n R' r => q v as' G' H' (n1.trans n) R' r
    exact List.all_eq_true.mpr fun x hx => by
      have := hb x hx
      cases x with
      | val d => rfl
      | loc j => exact decide_eq_true (Nat.lt_succ_of_lt (of_decide_eq_true this))
theorem ev_revM {xs : List D} (h : Ev K te ρ μ (.val (.lst xs)) μ1) : Ev K (tRevL K te) ρ μ (.loc μ1.length) (μ1 ++ [.lst xs.reverse]) := fun P as σ G H R Q q =>
  h P as σ G H R _ fun v as1 G1 H1 n1 R1 ⟨z, a, vs, ev, g, hr⟩ => ⟨a, vs, ev, SqL.of (R1.sub _ _ g), fun p hp =>
    new_loc R1 hp (m := .lst xs.reverse) (o := .lst vs.reverse) ⟨R1.sub.free hp, by rw [List.length_reverse]; exact z, _, upd_same, hr.reverse⟩ rfl fun v as' G' H' n R' r => q v as' G' H' (n1.trans n) R' r⟩
inductive SeqL' (μ : Mu) : W → List D → Prop where
  | lst {xs : List D} : SeqL' μ (.val (.lst xs)) xs
  | loc {j : Nat} {xs : List D} : μ[j]? = some (.lst xs) → SeqL' μ (.loc j) xs
  | frz {j : Nat} {xs : List D} : μ[j]? = some (.frz xs) → SeqL' μ (.loc j) xs
theorem SeqL'.here {G H : Hp} {as : List Addr} {P : Addr → Prop} {σ : L2.St} {xs : List D} {v : V} (R : Rl K G H as P ρ μ σ) (h : SeqL' μ w xs) (r : RepW K G as w v) : ∃ a vs, v = .ref a ∧ H a = some (.lst vs) ∧ RepL K G xs vs ∧ xs.length ≤ LB := by
  cases h with
  | lst => obtain ⟨z, a, vs, e, g, q⟩ := r; exact ⟨a, vs, e, R.sub _ _ g, q, z⟩
  | loc hm =>
    obtain ⟨a, ha, e⟩ := r
    obtain ⟨vs, h1, h2, z⟩ := at_loc R ha (.inl hm)
    exact ⟨a, vs, e, h1, h2, z⟩
  | frz hm =>
    obtain ⟨a, ha, e⟩ := r
    obtain ⟨vs, h1, h2, z⟩ := at_loc R ha (.inr hm)
    exact ⟨a, vs, e, h1, h2, z⟩
theorem atI_repW {G : Hp} {as : List Addr} {ds : List W} {vs : List V} {i : Int} {d : W} (r : RepWs K G as ds vs) (h : atI ds i = some d) : ∃ v, atI vs i = some v ∧ RepW K G as d v := by
  unfold atI at h ⊢
  rw [r.length]
  cases e : ixN ds.length i with
  | none => rw [e] at h; cases h
  | some j =>
    rw [e] at h
    exact r.get h
theorem ev_ixW {j : Nat} {ws : List W} {n : Int} (ha : Ev K ta ρ μ (.loc j) μ1) (hb : Ev K tb ρ μ1 (.val (.int n)) μ2) (hm : μ2[j]? = some (.lsW ws)) (h : atI ws n = some w) : Ev K (tOp (rIx K) ta tb) ρ μ w μ2 := fun P as σ G H R Q q =>
  ha P as σ G H R _ fun v as1 G1 H1 n1 R1 ⟨a, ha', ev⟩ => hb P as1 σ G1 H1 R1 _ fun y as2 G2 H2 n2 R2 r2 => by
    obtain ⟨_, _, vs, h1, h2⟩ := R2.mu j a _ (at_pre n2.pre ha') hm
    obtain ⟨u, h3, h4⟩ := atI_repW h2 h
    exact .inl ⟨a, vs, n, u, ev, r2, SqL.of h1, h3, q _ as2 G2 H2 (n1.trans n2) R2 h4⟩
theorem RepWs.set {G : Hp} {as : List Addr} {w : W} {v : V} (rv : RepW K G as w v) : ∀ {ws : List W} {vs : List V} (k : Nat), RepWs K G as ws vs → RepWs K G as (ws.set k w) (vs.set k v)
  | [], _, _, h => by rw [show _ = [] from h]; exact rfl
  | _ :: _, _, 0, ⟨u, r, e, _, h2⟩ => by subst e; exact ⟨v, r, rfl, rv, h2⟩
  | _ :: _, _, k + 1, ⟨u, r, e, h1, h2⟩ => by subst e; exact ⟨u, _, rfl, h1, RepWs.set rv k h2⟩
theorem ex_setW {j k : Nat} {ws : List W} {n : Int} (hv : Ev K te ρ μ w μ1) (ho : Ev K ta ρ μ1 (.loc j) μ2) (hi : Ev K tb ρ μ2 (.val (.int n)) μ3) (hm : μ3[j]? = some (.lsW ws)) (hk : ixN ws.length n = some k) (hw : w.below μ3.length = true) : Ex K (tAsg te (gSub ta tb rSetL)) ρ μ (.nx ρ (μ3.set j (.lsW (ws.set k w)))) := fun P as σ G H R E q =>
  hv P as σ G H R _ fun v as1 G1 H1 n1 R1 r1 => ho P as1 σ G1 H1 R1 _ fun o as2 G2 H2 n2 R2 ⟨a, ha', ev⟩ => hi P as2 σ G2 H2 R2 _ fun x as3 G3 H3 n3 R3 r3 => by
    have ha3 := at_pre n3.pre ha'
    obtain ⟨g, z, vs, hh, rl⟩ := R3.mu j a _ ha3 hm
    refine ⟨a, vs, n, k, ev, r3, hh, by rw [rl.length]; exact hk, ?_⟩
    have rv := r1.mono (n2.trans n3).gr (n2.trans n3).pre
    have hb : ∀ x ∈ ws.set k w, x.below μ3.length = true := fun x hx => by
      rcases List.mem_or_eq_of_mem_set hx with h | h
      · exact List.all_eq_true.mp (R3.wf _ (List.mem_of_getElem? hm)) x h
      · rw [h]; exact hw
    obtain ⟨R4, n4⟩ := R3.put (o := .lst (vs.set k v)) (m' := .lsW (ws.set k w)) ha3 hm g ⟨g, by rw [List.length_set]; exact z, _, upd_same, rl.set rv k⟩ (List.all_eq_true.mpr hb)
    exact q as3 σ G3 _ (((n1.trans n2).trans n3).trans n4) R4
theorem pyOkL_ints : ∀ {ns : List Int}, pyOkL (ns.map D.int) = true
  | [] => rfl
  | _ :: ns => pyOkL_ints (ns := ns)
theorem depth_ints : ∀ {ns : List Int}, (toPy (.lst (ns.map D.int))).depth ≤ 64 := by
  intro ns
  have : ∀ ns : List Int, PyData.depthAll (toPyL (ns.map D.int)) ≤ 2 := by
    intro ns
    induction ns with
    | nil => decide
    | cons n ns ih =>
      show max (PyData.depth (.int n)) (PyData.depthAll (toPyL (ns.map D.int))) ≤ 2
      exact Nat.max_le.mpr ⟨by simp [PyData.depth], ih⟩
  have h := this ns
  show PyData.depthAll (toPyL (ns.map D.int)) + 1 ≤ 64
  omega
end
section
variable {X : Cx}
theorem pe_lstM {l : List Expr} {t : TA} {pos : Pos} (h : PA X l t) : PE X (.List l pos) (tLstM t) := pe_lst h
end
end DK
namespace DK
open PySem PySem.Spec PyProof.Rows L2
section
variable {K : PySem.W.Frag} [HasW K] {ρ ρ1 ρ2 : Env'} {μ μ1 μ2 μ3 : Mu} {ta tb te tc : TE} {w : W} {a b d : D} {i : Nat} {ts us vs : TS} {t : TT} {o : Out}
theorem pyOkL_strs : ∀ {ns : List Str}, pyOkL (ns.map D.str) = true
  | [] => rfl
  | _ :: ns => pyOkL_strs (ns := ns)
theorem depthAll_strs : ∀ (ns : List Str), PyData.depthAll (toPyL (ns.map D.str)) ≤ 2
  | [] => by decide
  | n :: ns => by
    show max (PyData.depth (.str n)) (PyData.depthAll (toPyL (ns.map D.str))) ≤ 2
    exact Nat.max_le.mpr ⟨by simp [PyData.depth], depthAll_strs ns⟩
theorem depth_strs {ns : List Str} : (toPy (.lst (ns.map D.str))).depth ≤ 64 := by
  have h := depthAll_strs ns
  show PyData.depthAll (toPyL (ns.map D.str)) + 1 ≤ 64
  omega
theorem at_map {α : Type} {f : α → D} {l : List α} {n : Int} {x : α} (h : atI l n = some x) : atI (l.map f) n = some (f x) := by
  unfold atI at h ⊢
  rw [List.length_map]
  cases e : ixN l.length n with
  | none => rw [e] at h; cases h
  | some j => rw [e] at h; simp only [Option.bind] at h ⊢; rw [List.getElem?_map, h]; rfl
theorem spl_ne (S : List Nat) : ∀ (k : Nat) (acc l : List Nat), TL.spl S k acc l ≠ []
  | k, acc, [] => by rw [TL.spl_nil]; simp
  | 0, acc, c :: r => by
    cases e : TL.pre S (c :: r) with
    | true => rw [TL.spl_hit e]; simp
    | false => rw [TL.spl_miss e]; exact spl_ne S 0 _ r
  | k + 1, acc, c :: r => spl_ne S k acc r
def wds (s : Str) : List Str := Txt.split s " "
theorem sp_ne : TL.tl (" " : Str) ≠ [] := by decide +kernel
theorem sp_k : (" " : Str).cps.all (· < 256) = true := by decide +kernel
theorem wds_ne (s : Str) : wds s ≠ [] := fun e => by
  have h := TL.split_spl s " " sp_ne (TL.kind_ok sp_k)
  rw [show Txt.split s " " = [] from e] at h
  exact spl_ne _ _ _ _ h.symm
def fst (l : List Str) : Str := l.headD ""
def lst (l : List Str) : Str := l.getLastD ""
theorem atI_nat {α : Type} {l : List α} {k : Nat} {x : α} (h : l[k]? = some x) : atI l (k : Int) = some x := by
  have hl := (List.getElem?_eq_some_iff.mp h).1
  unfold atI
  have e : ixN l.length (k : Int) = some k := by
    unfold ixN
    rw [if_pos (by omega), if_pos (by omega)]
    rfl
  rw [e]
  exact h
theorem at_lst {l : List Str} (h : l ≠ []) : atI l (-1) = some (lst l) := by
  unfold atI
  have hl : 0 < l.length := List.length_pos_iff.mpr h
  have e : ixN l.length (-1) = some (l.length - 1) := by
    unfold ixN
    simp
    omega
  rw [e]
  show l[l.length - 1]? = some (lst l)
  unfold lst
  rw [List.getLastD_eq_getLast?, List.getLast?_eq_getElem?]
  rw [List.getElem?_eq_getElem (by omega)]
  rfl
end
section
variable {K : PySem.W.Frag} [HasW K] {ρ : Env'} {μ : Mu}
end
section
variable {K : PySem.W.Frag} [HasW K] {ρ : Env'} {μ μ0 : Mu} {ta tb te tc : TE} {w : W} {us : TS} {o : Out}
end
section
variable {X : Cx}
theorem pg_n (i : Nat) {x : Str} {pos : Pos} (hN : X.N.Nodup) (hi : X.N[i]? = some x := by rfl) (hx : Loc X.env.scope x := by first | exact .inl rfl | exact .inr rfl) (hf : X.fn x = true ∨ X.env.scope.names.lookup x = some .local := by first | exact .inl rfl | exact .inr rfl) : PG X (.Name x pos) (gName i) := pg_name hN hi hx hf
theorem ps_a (i : Nat) {x : Str} {e : Expr} {te : TE} {pos pos' : Pos} (hN : X.N.Nodup) (he : PE X e te) (hi : X.N[i]? = some x := by rfl) (hx : Loc X.env.scope x := by first | exact .inl rfl | exact .inr rfl) (hs : swapsWith e (some (.Name x pos')) pos.line X.env = pure false := by rfl) (hf : X.fn x = true ∨ X.env.scope.names.lookup x = some .local := by first | exact .inl rfl | exact .inr rfl) :
    PS X (.Assign [.Name x pos'] e pos) (tAsg te (gName i)) := ps_set hN hi hx he hs hf
end
section
variable {K : PySem.W.Frag} [HasW K]
end
end DK
namespace DK
open PySem PySem.Spec PyProof.Rows L2
def wordsC : List Str := ["same", "next", "near", "far", "last", "elder", "house"]
def barredC : List Str := ["and", "do", "if", "mark", "not", "open", "shut", "then"]
def lettersC : Str := "abcdefghijklmnopqrstuvwxyz"
def learningC : List Str := ["next", "near", "far", "house"]
def isNameM (s : Str) : Bool := (decide (1 ≤ (s.length : Int)) && decide ((s.length : Int) ≤ 4)) && ((s.cps.toList.all fun c => decide (c ∈ lettersC.cps.toList)) && !decide (s ∈ barredC))
def tailNot (l : List Str) : List Str := if fst l = "not" then l.drop 1 else l
def isTestM (s : Str) : Bool := let l := tailNot (wds s); decide (l.length = 2) && (decide (fst l = "marked") && isNameM (l.getD 1 ""))
def isDeedM (s : Str) : Bool := let l := wds s; decide (l = (["learn"] : List Str)) || (decide (l.length = 2) && (decide (fst l ∈ (["mark", "clear"] : List Str)) && isNameM (l.getD 1 "")))
def seqD : D → Option (List D)
  | .tup xs => some xs
  | .lst xs => some xs
  | _ => none
class KWords (K : PySem.W.Frag) : Prop where
  words : ∀ H, SqT K H (He.ga K "WORDS") (wordsC.map V.str)
  barred : ∀ H, SqT K H (He.ga K "BARRED") (barredC.map V.str)
  learning : ∀ H, SqT K H (He.ga K "LEARNING") (learningC.map V.str)
section
variable {K : PySem.W.Frag} [HasW K] {ρ : Env'} {μ μ1 : Mu} {te : TE} {t : TA} {d : D}
variable [KWords K]
end
class KRow (K : PySem.W.Frag) : Prop where
  ok : ClsOk K (He.ga K "Row")
  noat : ∀ f : Str, f ∈ (["word", "tests", "deeds", "opens"] : List Str) → NoAttr K (He.ga K "Row") f
  isRow : PySem.W.kitOne K (.ref (He.ga K "Row")) (.ref (He.ga K "Row")) = some true
structure RowM where
  word : Str
  tests : List Str
  deeds : List Str
  opens : Bool
def rowNs : List Str := ["word", "tests", "deeds", "opens"]
def RowM.d (r : RowM) : D := .obj "Row" rowNs [.str r.word, .tup (r.tests.map D.str), .tup (r.deeds.map D.str), .bl r.opens]
def RowM.ok (r : RowM) : Bool := decide (r.word ∈ wordsC) && (r.tests.all isTestM && (r.deeds.all isDeedM && ((decide (r.deeds.length = 0) || (decide (r.word ∈ learningC) && decide (("learn" : Str) ∈ r.deeds))) && (r.opens || !decide (r.word = "house")))))
section
variable {K : PySem.W.Frag} [HasW K] {ρ : Env'} {μ μ1 : Mu} {te : TE} {t : TA} {d : D} [KWords K] [KRow K]
structure RowArgs (word tests deeds opens : D) (r : RowM) : Prop where
  w : word = .str r.word
  t : seqD tests = some (r.tests.map D.str)
  d : seqD deeds = some (r.deeds.map D.str)
  o : opens = .bl r.opens
  ok : r.ok = true
  zt : r.tests.length ≤ LB
  zd : r.deeds.length ≤ LB
def fits1 (marks : List Str) (test : Str) : Bool := decide (decide (lst (wds test) ∈ marks) = decide (fst (wds test) = "not"))
def fitsM (tests marks : List Str) : Bool := !tests.any (fits1 marks)
def addK (ks : List Str) (s : Str) : List Str := if s ∈ ks then ks else ks ++ [s]
def delK (ks : List Str) (s : Str) : List Str := ks.filter fun k => !decide (k = s)
def deedM (ks : List Str) (deed : Str) : List Str := if fst (wds deed) = "mark" then addK ks ((wds deed).getD 1 "") else if fst (wds deed) = "clear" then delK ks ((wds deed).getD 1 "") else ks
def behindM (deeds marks : List Str) : List Str := srt (deeds.foldl deedM (marks.foldl addK []))
theorem addK_len {ks : List Str} {s : Str} : (addK ks s).length ≤ ks.length + 1 := by
  unfold addK
  split
  · omega
  · simp
theorem delK_len {ks : List Str} {s : Str} : (delK ks s).length ≤ ks.length := List.length_filter_le _ _
theorem deedM_len {ks : List Str} {s : Str} : (deedM ks s).length ≤ ks.length + 1 := by
  unfold deedM
  split
  · exact addK_len
  · split
    · exact Nat.le_succ_of_le delK_len
    · omega
theorem addK_mem {ks : List Str} {s x : Str} (h : x ∈ addK ks s) : x ∈ ks ∨ x = s := by
  unfold addK at h
  split at h
  · exact .inl h
  · simpa using h
end
end DK
namespace DK
open PySem PySem.Spec PyProof.Rows L2
class KTool (K : PySem.W.Frag) : Prop where
  ok : ClsOk K (He.ga K "Tool")
  noat : ∀ f : Str, f ∈ (["window", "rows", "marks"] : List Str) → NoAttr K (He.ga K "Tool") f
  isTool : PySem.W.kitOne K (.ref (He.ga K "Tool")) (.ref (He.ga K "Tool")) = some true
section
variable {K : PySem.W.Frag} [HasW K] {ρ : Env'} {μ μ1 μ2 : Mu} {te ta : TE} {t : TA} [KWords K] [KRow K]
def hasSp (s : Str) : Bool := decide (32 ∈ s.cps.toList)
def textsM (rs : List RowM) : List Str := rs.flatMap fun r => (r.tests ++ r.deeds).filter hasSp
def namesM (rs : List RowM) : List Str := srtU ((textsM rs).map fun t => lst (wds t))
structure ToolM where
  window : Int
  rows : List RowM
def toolNs : List Str := ["window", "rows", "marks"]
def ToolM.fs (T : ToolM) : List D := [.int T.window, .tup (T.rows.map RowM.d), .tup ((namesM T.rows).map D.str)]
def ToolM.d (T : ToolM) : D := .obj "Tool" toolNs T.fs
structure ToolM.Ok (T : ToolM) : Prop where
  win : 1 ≤ T.window
  txt : (textsM T.rows).length < 64
  len : T.rows.length ≤ LB
  row : ∀ r ∈ T.rows, r.tests.length + r.deeds.length < 64
  ok : ∀ r ∈ T.rows, r.ok = true
variable [KTool K]
def wordM (window ahead : Int) : Str := if ahead < 0 then (if ahead = -1 then "last" else "elder") else if ahead < 2 then (if ahead = 0 then "same" else "next") else if ahead ≤ window then "near" else "far"
def enumR : Nat → List RowM → List (Nat × RowM)
  | _, [] => []
  | n, x :: xs => (n, x) :: enumR (n + 1) xs
theorem enumR_at : ∀ {n : Nat} {rs : List RowM} {p : Nat × RowM}, p ∈ enumR n rs → n ≤ p.1 ∧ rs[p.1 - n]? = some p.2
  | _, [], _, h => by cases h
  | n, x :: xs, p, h => by
    rcases List.mem_cons.mp h with e | h
    · subst e
      simp
    · obtain ⟨h1, h2⟩ := enumR_at h
      refine ⟨by omega, ?_⟩
      rw [show p.1 - n = (p.1 - (n + 1)) + 1 by omega]
      simpa using h2
def fitP (word : Str) (marks : List Str) (p : Nat × RowM) : Bool := decide (p.2.word = word) && fitsM p.2.tests marks
def rowForM (rs : List RowM) (word : Str) (marks : List Str) : Option (Nat × RowM) := (enumR 0 rs).find? (fitP word marks)
def atD : Option (Nat × RowM) → D
  | some p => .int (p.1 : Nat)
  | none => .non
def answerM (T : ToolM) (number : Int) (marks : List Str) (card : Int) : D := match rowForM T.rows (wordM T.window (card - number)) (srt marks) with
  | none => .tup [.bl false, .int number, .tup ((srt marks).map D.str), .non]
  | some p => .tup [.bl p.2.opens, .int (if ("learn" : Str) ∈ p.2.deeds then card else number), .tup ((behindM p.2.deeds (srt marks)).map D.str), .int (p.1 : Nat)]
end
end DK
namespace DK
open PySem PySem.Spec PyProof.Rows L2
abbrev Dl := List Int × Int
def absI (n : Int) : Int := if n < 0 then -n else n
def cutI {α : Type} (xs : List α) (lo hi : Option Int) : List α := (xs.drop (HT.sIx xs.length 0 lo)).take (HT.sIx xs.length xs.length hi - HT.sIx xs.length 0 lo)
theorem cutD_map {α : Type} {f : α → D} {xs : List α} {lo hi : Option Int} : cutD (xs.map f) lo hi = (cutI xs lo hi).map f := by
  unfold cutD cutI
  rw [List.length_map, ← List.map_drop, ← List.map_take]
theorem cutI_len {α : Type} {xs : List α} {lo hi : Option Int} : (cutI xs lo hi).length ≤ xs.length := by
  unfold cutI
  rw [List.length_take, List.length_drop]
  omega
section
variable {K : PySem.W.Frag} [HasW K] {ρ : Env'} {μ μ1 μ2 : Mu} {te ta : TE} {t : TA}
def t_law_deal (K : PySem.W.Frag) [HasW K] (a b p q : Int) : TS :=
  (tSeq (tAsg (tLc (iSeq K (tSl (rSlc K) (tVar 0) (tPart (tVar 1)) (tPart (tC (.int 60))))) (gName 2) tYes (tCB (rAbs) (tCons (tVar 2) tNil)) [2]) (gName 3))
      (tSeq (tAsg (tOp (rPlus K) (tC (.int a)) (tOp (rTimes K) (tC (.int b)) (tVar 1))) (gName 4))
      (tSeq (tFor (iSeq K (tVar 3)) (gName 2) (tAsg (tOp (rMd) (tCB (rInt1) (tCons (tOp (rPlus K) (tOp (rTimes K) (tVar 4) (tC (.int 16807))) (tOp (rMd) (tCB (rInt1) (tCons (tVar 2) tNil)) (tC (.int p)))) tNil)) (tC (.int q))) (gName 4)))
      (tRet (tLst (tCons (tRevL K (tLc (iSeq K (tVar 3)) (gName 2) (tTest (tOp (rGe') (tVar 2) (tOp (rPw) (tC (.int 10)) (tC (.int 18))))) (tVar 2) [2])) (tCons (tVar 4) tNil)))))))
def dealMO (k : Nat) (d : Dl) : MO := .lsW [.loc k, .val (.int d.2)]
def bigMO (d : Dl) : MO := .lst (d.1.map D.int)
def dropZ (l : List Int) : List Int := (l.reverse.dropWhile (· == 0)).reverse
theorem dropZ_zero {l : List Int} : dropZ (l ++ [0]) = dropZ l := by
  unfold dropZ
  rw [List.reverse_append]
  rfl
theorem dropZ_nz {l : List Int} {x : Int} (h : x ≠ 0) : dropZ (l ++ [x]) = l ++ [x] := by
  unfold dropZ
  rw [List.reverse_append]
  show ((x :: l.reverse).dropWhile (· == 0)).reverse = _
  rw [List.dropWhile_cons_of_neg (by simpa using h)]
  simp
def drawM (many : Int) (d : Dl) : Int × Dl := match (dropZ d.1).getLast? with
  | some rest => (rest % many, ((dropZ d.1).dropLast ++ [rest / many], d.2))
  | none => (((d.2 * 48271 + 11) % 2147483647 / 8) % many, ([], (d.2 * 48271 + 11) % 2147483647))
theorem drawM_lo {many : Int} {d : Dl} (h : 0 < many) : 0 ≤ (drawM many d).1 := by
  unfold drawM
  split
  · exact Int.emod_nonneg _ (by omega)
  · exact Int.emod_nonneg _ (by omega)
theorem drawM_hi {many : Int} {d : Dl} (h : 0 < many) : (drawM many d).1 < many := by
  unfold drawM
  split
  · exact Int.emod_lt_of_pos _ h
  · exact Int.emod_lt_of_pos _ h
theorem dropZ_len {l : List Int} : (dropZ l).length ≤ l.length := by
  unfold dropZ
  rw [List.length_reverse]
  exact Nat.le_trans (List.dropWhile_sublist _).length_le (by simp)
theorem drawM_len {many : Int} {d : Dl} : (drawM many d).2.1.length ≤ d.1.length := by
  have h := dropZ_len (l := d.1)
  unfold drawM
  split
  · rename_i rest e
    have : dropZ d.1 ≠ [] := fun z => by rw [z] at e; cases e
    have := List.length_pos_iff.mpr this
    simp
    omega
  · simp
structure DealAt (μ : Mu) (j k : Nat) (d : Dl) : Prop where
  at_ : μ[j]? = some (dealMO k d)
  b : μ[k]? = some (bigMO d)
  ne : j ≠ k
  len : d.1.length ≤ LB
def putDl (μ : Mu) (j k : Nat) (d : Dl) : Mu := (μ.set k (bigMO d)).set j (dealMO k d)
theorem DealAt.put {j k : Nat} {d : Dl} (h : DealAt μ j k d) (d' : Dl) (hz : d'.1.length ≤ LB) : DealAt (putDl μ j k d') j k d' := by
  have hj := (List.getElem?_eq_some_iff.mp h.at_).1
  have hk := (List.getElem?_eq_some_iff.mp h.b).1
  unfold putDl
  refine ⟨by rw [List.getElem?_set_self (by rw [List.length_set]; exact hj)], ?_, h.ne, hz⟩
  rw [List.getElem?_set_ne h.ne, List.getElem?_set_self hk]
def t_law_draw (K : PySem.W.Frag) [HasW K] : TS :=
  (tSeq (tWhile (tAnd (tTest (tOp (rNee K) (tOp (rIx K) (tVar 0) (tC (.int 0))) (tLst tNil))) (tTest (tOp (rEqq K) (tOp (rIx K) (tOp (rIx K) (tVar 0) (tC (.int 0))) (tUn (rU fun i => .int (-i)) (tC (.int 1)))) (tC (.int 0))))) (tDrop (tBM0 K "list" rPop (tOp (rIx K) (tVar 0) (tC (.int 0))))))
      (tSeq (tIfS (tTest (tOp (rNee K) (tOp (rIx K) (tVar 0) (tC (.int 0))) (tLst tNil))) (tSeq (tAsg (tBM0 K "list" rPop (tOp (rIx K) (tVar 0) (tC (.int 0)))) (gName 2))
      (tSeq (tDrop (tBM K "list" rAppend (tOp (rIx K) (tVar 0) (tC (.int 0))) (tCons (tOp (rFd) (tVar 2) (tVar 1)) tNil)))
      (tRet (tOp (rMd) (tCB (rInt1) (tCons (tVar 2) tNil)) (tVar 1))))) tNext)
      (tSeq (tAsg (tOp (rMd) (tCB (rInt1) (tCons (tOp (rPlus K) (tOp (rTimes K) (tOp (rIx K) (tVar 0) (tC (.int 1))) (tC (.int 48271))) (tC (.int 11))) tNil)) (tC (.int 2147483647))) (gSub (tVar 0) (tC (.int 1)) rSetL))
      (tRet (tOp (rMd) (tCB (rInt1) (tCons (tOp (rFd) (tOp (rIx K) (tVar 0) (tC (.int 1))) (tC (.int 8))) tNil)) (tVar 1))))))
def Phi_draw : Phi := fun ws μ w μ' => ∃ (j k : Nat) (many : Int) (d : Dl), ws = [.loc j, .val (.int many)] ∧ DealAt μ j k d ∧ 0 < many ∧ many < 1073741824 ∧ w = .val (.int (drawM many d).1) ∧ μ' = putDl μ j k (drawM many d).2
abbrev sp_law_draw (K : PySem.W.Frag) [HasW K] : Sp := spD K Phi_draw
theorem at_last {α : Type} {l : List α} {x : α} : atI (l ++ [x]) (-1) = some x := by
  unfold atI
  have e : ixN (l ++ [x]).length (-1) = some l.length := by
    unfold ixN
    simp
    omega
  rw [e]
  simp
theorem DealAt.app {j k : Nat} {d : Dl} (h : DealAt μ j k d) (t : Mu) : DealAt (μ ++ t) j k d := ⟨by rw [List.getElem?_append_left (List.getElem?_eq_some_iff.mp h.at_).1]; exact h.at_, by rw [List.getElem?_append_left (List.getElem?_eq_some_iff.mp h.b).1]; exact h.b, h.ne, h.len⟩
theorem SeqW.app {w : W} {xs : List D} (h : SeqW μ w xs) (t : Mu) : SeqW (μ ++ t) w xs := by
  cases h with
  | lst => exact .lst
  | tup => exact .tup
  | loc h => exact .loc (by rw [List.getElem?_append_left (List.getElem?_eq_some_iff.mp h).1]; exact h)
  | frz h => exact .frz (by rw [List.getElem?_append_left (List.getElem?_eq_some_iff.mp h).1]; exact h)
theorem DealAt.start {a b : Dl} (h : a = b) (hz : b.1.length ≤ LB) : DealAt [bigMO a, dealMO 0 b] 1 0 b := by
  subst h
  exact ⟨rfl, rfl, by decide, hz⟩
def Phi_law : Phi := fun ws μ w μ' => ∃ ns : List Int, ws = [.val (.scr ns)] ∧ ns.length ≤ LB ∧ μ = [] ∧ w = .val (.bl true) ∧ μ' = []
abbrev sp_law (K : PySem.W.Frag) [HasW K] : Sp := spD K Phi_law
end
end DK
namespace DK
open PySem PySem.Spec PyProof.Rows L2 He
def stmtsOf (c : Stmt) : List Stmt := match c with
  | .ClassDef _ _ _ b _ _ _ _ _ _ _ => b
  | _ => []
end DK
namespace DK
open PySem PySem.Spec PyProof.Rows L2
structure FnG (P : Program) (w : World) (K : PySem.W.Frag) (mg : Str → Option Value) (base : Heap) (CX : CXT) (k : Nat) (f : Addr) (fd : FuncData) (ps : List Str) (sp : Sp) : Prop where
  len : ∀ vs H Q E, sp vs H Q E → vs.length = ps.length
  go : ∀ (A : Around) (outer : List Env) (s : Shared) (H : Hp) (args : Args) (us : List Value) (vs : List V) (Q : VK) (E : XK), A.guards = some [] → Room k A → Env0 P w K mg base A outer s H → BindsTo s fd args (ps.zip us) → Vals vs us → sp vs H Q E →
    codeAny (model P w) A (.call (.ref f) args) (CR CX outer P w H s Q E) s
section
variable {CX : CXT} {P : Program} {w : World} {K : PySem.W.Frag} [HasW K] {mg mb : Str → Option Value} {base : Heap} {k : Nat} {f : Addr} {fd : FuncData} {x qual : Str} {params : Arguments} {body : List Stmt} {scope : Scope} {dvs : List V} {kws : List (Str × V)} {N ps : List Str} {sp : Sp}
theorem funG (F : FunD K x qual params body scope dvs kws f fd) (S : FnScope N ps scope) (len : ∀ vs H Q E, sp vs H Q E → vs.length = ps.length)
    (hb : ∀ (cdv : Value) (A : Around) (outer : List Env) (s : Shared) (H : Hp) (vs : List V) (Q : VK) (E : XK), A.guards = some [] → Room k (A.deeper (envOfC qual scope s.heap.objs.size f cdv)) → sp vs H Q E →
      ∃ t, PSs (cxOf CX P w K mg base N qual scope f cdv A outer s H E) body t ∧ t { nx := fun _ H' => Q .non H', rt := Q } (start N vs) H) : FnG P w K mg base CX (k + 1) f fd ps sp := by
  obtain ⟨oc, od, dV, kV, doc, pm, an, cdv, ct, osl, rfl, at_, cd, -, -⟩ := F.ex
  refine ⟨len, ?_⟩
  intro A outer s H args us vs Q E gA room env bind vals want
  have old : ∀ b o, base.get? b = some o → s.heap.get? b = some o := fun b o e => (env.bs b o e).1
  have kin : K.In s.heap := env.mod.kin.keeps old
  have kinds : ∀ y ∈ ps.zip us, scope.names.lookup y.1 = some .local ∨ (scope.names.lookup y.1 = some .cell ∧ ((cellsFrom (s.heap.objs.size + 1) scope.names []).lookup y.1).isSome = true) := fun y hy =>
    (S.par y.1 (List.of_mem_zip (show (y.1, y.2) ∈ _ from hy)).1).elim .inl fun q => .inr ⟨q, PySem.W.cellsFrom_some _ _ _ (.inl q)⟩
  apply codeAny_call_function room.depth (kin _ _ at_) rfl S.co S.gen rfl (PySem.W.codeRec_of kin cd) (bind _ _ _ _ ?_)
  apply wpAny_newFunctionEnv_cells S.kind kinds
  rintro env1 rfl s1 fresh
  refine ⟨(env.mod.nolimit.keeps old).keeps fresh.toInCall.keep, codeAny_func ?_⟩
  obtain ⟨t, rd, post⟩ := hb cdv A outer s H vs Q E gA (room.deeper _) want
  have I0 : Inv (cxOf CX P w K mg base N qual scope f cdv A outer s H E) [] (start N vs) H s1 := inv_start S room.hd env (len _ _ _ _ want) vals fresh
  refine wpAny_mono (rd.run [] s1 (start N vs) H _ I0 post) (fun flow s' out => ?_) fun _ _ out => out
  match flow, out with
  | .ret _, ⟨v, _, H', J, rv, q⟩ => exact ⟨v, H', J.os, J.bare, J.base, J.hok, rv, q⟩
  | .next, ⟨_, H', J, q⟩ => exact ⟨.non, H', J.os, J.bare, J.base, J.hok, rfl, q⟩
  | .brk, ⟨_, _, _, q⟩ => exact q.elim
  | .cont, ⟨_, _, _, q⟩ => exact q.elim
theorem law_at {H : Hp} {a : Addr} {s₁ : Shared} {vs : List Value} {xn : Str} (inK : K.In s₁.heap) (gl : s₁.heap.Ns mainGlobals mg) (bt : s₁.heap.Ns builtinsNs mb) (boot : ∀ y : Str, y ≠ "__name__" → mb y = bootBuiltins y) (lim : s₁.heap.NoLimit) (gens : s₁.gens = #[])
    (scr : s₁.heap.get? a = some { cls := .type "list", data := .seq vs.toArray }) (room : Room k callerA) (F : ∀ base : Heap, K.In base → base.Ns mainGlobals mg → FnG P w K mg base CX k f fd [xn] sp) (bind : ∀ (s : Shared) (u : Value), BindsTo s fd ⟨[u], []⟩ [(xn, u)])
    (out : ∀ H e s', CX [] H s₁ (fun _ _ _ => False) e s' → False) (only : Only H) (lone : ∀ b, H b ≠ none → b = a) (notK : H a ≠ none → K.lookup a = none) (ok : HOk P w H s₁.heap) (want : sp [.ref a] H (fun v _ => v = .bl true) fun _ _ _ => False) :
    codeAny (model P w) callerA (.call (.ref f) ⟨[.ref a], []⟩) (fun r s' => r = .ok (.ret (.bool true)) ∧ OldK s₁.heap s'.heap ∧ s'.os = s₁.os ∧ AllBare s'.gens) s₁ := by
  -- a dict of the heap is not tracked
  have free : ∀ {b : Addr} {o : Obj} {es : Array DictEntry} {n : Nat}, s₁.heap.get? b = some o → o.data = .dict es n → H b = none := by
    intro b o es n e d
    by_cases q : H b = none
    · exact q
    · have z := lone b q
      rw [z, scr] at e
      injection e with e
      rw [← e] at d
      cases d
  have ns : ∀ {b : Addr} {m : Str → Option Value}, s₁.heap.Ns b m → (hidT s₁.heap H).Ns b m := fun ⟨o, es, n, e, d, r⟩ => ⟨o, es, n, hidT_get e (free e d), d, r⟩
  have inB : K.In (hidT s₁.heap H) := fun b o e => hidT_get (inK b o e) (by
    by_cases q : H b = none
    · exact q
    · have z := lone b q
      subst z
      rw [notK q] at e
      cases e)
  have M : Mod K mg (hidT s₁.heap H) := ⟨inB, ns gl, ⟨mb, ns bt, boot⟩, by obtain ⟨mc, h1, h2⟩ := lim; exact ⟨mc, ns h1, h2⟩⟩
  have E0 : Env0 P w K mg (hidT s₁.heap H) callerA [] s₁ H := ⟨rfl, M, fun _ _ e => of_hidT e, Nat.le_of_eq (hidT_size _ _), trivial, fun b hb => by simp [frs] at hb, ok, .of_eq gens⟩
  refine codeAny_mono ((F _ inB (ns gl)).go callerA [] s₁ H ⟨[.ref a], []⟩ [.ref a] [.ref a] _ _ rfl room E0 (bind s₁ (.ref a)) (.cons rfl .nil) want) ?_
  intro r s' end_
  match r, end_ with
  | .error e, z => exact (out H e s' z).elim
  | .ok .next, z => exact False.elim z
  | .ok .brk, z => exact False.elim z
  | .ok .cont, z => exact False.elim z
  | .ok (.ret u), ⟨v, H', os, bare, un, ok', rv, q⟩ =>
    have q' : v = .bl true := q
    subst q'
    have eu : u = Value.bool true := rv
    subst eu
    refine ⟨rfl, OldK.of_keep fun b o e => ?_, os, bare⟩
    rcases only b with z | ⟨ob, ys, z⟩
    · exact un.keep b o e z (by simp [frs]) (by simp)
    · obtain ⟨e1, _⟩ := ok b _ z
      obtain ⟨e2, _⟩ := ok' b _ (un.frzs b ob _ z)
      rw [← e1.symm.trans e |> Option.some.inj]
      exact e2
theorem law_G {a : Addr} {s₁ : Shared} {vs : List Value} {ns : List Int} {xn : Str} (inK : K.In s₁.heap) (gl : s₁.heap.Ns mainGlobals mg) (bt : s₁.heap.Ns builtinsNs mb) (boot : ∀ y : Str, y ≠ "__name__" → mb y = bootBuiltins y) (lim : s₁.heap.NoLimit) (gens : s₁.gens = #[])
    (scr : s₁.heap.get? a = some { cls := .type "list", data := .seq vs.toArray }) (isI : IntsAre vs ns) (short : ns.length ≤ sizeLine) (room : Room k callerA) (F : ∀ base : Heap, K.In base → base.Ns mainGlobals mg → FnG P w K mg base CX k f fd [xn] sp) (bind : ∀ (s : Shared) (u : Value), BindsTo s fd ⟨[u], []⟩ [(xn, u)])
    (want : ∀ H : Hp, Only H → SqL K H a (ns.map V.int) → sp [.ref a] H (fun v _ => v = .bl true) fun _ _ _ => False) (out : ∀ H e s', CX [] H s₁ (fun _ _ _ => False) e s' → False) :
    codeAny (model P w) callerA (.call (.ref f) ⟨[.ref a], []⟩) (fun r s' => r = .ok (.ret (.bool true)) ∧ OldK s₁.heap s'.heap ∧ s'.os = s₁.os ∧ AllBare s'.gens) s₁ := by
  have vals := vals_ints isI
  have sz := isI.length
  by_cases hk : K.lookup a = none
  · let so : HO := .frz { cls := .type "list", data := .seq vs.toArray } (.lst (ns.map V.int))
    let H : Hp := fun b => if b = a then some so else none
    have at_ : H a = some so := if_pos rfl
    have off : ∀ b, b ≠ a → H b = none := fun b z => if_neg z
    have only : Only H := fun b => (Classical.em (b = a)).elim (fun z => .inr ⟨_, _, z ▸ at_⟩) fun z => .inl (off b z)
    refine law_at (H := H) inK gl bt boot lim gens scr room F bind out only (fun b z => Classical.byContradiction fun q => z (off b q)) (fun _ => hk) ?_ (want H only (.inl (.inr ⟨_, at_⟩)))
    intro b u e
    by_cases z : b = a
    · subst z
      rw [at_] at e
      cases e
      exact ⟨scr, by rw [List.length_map]; exact short, vs, _, vals, scr⟩
    · rw [off b z] at e
      cases e
  · obtain ⟨o, lk⟩ := Option.ne_none_iff_exists'.mp hk
    have eo := (inK a o lk).symm.trans scr
    cases eo
    have only : Only (fun _ => none) := fun _ => .inl rfl
    exact law_at (H := fun _ => none) inK gl bt boot lim gens scr room F bind out only (fun _ z => absurd rfl z) (fun z => absurd rfl z) (fun b u e => by cases e) (want _ only (.inr ⟨_, vs.toArray, _, lk, rfl, rfl, rfl, by rw [List.size_toArray, sz]; exact short, by simpa using vals⟩))
theorem walk_G {l : PySem.W.OpenLaw} {n : Nat} {q : Program} {loose : List Str} {XP : (Str → Option Value) → Heap → Prop} {YP : World → Heap → Prop} {d : DefRec} {xn : Str}
    (most : l.most = some n) (small : n ≤ sizeLine) (nodef : d.params.defaults = []) (room : Room k callerA)
    (F : ∀ (w : World) (mg : Str → Option Value) (fa : Addr) (h : Heap), YP w h → h.Ns mainGlobals mg → mg d.name = some (.ref fa) → ∃ (K : PySem.W.Frag) (fd : FuncData) (sp : Sp), K.In h ∧ (∀ (s : Shared) (u : Value), BindsTo s fd ⟨[u], []⟩ [(xn, u)]) ∧
        (∀ (H : Hp) (a : Addr) (ns : List Int), ns.length ≤ n → SqL K H a (ns.map V.int) → sp [.ref a] H (fun v _ => v = .bl true) fun _ _ _ => False) ∧ ∀ base : Heap, K.In base → base.Ns mainGlobals mg → FnG l.prog w K mg base CX k fa fd [xn] sp)
    (out : ∀ (H : Hp) (s : Shared) (e : Value) (s' : Shared), CX [] H s (fun _ _ _ => False) e s' → False) : PySem.W.WalkO q loose XP YP l.row.toRowW d [] (fun f vs => PySem.call f vs) :=
  Att.attach_call most nodef fun w s₀ s₁ mg mb fa o pm cd doc a vs ns G Y ho hd hcd hmg scr isI hlen gens => by
    obtain ⟨K, fd, sp, inK, bind, want, FF⟩ := F w mg fa _ Y G.T.g hmg
    exact law_G inK G.T.g G.T.b G.T.builtins G.T.nolimit gens scr isI (Nat.le_trans hlen small) room FF bind (fun H _ hS => want H a ns hlen hS) fun H e s' => out H s₁ e s'
end
section
variable {X : Cx}
def rRepr (K : PySem.W.Frag) : List V → Hp → VK → Prop := fun xs H Q => ∃ (x : V) (d : PyData), xs = [x] ∧ Dp K H x d ∧ d.showable = true ∧ d.hasDict = false ∧ d.depth ≤ 60 ∧ d.shown.length ≤ SB ∧ Q (.str d.shown) H
theorem call_reprD (g : X.A.guards = some []) (u : X.A.units + 64 < cLine) : CallR X (.builtin "repr") (rRepr X.K) := by
  intro pins s σ H xs us Q I r h
  obtain ⟨x, d, rfl, hd, h1, h2, h3, h4, q⟩ := h
  obtain ⟨v, rfl, rv⟩ := vals1 r
  have hz : d.shown.length ≤ sizeLine := Nat.le_trans h4 (by decide)
  cases hd with
  | non => cases rv; exact PySem.P.repr_of_none ⟨.str _, H, I.tok _, ⟨_, rfl⟩, q⟩
  | bl b =>
    cases rv
    exact PySem.P.repr_of_bool ⟨.str _, H, I.tok _, ⟨_, rfl⟩, by cases b <;> exact q⟩
  | int i =>
    obtain ⟨t, rfl⟩ := rv
    exact PySem.P.repr_of_int (of_decide_eq_true h1) ⟨.str _, H, I.tok _, ⟨_, rfl⟩, q⟩
  | str z =>
    obtain ⟨t, rfl⟩ := rv
    exact PySem.P.repr_of_str ⟨.str _, H, I.tok _, ⟨_, rfl⟩, q⟩ hz
  | lst hs ha =>
    cases rv
    obtain ⟨as, rd⟩ := Dp.reads I _ _ _ (.lst hs ha) rfl
    exact repr_of_reads' rd h1 (fun e => by rw [h2] at e; cases e) g (by omega) (fun _ _ e => e) (fun h' t tk k => ⟨.str _, H, I.kept k, ⟨_, rfl⟩, q⟩) hz
  | tup hs ha =>
    cases rv
    obtain ⟨as, rd⟩ := Dp.reads I _ _ _ (.tup hs ha) rfl
    exact repr_of_reads' rd h1 (fun e => by rw [h2] at e; cases e) g (by omega) (fun _ _ e => e) (fun h' t tk k => ⟨.str _, H, I.kept k, ⟨_, rfl⟩, q⟩) hz
end
section
variable {K : PySem.W.Frag} [HasW K] {ρ : Env'} {μ μ1 μ2 : Mu}
mutual
theorem noDict : ∀ d : D, (toPy d).hasDict = false
  | .non => rfl
  | .bl _ => rfl
  | .int _ => rfl
  | .str _ => rfl
  | .tup xs => noDictL xs
  | .lst xs => noDictL xs
  | .obj _ _ _ => rfl
  | .ty _ => rfl
  | .cls _ => rfl
  | .scr _ => rfl
theorem noDictL : ∀ l : List D, PyData.hasDictAll (toPyL l) = false
  | [] => rfl
  | x :: xs => by
    show (PyData.hasDict (toPy x) || PyData.hasDictAll (toPyL xs)) = false
    rw [noDict x, noDictL xs]
    rfl
end
theorem textFrom_le : ∀ (ts : List Str) (k : Nat) (acc : Str), (textFrom k acc ts).length ≤ acc.length + piled ts
  | [], _, acc => Nat.le_refl _
  | t :: ts, k, acc => by
    have h := textFrom_le ts (k + 1) (acc ++ (if k > 0 then ", " else "" : String) ++ t)
    have e : (((if k > 0 then ", " else "" : String) : Str)).length ≤ 2 := by split <;> decide
    show (textFrom (k + 1) _ ts).length ≤ _
    rw [piled_cons]
    rw [len_append, len_append] at h
    omega
theorem listText_le (ts : List Str) : (listText ts).length ≤ piled ts + 2 := by
  have h := textFrom_le ts 0 "["
  have e1 : (("[" : String) : Str).length = 1 := rfl
  have e2 : (("]" : String) : Str).length = 1 := rfl
  unfold listText
  rw [len_append, e2]
  omega
theorem tupleText_le (ts : List Str) : (tupleText ts).length ≤ piled ts + 3 := by
  have e1 : (("(" : String) : Str).length = 1 := rfl
  have e2 : (((if ts.length == 1 then ",)" else ")" : String) : Str)).length ≤ 2 := by split <;> decide
  have e3 : (Str.join ", " ts).length ≤ piled ts := by
    by_cases h : ts = []
    · subst h; exact Nat.zero_le _
    · have := join_length_add ts h
      omega
  unfold tupleText
  rw [len_append, len_append, e1]
  omega
mutual
/-- a bound of the text that shows d -/
def showCost : D → Nat
  | .str s => 10 * s.length + 4
  | .int i => if Nat.blt i.natAbs 1000000 = true then 8 else if Nat.blt i.natAbs 1000000000000000000000000 = true then 30 else 2000
  | .tup xs => showCostL xs + 3
  | .lst xs => showCostL xs + 3
  | _ => 5
def showCostL : List D → Nat
  | [] => 0
  | x :: xs => showCost x + 2 + showCostL xs
end
mutual
def strsIn : D → Bool
  | .str s => s.cps.all (· < 0x110000)
  | .tup xs => strsInL xs
  | .lst xs => strsInL xs
  | _ => true
def strsInL : List D → Bool
  | [] => true
  | x :: xs => strsIn x && strsInL xs
end
mutual
theorem shown_le : ∀ d : D, strsIn d = true → (toPy d).showable = true → (toPy d).shown.length ≤ showCost d
  | .non, _, _ => by show (4 : Nat) ≤ 5; decide
  | .bl b, _, _ => by cases b <;> (show (_ : Nat) ≤ 5; decide)
  | .int i, _, h => by
    have h1 := int_text_length_le (k := 1920) (by decide) (of_decide_eq_true h)
    show (Str.ofString (toString i)).length ≤ if Nat.blt i.natAbs 1000000 = true then 8 else if Nat.blt i.natAbs 1000000000000000000000000 = true then 30 else 2000
    rw [PySem.ofString_length]
    split
    · rename_i q
      have h2 := int_text_length_le10 (a := i) (k := 6) (by decide) (by
        have : i.natAbs ≤ 999999 := by simpa [Nat.blt] using q
        omega)
      omega
    · split
      · rename_i q
        have h2 := int_text_length_le10 (a := i) (k := 24) (by decide) (by
          have : i.natAbs ≤ 999999999999999999999999 := by simpa [Nat.blt] using q
          omega)
        omega
      · omega
  | .str s, h, _ => by
    have := StrLaws.reprText_len s fun c hc => by
      have := Array.all_eq_true_iff_forall_mem.mp (show s.cps.all (· < 0x110000) = true from h) c (by simpa using hc)
      have : c < 0x110000 := by simpa using this
      omega
    show (reprText s).length ≤ 10 * s.length + 4
    omega
  | .tup xs, h, k => Nat.le_trans (tupleText_le _) (Nat.add_le_add_right (shown_leL xs h k) 3)
  | .lst xs, h, k => Nat.le_trans (listText_le _) (Nat.le_trans (Nat.add_le_add_right (shown_leL xs h k) 2) (Nat.le_succ _))
  | .obj _ _ _, _, _ => by show (4 : Nat) ≤ 5; decide
  | .ty _, _, _ => by show (4 : Nat) ≤ 5; decide
  | .cls _, _, _ => by show (4 : Nat) ≤ 5; decide
  | .scr _, _, _ => by show (4 : Nat) ≤ 5; decide
theorem shown_leL : ∀ l : List D, strsInL l = true → PyData.showableAll (toPyL l) = true → piled (PyData.shownAll (toPyL l)) ≤ showCostL l
  | [], _, _ => Nat.le_refl _
  | x :: xs, h, k => by
    obtain ⟨h1, h2⟩ := Bool.and_eq_true_iff.mp (show (strsIn x && strsInL xs) = true from h)
    obtain ⟨k1, k2⟩ := Bool.and_eq_true_iff.mp (show ((toPy x).showable && PyData.showableAll (toPyL xs)) = true from k)
    have a := shown_le x h1 k1
    have b := shown_leL xs h2 k2
    show piled ((toPy x).shown :: PyData.shownAll (toPyL xs)) ≤ showCost x + 2 + showCostL xs
    rw [piled_cons]
    omega
end
structure Shows (d : D) : Prop where
  py : pyOk d = true
  sh : (toPy d).showable = true
  dp : (toPy d).depth ≤ 60
  st : strsIn d = true
  sz : showCost d ≤ SB
end
end DK
namespace DX
open PySem PySem.Spec PyProof.Rows L2 DK
abbrev RE := Env' → Mu → Option (W × Mu)
abbrev RB := Env' → Mu → Option (Bool × Mu)
abbrev RA := Env' → Mu → Option (List W × Mu)
abbrev RS := Env' → Mu → Option Out
abbrev RO := Env' → Mu → Option (Option Int × Mu)
abbrev RG := W → Env' → Option Env'
abbrev RI := Env' → Mu → Option (List D × Option (Nat × List D) × Mu)
section
variable (K : PySem.W.Frag) [HasW K]
def SnE (te : TE) (m : RE) : Prop := ∀ ρ μ w μ', m ρ μ = some (w, μ') → Ev K te ρ μ w μ'
def SnB (tt : TT) (m : RB) : Prop := ∀ ρ μ b μ', m ρ μ = some (b, μ') → EvB K tt ρ μ b μ'
def SnA (ta : TA) (m : RA) : Prop := ∀ ρ μ ws μ', m ρ μ = some (ws, μ') → EvA K ta ρ μ ws μ'
def SnS (ts : TS) (m : RS) : Prop := ∀ ρ μ o, m ρ μ = some o → Ex K ts ρ μ o
def EvO' (to : TO) (ρ : Env') (μ : Mu) (o : Option Int) (μ' : Mu) : Prop := ∀ (P : Addr → Prop) (as : List Addr) (σ : L2.St) (G H : Hp), Rl K G H as P ρ μ σ → ∀ Q : Option Int → Hp → Prop,
  (∀ as' G' H', Nx P as G H as' G' H' → Rl K G' H' as' P ρ μ' σ → Q o H') → to σ H Q
def SnO (to : TO) (m : RO) : Prop := ∀ ρ μ o μ', m ρ μ = some (o, μ') → EvO' K to ρ μ o μ'
def SnG (g : TG) (m : RG) : Prop := ∀ w ρ ρ', m w ρ = some ρ' → EvG K g w ρ ρ'
end
section
variable {K : PySem.W.Frag} [HasW K]
def mVar (i : Nat) : RE := fun ρ μ => match ρ[i]? with
  | some (some w) => some (w, μ)
  | _ => none
theorem sn_var {i : Nat} : SnE K (tVar i) (mVar i) := fun ρ μ w μ' h => by
  unfold mVar at h
  split at h
  · cases h; exact ev_var ‹_›
  · cases h
def mC (d : D) : RE := fun _ μ => some (.val d, μ)
theorem sn_int {n : Int} : SnE K (tC (.int n)) (mC (.int n)) := fun ρ μ w μ' h => by cases h; exact ev_int
theorem sn_bl {n : Bool} : SnE K (tC (.bl n)) (mC (.bl n)) := fun ρ μ w μ' h => by cases h; exact ev_bl
theorem sn_non : SnE K (tC .non) (mC .non) := fun ρ μ w μ' h => by cases h; exact ev_non
theorem sn_str {s : Str} (hs : sOk s := by exact ⟨by decide +kernel, by decide +kernel⟩) : SnE K (tC (.str s)) (mC (.str s)) := fun ρ μ w μ' h => by cases h; exact ev_str hs
def view (μ : Mu) : W → Option D
  | .val d => some d
  | .loc j => match μ[j]? with
    | some (.lst xs) => some (.lst xs)
    | some (.frz xs) => some (.lst xs)
    | _ => none
section
variable (K) (G H : Hp)
def RepT : D → V → Prop
  | .lst xs, v => xs.length ≤ LB ∧ ∃ a vs, v = .ref a ∧ H a = some (.lst vs) ∧ RepL K G xs vs
  | d, v => Rep K G d v
end
theorem repT_of {G H : Hp} (s : Same G H) {d : D} {v : V} (r : Rep K G d v) : RepT K G H d v := by
  cases d <;> try exact r
  obtain ⟨z, a, vs, e, g, r⟩ := r
  exact ⟨z, a, vs, e, s _ _ g, r⟩
theorem view_rep {G H : Hp} {as : List Addr} {P : Addr → Prop} {ρ : Env'} {μ : Mu} {σ : L2.St} {w : W} {v : V} {d : D} (R : Rl K G H as P ρ μ σ) (r : RepW K G as w v) (h : view μ w = some d) : RepT K G H d v := by
  cases w with
  | val e => cases h; exact repT_of R.sub r
  | loc j =>
    obtain ⟨a, ha, ev⟩ := r
    unfold view at h
    dsimp only at h
    split at h
    · cases h
      obtain ⟨_, z, vs, e, q⟩ := R.mu j a _ ha ‹_›
      exact ⟨z, a, vs, ev, e, q⟩
    · cases h
      obtain ⟨z, vs, e, q⟩ := R.mu j a _ ha ‹_›
      exact ⟨z, a, vs, ev, R.sub _ _ e, q⟩
    · cases h
def OpV (K : PySem.W.Frag) [HasW K] (r : R2) (f : D → D → Option D) : Prop := ∀ a b d, f a b = some d → ∀ (P : Addr → Prop) (as : List Addr) (ρ : Env') (μ : Mu) (σ : L2.St) (G H : Hp) (x y : V), Rl K G H as P ρ μ σ → RepT K G H a x → RepT K G H b y → ∀ Q : VK,
  (∀ v G' H', Nx P as G H as G' H' → Rl K G' H' as P ρ μ σ → Rep K G' d v → Q v H') → r x y H Q
def mOp (f : D → D → Option D) (a b : RE) : RE := fun ρ μ => match a ρ μ with
  | some (x, μ1) => match b ρ μ1 with
    | some (y, μ2) => match view μ2 x, view μ2 y with
      | some d, some e => match f d e with
        | some r => some (.val r, μ2)
        | none => none
      | _, _ => none
    | none => none
  | none => none
theorem sn_op {r : R2} {f : D → D → Option D} {ta tb : TE} {a b : RE} (hr : OpV K r f) (ha : SnE K ta a) (hb : SnE K tb b) : SnE K (tOp r ta tb) (mOp f a b) := fun ρ μ w μ' h => by
  unfold mOp at h
  split at h
  · rename_i x μ1 e1
    split at h
    · rename_i y μ2 e2
      split at h
      · rename_i d e v1 v2
        split at h
        · rename_i z e3
          cases h
          exact fun P as σ G H R Q q => ha _ _ _ _ e1 P as σ G H R _ fun x' as1 G1 H1 n1 R1 r1 => hb _ _ _ _ e2 P as1 σ G1 H1 R1 _ fun y' as2 G2 H2 n2 R2 r2 =>
            hr d e z e3 P as2 ρ _ σ G2 H2 x' y' R2 (view_rep R2 (r1.mono n2.gr n2.pre) v1) (view_rep R2 r2 v2) Q fun v G3 H3 n3 R3 r3 => q v as2 G3 H3 ((n1.trans n2).trans n3) R3 r3
        · cases h
      · cases h
    · cases h
  · cases h
def OpU (K : PySem.W.Frag) [HasW K] (r : V → Hp → VK → Prop) (f : D → Option D) : Prop := ∀ a d, f a = some d → ∀ (P : Addr → Prop) (as : List Addr) (ρ : Env') (μ : Mu) (σ : L2.St) (G H : Hp) (x : V), Rl K G H as P ρ μ σ → RepT K G H a x → ∀ Q : VK,
  (∀ v G' H', Nx P as G H as G' H' → Rl K G' H' as P ρ μ σ → Rep K G' d v → Q v H') → r x H Q
def mUn (f : D → Option D) (a : RE) : RE := fun ρ μ => match a ρ μ with
  | some (x, μ1) => match view μ1 x with
    | some d => match f d with
      | some r => some (.val r, μ1)
      | none => none
    | none => none
  | none => none
theorem sn_un {r : V → Hp → VK → Prop} {f : D → Option D} {ta : TE} {a : RE} (hr : OpU K r f) (ha : SnE K ta a) : SnE K (tUn r ta) (mUn f a) := fun ρ μ w μ' h => by
  unfold mUn at h
  split at h
  · rename_i x μ1 e1
    split at h
    · rename_i d v1
      split at h
      · rename_i z e3
        cases h
        exact fun P as σ G H R Q q => ha _ _ _ _ e1 P as σ G H R _ fun x' as1 G1 H1 n1 R1 r1 => hr d z e3 P as1 ρ _ σ G1 H1 x' R1 (view_rep R1 r1 v1) Q fun v G3 H3 n3 R3 r3 => q v as1 G3 H3 (n1.trans n3) R3 r3
      · cases h
    · cases h
  · cases h
theorem sn_cb1 {r : List V → Hp → VK → Prop} {f : D → Option D} {ta : TE} {a : RE} (hr : OpU K (fun x H Q => r [x] H Q) f) (ha : SnE K ta a) : SnE K (tCB r (tCons ta tNil)) (mUn f a) := fun ρ μ w μ' h => sn_un hr ha ρ μ w μ' h
def isBl : W → Option Bool
  | .val (.bl b) => some b
  | _ => none
theorem isBl_eq {w : W} {b : Bool} (h : isBl w = some b) : w = .val (.bl b) := by
  unfold isBl at h
  split at h
  · cases h; rfl
  · cases h
def mTest (a : RE) : RB := fun ρ μ => match a ρ μ with
  | some (w, μ1) => match isBl w with
    | some b => some (b, μ1)
    | none => none
  | none => none
theorem mTest_ev {ta : TE} {a : RE} (ha : SnE K ta a) {ρ : Env'} {μ μ' : Mu} {b : Bool} (h : mTest a ρ μ = some (b, μ')) : Ev K ta ρ μ (.val (.bl b)) μ' := by
  unfold mTest at h
  split at h
  · rename_i w μ1 e1
    split at h
    · rename_i c e2
      cases h
      have := ha _ _ _ _ e1
      rwa [isBl_eq e2] at this
    · cases h
  · cases h
theorem sn_test {ta : TE} {a : RE} (ha : SnE K ta a) : SnB K (tTest ta) (mTest a) := fun ρ μ b μ' h => eb_test (mTest_ev ha h)
theorem sn_B {ta : TE} {a : RE} (ha : SnE K ta a) : SnB K (tB ta) (mTest a) := fun ρ μ b μ' h => eb_B (mTest_ev ha h)
def mNot (a : RB) : RB := fun ρ μ => match a ρ μ with
  | some (b, μ1) => some (!b, μ1)
  | none => none
theorem sn_not {t : TT} {a : RB} (ha : SnB K t a) : SnB K (tNot t) (mNot a) := fun ρ μ b μ' h => by
  unfold mNot at h
  split at h
  · rename_i c μ1 e
    cases h
    exact eb_not (ha _ _ _ _ e)
  · cases h
def mAnd (a b : RB) : RB := fun ρ μ => match a ρ μ with
  | some (true, μ1) => b ρ μ1
  | some (false, μ1) => some (false, μ1)
  | none => none
theorem sn_and {t u : TT} {a b : RB} (ha : SnB K t a) (hb : SnB K u b) : SnB K (tAnd t u) (mAnd a b) := fun ρ μ k μ' h => by
  unfold mAnd at h
  split at h
  · rename_i μ1 e
    exact fun P as σ G H R Q q => ha _ _ _ _ e P as σ G H R _ fun as1 G1 H1 n1 R1 => iteT (hb _ _ _ _ h P as1 σ G1 H1 R1 _ fun as2 G2 H2 n2 R2 => q as2 G2 H2 (n1.trans n2) R2)
  · rename_i μ1 e
    cases h
    exact fun P as σ G H R Q q => ha _ _ _ _ e P as σ G H R _ fun as1 G1 H1 n1 R1 => iteF (q as1 G1 H1 n1 R1)
  · cases h
def mOr (a b : RB) : RB := fun ρ μ => match a ρ μ with
  | some (true, μ1) => some (true, μ1)
  | some (false, μ1) => b ρ μ1
  | none => none
theorem sn_or {t u : TT} {a b : RB} (ha : SnB K t a) (hb : SnB K u b) : SnB K (tOr t u) (mOr a b) := fun ρ μ k μ' h => by
  unfold mOr at h
  split at h
  · rename_i μ1 e
    cases h
    exact fun P as σ G H R Q q => ha _ _ _ _ e P as σ G H R _ fun as1 G1 H1 n1 R1 => iteT (q as1 G1 H1 n1 R1)
  · rename_i μ1 e
    exact fun P as σ G H R Q q => ha _ _ _ _ e P as σ G H R _ fun as1 G1 H1 n1 R1 => iteF (hb _ _ _ _ h P as1 σ G1 H1 R1 _ fun as2 G2 H2 n2 R2 => q as2 G2 H2 (n1.trans n2) R2)
  · cases h
def mYes : RB := fun _ μ => some (true, μ)
theorem sn_yes : SnB K tYes mYes := fun ρ μ b μ' h => by cases h; exact eb_yes
def mAndV (a b : RE) : RE := fun ρ μ => match mTest a ρ μ with
  | some (true, μ1) => b ρ μ1
  | some (false, μ1) => some (.val (.bl false), μ1)
  | none => none
theorem sn_andV {ta tb : TE} {a b : RE} (ha : SnE K ta a) (hb : SnE K tb b) : SnE K (tAndV ta tb) (mAndV a b) := fun ρ μ w μ' h => by
  unfold mAndV at h
  split at h
  · rename_i μ1 e
    exact fun P as σ G H R Q q => mTest_ev ha e P as σ G H R _ fun v as1 G1 H1 n1 R1 r1 => ⟨true, r1, iteT (hb _ _ _ _ h P as1 σ G1 H1 R1 _ fun v as2 G2 H2 n2 R2 r2 => q v as2 G2 H2 (n1.trans n2) R2 r2)⟩
  · rename_i μ1 e
    cases h
    exact fun P as σ G H R Q q => mTest_ev ha e P as σ G H R _ fun v as1 G1 H1 n1 R1 r1 => ⟨false, r1, iteF (q _ as1 G1 H1 n1 R1 rfl)⟩
  · cases h
def mOrV (a b : RE) : RE := fun ρ μ => match mTest a ρ μ with
  | some (true, μ1) => some (.val (.bl true), μ1)
  | some (false, μ1) => b ρ μ1
  | none => none
def mNotV (a : RE) : RE := fun ρ μ => match mTest a ρ μ with
  | some (b, μ1) => some (.val (.bl (!b)), μ1)
  | none => none
theorem sn_notV {ta : TE} {a : RE} (ha : SnE K ta a) : SnE K (tNotV ta) (mNotV a) := fun ρ μ w μ' h => by
  unfold mNotV at h
  split at h
  · rename_i b μ1 e
    cases h
    exact ev_not (mTest_ev ha e)
  · cases h
def mIf (t : RB) (a b : RE) : RE := fun ρ μ => match t ρ μ with
  | some (true, μ1) => a ρ μ1
  | some (false, μ1) => b ρ μ1
  | none => none
theorem sn_if {t : TT} {ta tb : TE} {m : RB} {a b : RE} (ht : SnB K t m) (ha : SnE K ta a) (hb : SnE K tb b) : SnE K (tIf t ta tb) (mIf m a b) := fun ρ μ w μ' h => by
  unfold mIf at h
  split at h
  · exact ev_if (ht _ _ _ _ ‹_›) (fun _ => ha _ _ _ _ h) fun z => by cases z
  · exact ev_if (ht _ _ _ _ ‹_›) (fun z => by cases z) fun _ => hb _ _ _ _ h
  · cases h
def mNil : RA := fun _ μ => some ([], μ)
theorem sn_nil : SnA K tNil mNil := fun ρ μ ws μ' h => by cases h; exact ea_nil
def mCons (a : RE) (r : RA) : RA := fun ρ μ => match a ρ μ with
  | some (w, μ1) => match r ρ μ1 with
    | some (ws, μ2) => some (w :: ws, μ2)
    | none => none
  | none => none
theorem sn_cons {ta : TE} {tr : TA} {a : RE} {r : RA} (ha : SnE K ta a) (hr : SnA K tr r) : SnA K (tCons ta tr) (mCons a r) := fun ρ μ ws μ' h => by
  unfold mCons at h
  split at h
  · rename_i w μ1 e1
    split at h
    · rename_i ws μ2 e2
      cases h
      exact ea_cons (ha _ _ _ _ e1) (hr _ _ _ _ e2)
    · cases h
  · cases h
def frz1 (μ : Mu) : W → Option (D × Mu)
  | .val d => some (d, μ)
  | .loc j => match μ[j]? with
    | some (.lst xs) => some (.lst xs, μ.set j (.frz xs))
    | some (.frz xs) => some (.lst xs, μ)
    | _ => none
theorem frz1_ok {G H : Hp} {as : List Addr} {P : Addr → Prop} {ρ : Env'} {μ μ' : Mu} {σ : L2.St} {w : W} {v : V} {d : D} (R : Rl K G H as P ρ μ σ) (r : RepW K G as w v) (h : frz1 μ w = some (d, μ')) : ∃ G', Nx P as G H as G' H ∧ Rl K G' H as P ρ μ' σ ∧ Rep K G' d v := by
  cases w with
  | val e => cases h; exact ⟨G, .refl, R, r⟩
  | loc j =>
    obtain ⟨a, ha, ev⟩ := r
    unfold frz1 at h
    dsimp only at h
    split at h
    · cases h
      obtain ⟨b, vs, hb, R', n', r'⟩ := R.freeze ‹_›
      rw [ha] at hb
      cases hb
      exact ⟨_, n', R', ev ▸ r'⟩
    · cases h
      obtain ⟨z, vs, e, q⟩ := R.mu j a _ ha ‹_›
      exact ⟨G, .refl, R, z, a, vs, ev, e, q⟩
    · cases h
def frzL (μ : Mu) : List W → Option (List D × Mu)
  | [] => some ([], μ)
  | w :: ws => match frz1 μ w with
    | some (d, μ1) => match frzL μ1 ws with
      | some (ds, μ2) => some (d :: ds, μ2)
      | none => none
    | none => none
theorem frzL_ok {H : Hp} {as : List Addr} {P : Addr → Prop} {ρ : Env'} {σ : L2.St} : ∀ {ws : List W} {vs : List V} {ds : List D} {G : Hp} {μ μ' : Mu}, Rl K G H as P ρ μ σ → RepWs K G as ws vs → frzL μ ws = some (ds, μ') → ∃ G', Nx P as G H as G' H ∧ Rl K G' H as P ρ μ' σ ∧ RepL K G' ds vs
  | [], vs, ds, G, μ, μ', R, r, h => by cases h; exact ⟨G, .refl, R, r⟩
  | w :: ws, vs, ds, G, μ, μ', R, ⟨v, t, ev, r1, r2⟩, h => by
    unfold frzL at h
    split at h
    · rename_i d μ1 e1
      split at h
      · rename_i ds' μ2 e2
        cases h
        obtain ⟨G1, n1, R1, q1⟩ := frz1_ok R r1 e1
        obtain ⟨G2, n2, R2, q2⟩ := frzL_ok R1 (RepWs.mono n1.gr n1.pre r2) e2
        exact ⟨G2, n1.trans n2, R2, ev ▸ RepL.cons (Rep.mono n2.gr _ _ q1) q2⟩
      · cases h
    · cases h
theorem ev_frz1 {te : TE} {ρ : Env'} {μ μ1 μ2 : Mu} {w : W} {d : D} (h : Ev K te ρ μ w μ1) (hf : frz1 μ1 w = some (d, μ2)) : Ev K te ρ μ (.val d) μ2 := fun P as σ G H R Q q =>
  h P as σ G H R _ fun v as1 G1 H1 n1 R1 r1 => by
    obtain ⟨G2, n2, R2, q2⟩ := frz1_ok R1 r1 hf
    exact q v as1 G2 H1 (n1.trans n2) R2 q2
theorem ea_frz {ta : TA} {ρ : Env'} {μ μ1 μ2 : Mu} {ws : List W} {ds : List D} (h : EvA K ta ρ μ ws μ1) (hf : frzL μ1 ws = some (ds, μ2)) : EvD K ta ρ μ ds μ2 := fun P as σ G H R Q q =>
  h P as σ G H R _ fun vs as1 G1 H1 n1 R1 r1 => by
    obtain ⟨G2, n2, R2, q2⟩ := frzL_ok R1 r1 hf
    exact q vs as1 G2 H1 (n1.trans n2) R2 (RepWs.vals.mpr q2)
def dat (a : RA) (ρ : Env') (μ : Mu) : Option (List D × Mu) := match a ρ μ with
  | some (ws, μ1) => frzL μ1 ws
  | none => none
theorem dat_ok {ta : TA} {a : RA} (ha : SnA K ta a) {ρ : Env'} {μ μ' : Mu} {ds : List D} (h : dat a ρ μ = some (ds, μ')) : EvD K ta ρ μ ds μ' := by
  unfold dat at h
  split at h
  · exact ea_frz (ha _ _ _ _ ‹_›) h
  · cases h
def dat1 (a : RE) (ρ : Env') (μ : Mu) : Option (D × Mu) := match a ρ μ with
  | some (w, μ1) => frz1 μ1 w
  | none => none
theorem dat1_ok {ta : TE} {a : RE} (ha : SnE K ta a) {ρ : Env'} {μ μ' : Mu} {d : D} (h : dat1 a ρ μ = some (d, μ')) : Ev K ta ρ μ (.val d) μ' := by
  unfold dat1 at h
  split at h
  · exact ev_frz1 (ha _ _ _ _ ‹_›) h
  · cases h
def mTup (a : RA) : RE := fun ρ μ => match dat a ρ μ with
  | some (ds, μ1) => if ds.length ≤ LB then some (.val (.tup ds), μ1) else none
  | none => none
def mLst (a : RA) : RE := fun ρ μ => match dat a ρ μ with
  | some (ds, μ1) => if ds.length ≤ LB then some (.val (.lst ds), μ1) else none
  | none => none
theorem sn_lst {ta : TA} {a : RA} (ha : SnA K ta a) : SnE K (tLst ta) (mLst a) := fun ρ μ w μ' h => by
  unfold mLst at h
  split at h
  · split at h
    · cases h; exact ev_lst (dat_ok ha ‹_›) ‹_›
    · cases h
  · cases h
def mLstM (a : RA) : RE := fun ρ μ => match dat a ρ μ with
  | some (ds, μ1) => if ds.length ≤ LB then some (.loc μ1.length, μ1 ++ [.lst ds]) else none
  | none => none
theorem sn_lstM {ta : TA} {a : RA} (ha : SnA K ta a) : SnE K (tLstM ta) (mLstM a) := fun ρ μ w μ' h => by
  unfold mLstM at h
  split at h
  · split at h
    · cases h; exact ev_lstM (dat_ok ha ‹_›) ‹_›
    · cases h
  · cases h
def mLsW (a : RA) : RE := fun ρ μ => match a ρ μ with
  | some (ws, μ1) => if ws.length ≤ LB then if ws.all (fun w => w.below μ1.length) = true then some (.loc μ1.length, μ1 ++ [.lsW ws]) else none else none
  | none => none
theorem sn_lsW {ta : TA} {a : RA} (ha : SnA K ta a) : SnE K (tLst ta) (mLsW a) := fun ρ μ w μ' h => by
  unfold mLsW at h
  split at h
  · split at h
    · split at h
      · cases h; exact ev_lsW (ha _ _ _ _ ‹_›) ‹_› (List.all_eq_true.mp ‹_›)
      · cases h
    · cases h
  · cases h
def seqOf (μ : Mu) (w : W) : Option (List D) := match view μ w with
  | some (.lst xs) => some xs
  | some (.tup xs) => some xs
  | _ => none
theorem seqOf_W {μ : Mu} {w : W} {xs : List D} (h : seqOf μ w = some xs) : SeqW μ w xs := by
  unfold seqOf at h
  split at h
  · cases h
    rename_i e
    cases w with
    | val d => cases e; exact .lst
    | loc j =>
      unfold view at e
      dsimp only at e
      split at e
      · cases e; exact .loc ‹_›
      · cases e; exact .frz ‹_›
      · cases e
  · cases h
    rename_i e
    cases w with
    | val d => cases e; exact .tup
    | loc j =>
      unfold view at e
      dsimp only at e
      split at e <;> cases e
  · cases h
def mStar (a : RE) (r : RA) : RA := fun ρ μ => match a ρ μ with
  | some (w, μ1) => match seqOf μ1 w with
    | some xs => match r ρ μ1 with
      | some (ws, μ2) => some (xs.map W.val ++ ws, μ2)
      | none => none
    | none => none
  | none => none
end
end DX
namespace DX
open PySem PySem.Spec PyProof.Rows L2 DK
section
variable {K : PySem.W.Frag} [HasW K]
theorem repT_int {G H : Hp} {i : Int} {v : V} (h : RepT K G H (.int i) v) : v = .int i := h
theorem repT_bl {G H : Hp} {i : Bool} {v : V} (h : RepT K G H (.bl i) v) : v = .bl i := h
def plusF : D → D → Option D
  | .int i, .int j => some (.int (i + j))
  | .str a, .str b => if (a ++ b).length ≤ SB then some (.str (a ++ b)) else none
  | .lst a, .lst b => if a.length + b.length ≤ LB then some (.lst (a ++ b)) else none
  | .tup a, .tup b => if a.length + b.length ≤ LB then some (.tup (a ++ b)) else none
  | _, _ => none
theorem ov_plus : OpV K (rPlus K) plusF := fun a b d h P as ρ μ σ G H x y R rx ry Q q => by
  unfold plusF at h
  split at h
  · cases h; exact o_addI P as ρ μ σ G H x y R rx ry Q q
  · split at h
    · cases h; exact o_addS ‹_› P as ρ μ σ G H x y R rx ry Q q
    · cases h
  · split at h
    · cases h
      rename_i hz
      obtain ⟨_, a, vs, ex, ga, ra⟩ := rx
      obtain ⟨_, b, us, ey, gb, rb⟩ := ry
      refine .inr (.inr (.inl ⟨a, b, vs, us, ex, ey, ga, gb, ?_, fun p hp => ?_⟩))
      · rw [ra.length, rb.length]
        exact Nat.le_trans hz (by decide)
      · obtain ⟨R2, n2⟩ := R.imm hp (.lst (vs ++ us))
        exact q _ _ _ n2 R2 ⟨by rw [List.length_append]; exact hz, p, _, rfl, upd_same, RepL.mono n2.gr _ _ (ra.append rb)⟩
    · cases h
  · split at h
    · cases h; exact o_addT ‹_› P as ρ μ σ G H x y R rx ry Q q
    · cases h
  · cases h
def mAddM (a b : RE) : RE := fun ρ μ => match a ρ μ with
  | some (x, μ1) => match b ρ μ1 with
    | some (y, μ2) => match view μ2 x, view μ2 y with
      | some (.lst d), some (.lst e) => if d.length + e.length ≤ LB then some (.loc μ2.length, μ2 ++ [.lst (d ++ e)]) else none
      | _, _ => none
    | none => none
  | none => none
def minusF : D → D → Option D
  | .int i, .int j => some (.int (i - j))
  | _, _ => none
theorem ov_minus : OpV K rMinus minusF := fun a b d h P as ρ μ σ G H x y R rx ry Q q => by
  unfold minusF at h
  split at h
  · cases h; exact o_sub P as ρ μ σ G H x y R rx ry Q q
  · cases h
def repD (n : Nat) (xs : List D) : List D := (List.replicate n xs).flatten
theorem repL_rep {G : Hp} {xs : List D} {vs : List V} (r : RepL K G xs vs) : ∀ n : Nat, RepL K G (repD n xs) (List.replicate n vs).flatten
  | 0 => rfl
  | n + 1 => by
    unfold repD
    rw [List.replicate_succ, List.replicate_succ, List.flatten_cons, List.flatten_cons]
    exact r.append (repL_rep r n)
def timesF : D → D → Option D
  | .int i, .int j => if (-(2 ^ 64) < i ∧ i < 2 ^ 64) ∨ (-(2 ^ 64) < j ∧ j < 2 ^ 64) then some (.int (i * j)) else none
  | .tup xs, .int k => if xs ≠ [] ∧ 2 ≤ k ∧ k ≤ 1000 ∧ xs.length ≤ 100 then some (.tup (repD k.toNat xs)) else none
  | .lst xs, .int k => if 0 ≤ k ∧ k ≤ 1000 ∧ xs.length ≤ 100 then some (.lst (repD k.toNat xs)) else none
  | _, _ => none
theorem repD_len {xs : List D} : ∀ n : Nat, (repD n xs).length = n * xs.length
  | 0 => by simp [repD]
  | n + 1 => by
    unfold repD
    rw [List.replicate_succ, List.flatten_cons, List.length_append]
    have := repD_len (xs := xs) n
    unfold repD at this
    rw [this, Nat.succ_mul, Nat.add_comm]
theorem rep_le {n m : Nat} (h : n ≤ 1000) (k : m ≤ 100) : n * m ≤ LB := Nat.le_trans (Nat.mul_le_mul h k) (by decide)
theorem ov_times : OpV K (rTimes K) timesF := fun a b d h P as ρ μ σ G H x y R rx ry Q q => by
  unfold timesF at h
  split at h
  · split at h
    · cases h; exact o_mul ‹_› P as ρ μ σ G H x y R rx ry Q q
    · cases h
  · split at h
    · cases h
      rename_i xs k hc
      obtain ⟨c1, c2, c3, c4⟩ := hc
      obtain ⟨_, a, vs, ex, ga, ra⟩ := rx
      have hl : (repD k.toNat xs).length ≤ LB := by rw [repD_len]; exact rep_le (by omega) c4
      refine .inr (.inr ⟨a, k, vs, ex, ry, same_sqt R.sub ga, fun e => c1 ?_, c2, c3, ?_, fun p hp => ?_⟩)
      · exact List.eq_nil_of_length_eq_zero (by rw [← ra.length, e]; rfl)
      · rw [ra.length]; omega
      · obtain ⟨R2, n2⟩ := R.imm hp (.tup (List.replicate k.toNat vs).flatten)
        exact q _ _ _ n2 R2 ⟨hl, p, _, rfl, SqT.of upd_same, RepL.mono n2.gr _ _ (repL_rep ra _)⟩
    · cases h
  · split at h
    · cases h
      rename_i xs k hc
      obtain ⟨c2, c3, c4⟩ := hc
      obtain ⟨_, a, vs, ex, ga, ra⟩ := rx
      have hl : (repD k.toNat xs).length ≤ LB := by rw [repD_len]; exact rep_le (by omega) c4
      refine .inr (.inl ⟨a, k, vs, ex, ry, ga, by omega, by omega, ?_, fun p hp => ?_⟩)
      · rw [ra.length, Nat.mul_comm]; exact Nat.le_trans (rep_le (by omega) c4) (by decide)
      · obtain ⟨R2, n2⟩ := R.imm hp (.lst (List.replicate k.toNat vs).flatten)
        exact q _ _ _ n2 R2 ⟨hl, p, _, rfl, upd_same, RepL.mono n2.gr _ _ (repL_rep ra _)⟩
    · cases h
  · cases h
def fdF : D → D → Option D
  | .int i, .int j => if 0 < j ∧ j < 1073741824 then some (.int (i / j)) else none
  | _, _ => none
theorem ov_fd : OpV K rFd fdF := fun a b d h P as ρ μ σ G H x y R rx ry Q q => by
  unfold fdF at h
  split at h
  · split at h
    · cases h; exact o_fd ‹_› P as ρ μ σ G H x y R rx ry Q q
    · cases h
  · cases h
def mdF : D → D → Option D
  | .int i, .int j => if 0 < j then some (.int (i % j)) else none
  | _, _ => none
theorem ov_md : OpV K rMd mdF := fun a b d h P as ρ μ σ G H x y R rx ry Q q => by
  unfold mdF at h
  split at h
  · split at h
    · cases h; exact o_md ‹_› P as ρ μ σ G H x y R rx ry Q q
    · cases h
  · cases h
def pwF : D → D → Option D
  | .int i, .int j => if 0 ≤ j ∧ j ≤ 1000 ∧ i.natAbs < 2 ^ 64 then some (.int (i ^ j.toNat)) else none
  | _, _ => none
theorem ov_pw : OpV K rPw pwF := fun a b d h P as ρ μ σ G H x y R rx ry Q q => by
  unfold pwF at h
  split at h
  · split at h
    · cases h
      rename_i hc
      exact o_pw ⟨hc.1, by omega, hc.2.2⟩ P as ρ μ σ G H x y R rx ry Q q
    · cases h
  · cases h
def ltF : D → D → Option D
  | .int i, .int j => some (.bl (decide (i < j)))
  | _, _ => none
theorem ov_lt : OpV K rLt' ltF := fun a b d h P as ρ μ σ G H x y R rx ry Q q => by
  unfold ltF at h
  split at h
  · cases h; exact o_lt P as ρ μ σ G H x y R rx ry Q q
  · cases h
def leF : D → D → Option D
  | .int i, .int j => some (.bl (decide (i ≤ j)))
  | _, _ => none
def gtF : D → D → Option D
  | .int i, .int j => some (.bl (decide (j < i)))
  | _, _ => none
theorem ov_gt : OpV K rGt' gtF := fun a b d h P as ρ μ σ G H x y R rx ry Q q => by
  unfold gtF at h
  split at h
  · cases h; exact o_gt P as ρ μ σ G H x y R rx ry Q q
  · cases h
def geF : D → D → Option D
  | .int i, .int j => some (.bl (decide (j ≤ i)))
  | _, _ => none
theorem ov_ge : OpV K rGe' geF := fun a b d h P as ρ μ σ G H x y R rx ry Q q => by
  unfold geF at h
  split at h
  · cases h; exact o_ge P as ρ μ σ G H x y R rx ry Q q
  · cases h
def negF : D → Option D
  | .int i => some (.int (-i))
  | _ => none
theorem ou_neg : OpU K (rU fun i => .int (-i)) negF := fun a d h P as ρ μ σ G H x R rx Q q => by
  unfold negF at h
  split at h
  · cases h; exact ⟨_, rx, q _ G H .refl R rfl⟩
  · cases h
def mIsN (neg : Bool) (a : RE) : RE := fun ρ μ => match a ρ μ with
  | some (.val d, μ1) => some (.val (.bl (neg ^^ isNon d)), μ1)
  | some (.loc _, μ1) => some (.val (.bl neg), μ1)
  | none => none
theorem dp_ofT {G H : Hp} (s : Same G H) {d : D} {v : V} (k : pyOk d = true) (r : RepT K G H d v) : Dp K H v (toPy d) := by
  cases d with
  | lst xs =>
    obtain ⟨_, a, vs, e, g, r⟩ := r
    rw [e]
    exact .lst (SqL.of g) (dp_ofL s xs vs k r)
  | _ => exact dp_of s _ v k r
theorem lay_ofT {G H : Hp} {d : D} {v : V} (r : RepT K G H d v) : (toPy d).canLay0 = true := by
  cases d with
  | lst xs =>
    obtain ⟨_, a, vs, e, g, r⟩ := r
    exact lay_ofL xs vs r
  | _ => exact lay_of (K := K) (G := G) _ v r
def eqF (neg : Bool) : D → D → Option D
  | .int i, .int j => some (.bl (neg ^^ decide (i = j)))
  | .str i, .str j => some (.bl (neg ^^ decide (i = j)))
  | .bl i, .bl j => some (.bl (neg ^^ decide (i = j)))
  | a, b => if pyOk a = true ∧ pyOk b = true ∧ (toPy a).depth ≤ 64 ∧ (toPy b).depth ≤ 64 then some (.bl (neg ^^ eqP a b)) else none
theorem ov_eq : OpV K (rEqq K) (eqF false) := fun a b d h P as ρ μ σ G H x y R rx ry Q q => by
  unfold eqF at h
  simp only [Bool.false_xor] at h
  split at h
  · cases h; exact o_eqI P as ρ μ σ G H x y R rx ry Q q
  · cases h; exact o_eqS P as ρ μ σ G H x y R rx ry Q q
  · cases h; exact o_eqB P as ρ μ σ G H x y R rx ry Q q
  · split at h
    · cases h
      rename_i hc
      obtain ⟨c1, c2, c3, c4⟩ := hc
      exact .inr ⟨_, _, dp_ofT R.sub c1 rx, dp_ofT R.sub c2 ry, Bool.and_eq_true_iff.mpr ⟨lay_ofT rx, decide_eq_true c3⟩, Bool.and_eq_true_iff.mpr ⟨lay_ofT ry, decide_eq_true c4⟩, q _ G H .refl R rfl⟩
    · cases h
theorem ov_ne : OpV K (rNee K) (eqF true) := fun a b d h P as ρ μ σ G H x y R rx ry Q q => by
  unfold eqF at h
  simp only [Bool.true_xor] at h
  split at h
  · cases h; exact o_neI P as ρ μ σ G H x y R rx ry Q q
  · cases h; exact o_neS P as ρ μ σ G H x y R rx ry Q q
  · cases h; exact o_neB P as ρ μ σ G H x y R rx ry Q q
  · split at h
    · cases h
      rename_i hc
      obtain ⟨c1, c2, c3, c4⟩ := hc
      exact .inr ⟨_, _, dp_ofT R.sub c1 rx, dp_ofT R.sub c2 ry, Bool.and_eq_true_iff.mpr ⟨lay_ofT rx, decide_eq_true c3⟩, Bool.and_eq_true_iff.mpr ⟨lay_ofT ry, decide_eq_true c4⟩, q _ G H .refl R rfl⟩
    · cases h
end
end DX
namespace DX
open PySem PySem.Spec PyProof.Rows L2 DK
section
variable {K : PySem.W.Frag} [HasW K]
def dV : D → V
  | .non => .non
  | .bl b => .bl b
  | .int i => .int i
  | .str s => .str s
  | _ => .non
def flatD : D → Bool
  | .non => true
  | .bl _ => true
  | .int _ => true
  | .str _ => true
  | _ => false
theorem repT_lst {G H : Hp} {xs : List D} {v : V} (r : RepT K G H (.lst xs) v) : ∃ a vs, v = .ref a ∧ H a = some (.lst vs) ∧ RepL K G xs vs ∧ xs.length ≤ LB := by
  obtain ⟨z, a, vs, e, g, r⟩ := r
  exact ⟨a, vs, e, g, r, z⟩
theorem repT_tup {G H : Hp} (s : Same G H) {xs : List D} {v : V} (r : RepT K G H (.tup xs) v) : ∃ a vs, v = .ref a ∧ SqT K H a vs ∧ RepL K G xs vs ∧ xs.length ≤ LB := by
  obtain ⟨z, a, vs, e, g, r⟩ := r
  exact ⟨a, vs, e, same_sqt s g, r, z⟩
def inF (neg : Bool) : D → D → Option D
  | x, .tup xs => if flatD x = true ∧ xs.all flatD = true then some (.bl (neg ^^ inV (dV x) (xs.map dV))) else none
  | x, .lst xs => if flatD x = true ∧ xs.all flatD = true then some (.bl (neg ^^ inV (dV x) (xs.map dV))) else none
  | .str a, .str b => match a.cps.toList with
    | [c] => some (.bl (neg ^^ decide (c ∈ b.cps.toList)))
    | _ => none
  | _, _ => none
def ixF : D → D → Option D
  | .lst xs, .int i => atI xs i
  | .tup xs, .int i => atI xs i
  | .str s, .int i => match atI s.cps.toList i with
    | some c => some (.str ⟨#[c]⟩)
    | none => none
  | _, _ => none
theorem ov_ix : OpV K (rIx K) ixF := fun a b d h P as ρ μ σ G H x y R rx ry Q q => by
  unfold ixF at h
  split at h
  · obtain ⟨a, vs, e, g, r, _⟩ := repT_lst rx
    obtain ⟨v, h1, h2⟩ := atI_rep r h
    exact .inl ⟨a, vs, _, v, e, ry, SqL.of g, h1, q _ G H .refl R h2⟩
  · exact o_ixT h P as ρ μ σ G H x y R rx ry Q q
  · split at h
    · cases h; exact o_ixS ‹_› P as ρ μ σ G H x y R rx ry Q q
    · cases h
  · cases h
def mIx (a b : RE) : RE := fun ρ μ => match a ρ μ with
  | some (x, μ1) => match b ρ μ1 with
    | some (y, μ2) => match (match x with | .loc j => μ2[j]? | _ => none), y with
      | some (.lsW ws), .val (.int n) => match atI ws n with
        | some w => some (w, μ2)
        | none => none
      | _, _ => match view μ2 x, view μ2 y with
        | some d, some e => match ixF d e with
          | some r => some (.val r, μ2)
          | none => none
        | _, _ => none
    | none => none
  | none => none
theorem sn_ix {ta tb : TE} {a b : RE} (ha : SnE K ta a) (hb : SnE K tb b) : SnE K (tOp (rIx K) ta tb) (mIx a b) := fun ρ μ w μ' h => by
  unfold mIx at h
  split at h
  · rename_i x μ1 e1
    split at h
    · rename_i y μ2 e2
      split at h
      · rename_i o1 o2 ws n hx
        split at h
        · cases h
          cases x with
          | val d => cases hx
          | loc j => exact ev_ixW (ha _ _ _ _ e1) (hb _ _ _ _ e2) hx ‹_›
        · cases h
      · have : mOp ixF a b ρ μ = some (w, μ') := by
          unfold mOp
          rw [e1]
          dsimp only
          rw [e2]
          exact h
        exact sn_op ov_ix ha hb ρ μ w μ' this
    · cases h
  · cases h
def lenF : D → Option D
  | .str s => some (.int s.length)
  | .lst xs => some (.int xs.length)
  | .tup xs => some (.int xs.length)
  | .scr ns => some (.int ns.length)
  | _ => none
theorem ou_len : OpU K (fun x H Q => rLenA K [x] H Q) lenF := fun a d h P as ρ μ σ G H x R rx Q q => by
  unfold lenF at h
  split at h
  · cases h
    obtain ⟨ev, hs⟩ := rx
    subst ev
    exact ⟨_, _, rfl, ⟨Nat.le_trans hs.1 (by decide), rfl⟩, q _ G H .refl R rfl⟩
  · cases h
    obtain ⟨a, vs, e, g, r, _⟩ := repT_lst rx
    subst e
    exact ⟨_, _, rfl, .inl ⟨vs, SqL.of g, r.length.symm⟩, q _ G H .refl R rfl⟩
  · cases h
    obtain ⟨a, vs, e, g, r, _⟩ := repT_tup R.sub rx
    subst e
    exact ⟨_, _, rfl, .inr ⟨vs, g, r.length.symm⟩, q _ G H .refl R rfl⟩
  · cases h
    obtain ⟨a, e, g⟩ := rx
    subst e
    exact ⟨_, _, rfl, .inl ⟨_, (by first | exact g | exact same_sql R.sub g), by rw [List.length_map]⟩, q _ G H .refl R rfl⟩
  · cases h
def bls : List D → Option (List Bool)
  | [] => some []
  | .bl b :: r => match bls r with
    | some bs => some (b :: bs)
    | none => none
  | _ => none
def allF : D → Option D
  | .lst xs => match bls xs with
    | some bs => some (.bl (bs.all id))
    | none => none
  | _ => none
end
end DX
namespace DX
open PySem PySem.Spec PyProof.Rows L2 DK
section
variable {K : PySem.W.Frag} [HasW K]
def tupF : D → Option D
  | .lst xs => some (.tup xs)
  | .tup xs => some (.tup xs)
  | _ => none
theorem ou_tup : OpU K (fun x H Q => rTupOf K [x] H Q) tupF := fun a d h P as ρ μ σ G H x R rx Q q => by
  unfold tupF at h
  split at h
  · cases h
    obtain ⟨a, vs, e, g, r, z⟩ := repT_lst rx
    subst e
    refine ⟨a, vs, rfl, .inl ⟨SqL.of g, fun l hl => ?_⟩⟩
    obtain ⟨R2, n2⟩ := R.imm hl (.tup vs)
    exact q _ _ _ n2 R2 ⟨z, l, vs, rfl, SqT.of upd_same, RepL.mono n2.gr _ _ r⟩
  · cases h
    obtain ⟨a, vs, e, g, r, z⟩ := repT_tup R.sub rx
    subst e
    exact ⟨a, vs, rfl, .inr ⟨g, q _ G H .refl R rx⟩⟩
  · cases h
def lstF : D → Option D
  | .lst xs => some (.lst xs)
  | .tup xs => some (.lst xs)
  | _ => none
def mLstOfM (a : RE) : RE := fun ρ μ => match a ρ μ with
  | some (x, μ1) => match view μ1 x with
    | some d => match lstF d with
      | some (.lst xs) => some (.loc μ1.length, μ1 ++ [.lst xs])
      | _ => none
    | none => none
  | none => none
def sOf : List D → Option (List Str)
  | [] => some []
  | .str b :: r => match sOf r with
    | some bs => some (b :: bs)
    | none => none
  | _ => none
theorem sOf_map : ∀ bs : List Str, sOf (bs.map D.str) = some bs
  | [] => rfl
  | b :: bs => by rw [List.map_cons, sOf, sOf_map]
def sortF : D → Option D
  | .lst xs => match sOf xs with
    | some ss => if ss.length < 64 then some (.lst ((srt ss).map D.str)) else none
    | none => none
  | _ => none
def sOkB (s : Str) : Bool := decide (s.length ≤ SB) && s.cps.all (· < 0x110000)
def strF : D → Option D
  | .str s => some (.str s)
  | .int i => if i.natAbs.log2 < 1920 ∧ sOkB (toString i : String) = true then some (.str (toString i : String)) else none
  | _ => none
def intF : D → Option D
  | .int i => some (.int i)
  | .bl k => some (.int (if k then 1 else 0))
  | _ => none
theorem ou_int : OpU K (fun x H Q => rInt1 [x] H Q) intF := fun a d h P as ρ μ σ G H x R rx Q q => by
  unfold intF at h
  split at h
  · cases h; exact .inl ⟨_, by rw [repT_int rx], q _ G H .refl R rfl⟩
  · cases h; exact .inr ⟨_, by rw [repT_bl rx], q _ G H .refl R rfl⟩
  · cases h
def absF : D → Option D
  | .int i => some (.int (if i < 0 then -i else i))
  | _ => none
theorem ou_abs : OpU K (fun x H Q => rAbs [x] H Q) absF := fun a d h P as ρ μ σ G H x R rx Q q => by
  unfold absF at h
  split at h
  · cases h; exact ⟨_, by rw [repT_int rx], q _ G H .refl R rfl⟩
  · cases h
def maxF : D → D → Option D
  | .int i, .int j => some (.int (max i j))
  | _, _ => none
def minF : D → D → Option D
  | .int i, .int j => some (.int (min i j))
  | _, _ => none
def mNoPart : RO := fun _ μ => some (none, μ)
def mPart (a : RE) : RO := fun ρ μ => match a ρ μ with
  | some (.val (.int n), μ1) => some (some n, μ1)
  | _ => none
theorem sn_part {ta : TE} {a : RE} (ha : SnE K ta a) : SnO K (tPart ta) (mPart a) := fun ρ μ o μ' h => by
  unfold mPart at h
  split at h
  · cases h
    rename_i e
    exact fun P as σ G H R Q q => ha _ _ _ _ e P as σ G H R _ fun v as1 G1 H1 n1 R1 r1 => ⟨_, r1, q as1 G1 H1 n1 R1⟩
  · cases h
def slF (lo hi : Option Int) : D → Option D
  | .lst xs => some (.lst (DK.cutD xs lo hi))
  | .tup xs => some (.tup (DK.cutD xs lo hi))
  | .str z => some (.str (cutS z lo hi))
  | .scr ns => if ns.length ≤ LB then some (.lst (DK.cutD (ns.map D.int) lo hi)) else none
  | _ => none
theorem cutS_ok' {z : Str} {lo hi : Option Int} (h : sOk z) : sOk (cutS z lo hi) := by
  obtain ⟨h1, h2⟩ := sOk_iff.mp h
  refine ⟨Nat.le_trans (cutS_length z lo hi) h.1, ?_⟩
  refine Array.all_eq_true_iff_forall_mem.mpr fun c hc => ?_
  have hm : c ∈ z.cps.toList := List.mem_of_mem_drop (List.mem_of_mem_take (by simpa [cutS] using hc))
  simpa using h2 c hm
theorem ou_sl {lo hi : Option Int} : OpU K (fun x H Q => rSlc K x lo hi H Q) (slF lo hi) := fun a d h P as ρ μ σ G H x R rx Q q => by
  unfold slF at h
  split at h
  · cases h
    obtain ⟨a, vs, e, g, r, z⟩ := repT_lst rx
    refine .inl ⟨a, vs, e, SqL.of g, fun p hp => ?_⟩
    obtain ⟨R4, n4⟩ := R.imm hp (.lst (cutV vs lo hi))
    exact q _ _ _ n4 R4 ⟨Nat.le_trans cut_len z, p, _, rfl, upd_same, RepL.mono n4.gr _ _ (cut_rep r)⟩
  · cases h
    rename_i xs
    obtain ⟨z, a, vs, ev, g, hr⟩ := id rx
    refine .inr (.inl ⟨a, vs, ev, same_sqt R.sub g, fun ⟨e1, e2⟩ => ?_, fun _ p hp => ?_⟩)
    · have whole : DK.cutD xs lo hi = xs := by
        unfold DK.cutD
        rw [hr.length] at e1 e2
        rw [e1, e2]
        simp
      rw [whole] at q
      rw [← ev]
      exact q _ _ _ .refl R rx
    · obtain ⟨R4, n4⟩ := R.imm hp (.tup (cutV vs lo hi))
      exact q _ _ _ n4 R4 ⟨Nat.le_trans cut_len z, p, _, rfl, SqT.of upd_same, RepL.mono n4.gr _ _ (cut_rep hr)⟩
  · cases h
    exact .inr (.inr ⟨_, rx.1, Nat.le_trans rx.2.1 (by decide), q _ G H .refl R ⟨rfl, cutS_ok' rx.2⟩⟩)
  · split at h
    · cases h
      rename_i hz
      obtain ⟨a, ev, hs⟩ := rx
      refine .inl ⟨a, _, ev, same_sql R.sub hs, fun p hp => ?_⟩
      obtain ⟨R4, n4⟩ := R.imm hp (.lst (cutV _ lo hi))
      exact q _ _ _ n4 R4 ⟨Nat.le_trans cut_len (by rw [List.length_map]; exact hz), p, _, rfl, upd_same, cut_rep RepL.ofInts⟩
    · cases h
  · cases h
def mSl (a : RE) (l u : RO) : RE := fun ρ μ => match a ρ μ with
  | some (x, μ1) => match l ρ μ1 with
    | some (lo, μ2) => match u ρ μ2 with
      | some (hi, μ3) => match view μ3 x with
        | some d => match slF lo hi d with
          | some r => some (.val r, μ3)
          | none => none
        | none => none
      | none => none
    | none => none
  | none => none
theorem sn_sl {ta : TE} {tl th : TO} {a : RE} {l u : RO} (ha : SnE K ta a) (hl : SnO K tl l) (hu : SnO K th u) : SnE K (tSl (rSlc K) ta tl th) (mSl a l u) := fun ρ μ w μ' h => by
  unfold mSl at h
  split at h
  · rename_i x μ1 e1
    split at h
    · rename_i lo μ2 e2
      split at h
      · rename_i hi μ3 e3
        split at h
        · rename_i d v1
          split at h
          · rename_i z e4
            cases h
            exact fun P as σ G H R Q q => ha _ _ _ _ e1 P as σ G H R _ fun x' as1 G1 H1 n1 R1 r1 => hl _ _ _ _ e2 P as1 σ G1 H1 R1 _ fun as2 G2 H2 n2 R2 => hu _ _ _ _ e3 P as2 σ G2 H2 R2 _ fun as3 G3 H3 n3 R3 =>
              ou_sl d z e4 P as3 ρ _ σ G3 H3 x' R3 (view_rep R3 (r1.mono (n2.trans n3).gr (n2.trans n3).pre) v1) Q fun v G4 H4 n4 R4 r4 => q v as3 G4 H4 (((n1.trans n2).trans n3).trans n4) R4 r4
          · cases h
        · cases h
      · cases h
    · cases h
  · cases h
end
end DX
namespace DX
open PySem PySem.Spec PyProof.Rows L2 DK
section
variable {K : PySem.W.Frag} [HasW K]
def isTF (T : String) : D → Option D := fun d => if isData d = true then some (.bl (isT T d)) else none
def splitF : D → D → Option D
  | .str x, .str y => if TL.tl y ≠ [] ∧ y.cps.all (· < 256) = true then some (.lst ((Txt.split x y).map D.str)) else none
  | _, _ => none
def mJoin (a b : RE) : RE := fun ρ μ => match a ρ μ with
  | some (.val (.str y), μ1) => match b ρ μ1 with
    | some (x, μ2) => match seqOf μ2 x with
      | some xs => match sOf xs with
        | some ps => if (ps.map (·.length)).sum + ps.length * y.length ≤ SB then some (.val (.str (Txt.join y ps)), μ2) else none
        | none => none
      | none => none
    | none => none
  | _ => none
theorem view_lst {μ : Mu} {j : Nat} {d : D} (h : view μ (.loc j) = some d) : ∃ ys, lstAt j ys μ := by
  unfold view at h
  dsimp only at h
  split at h
  · exact ⟨_, .inl ‹_›⟩
  · exact ⟨_, .inr ‹_›⟩
  · cases h
def mAppend (a : RE) (r : RA) : RE := fun ρ μ => match a ρ μ with
  | some (.loc j, μ1) => match view μ1 (.loc j), dat r ρ μ1 with
    | some _, some ([d], μ2) => match μ2[j]? with
      | some (.lst xs) => if xs.length < LB then some (.val .non, μ2.set j (.lst (xs ++ [d]))) else none
      | _ => none
    | _, _ => none
  | _ => none
theorem sn_append {ta : TE} {tr : TA} {a : RE} {r : RA} (ha : SnE K ta a) (hr : SnA K tr r) : SnE K (tBM K "list" rAppend ta tr) (mAppend a r) := fun ρ μ w μ' h => by
  unfold mAppend at h
  split at h
  · rename_i j μ1 e1
    split at h
    · rename_i _ d μ2 v1 e2
      split at h
      · rename_i xs hm
        split at h
        · cases h
          exact ev_append (ha _ _ _ _ e1) (dat_ok hr e2) (view_lst v1) hm ‹_›
        · cases h
      · cases h
    · cases h
  · cases h
def mPop (a : RE) : RE := fun ρ μ => match a ρ μ with
  | some (.loc j, μ1) => match μ1[j]? with
    | some (.lst xs) => match xs.getLast? with
      | some d => some (.val d, μ1.set j (.lst xs.dropLast))
      | none => none
    | _ => none
  | _ => none
theorem sn_pop {ta : TE} {a : RE} (ha : SnE K ta a) : SnE K (tBM0 K "list" rPop ta) (mPop a) := fun ρ μ w μ' h => by
  unfold mPop at h
  split at h
  · rename_i j μ1 e1
    split at h
    · rename_i xs hm
      split at h
      · rename_i d hd
        cases h
        obtain ⟨l, e⟩ := List.getLast?_eq_some_iff.mp hd
        subst e
        rw [List.dropLast_concat]
        exact ev_pop (ha _ _ _ _ e1) hm
      · cases h
    · cases h
  · cases h
end
end DX
namespace DX
open PySem PySem.Spec PyProof.Rows L2 DK
section
variable {K : PySem.W.Frag} [HasW K]
abbrev RGs := List D → Env' → Option Env'
def hName (i : Nat) : RG := fun w ρ => some (ρ.set i (some w))
theorem sn_gName {i : Nat} : SnG K (gName i) (hName i) := fun w ρ ρ' h => by cases h; exact eg_name
def hNil : RGs := fun ds ρ => match ds with
  | [] => some ρ
  | _ => none
def hCons (g : RG) (r : RGs) : RGs := fun ds ρ => match ds with
  | d :: t => match g (.val d) ρ with
    | some ρ1 => r t ρ1
    | none => none
  | [] => none
def hTup (n : Nat) (r : RGs) : RG := fun w ρ => match w with
  | .val (.tup ds) => if ds.length = n then r ds ρ else none
  | _ => none
def SnGc (K : PySem.W.Frag) [HasW K] (g : TG) (m : RG) (vs : List Nat) : Prop := ∀ d ρ ρ', m (.val d) ρ = some ρ' → EvGc K g d vs ρ ρ'
theorem sn_cName {i : Nat} {vs : List Nat} (h : i ∈ vs := by decide) : SnGc K (gName i) (hName i) vs := fun w ρ ρ' e => by cases e; exact egc_name h
def mNext : RS := fun ρ μ => some (.nx ρ μ)
theorem sn_next : SnS K tNext mNext := fun ρ μ o h => by cases h; exact ex_next
def mCont : RS := fun ρ μ => some (.ct ρ μ)
def mBreak : RS := fun ρ μ => some (.bk ρ μ)
def mNever : RS := fun _ _ => none
theorem sn_never {t : TS} : SnS K t mNever := fun ρ μ o h => by cases h
def mSeq (a b : RS) : RS := fun ρ μ => match a ρ μ with
  | some (.nx ρ1 μ1) => b ρ1 μ1
  | r => r
theorem sn_seq {t u : TS} {a b : RS} (ha : SnS K t a) (hb : SnS K u b) : SnS K (tSeq t u) (mSeq a b) := fun ρ μ o h => by
  unfold mSeq at h
  split at h
  · exact ex_seq (ha _ _ _ ‹_›) (hb _ _ _ h)
  · rename_i hn
    cases o with
    | nx ρ1 μ1 => exact absurd h (hn ρ1 μ1)
    | rt w μ1 => exact ex_seqR (ha _ _ _ h)
    | bk ρ1 μ1 => exact ex_seqB (ha _ _ _ h)
    | ct ρ1 μ1 => exact ex_seqC (ha _ _ _ h)
def mRet (a : RE) : RS := fun ρ μ => match a ρ μ with
  | some (w, μ1) => some (.rt w μ1)
  | none => none
theorem sn_ret {ta : TE} {a : RE} (ha : SnE K ta a) : SnS K (tRet ta) (mRet a) := fun ρ μ o h => by
  unfold mRet at h
  split at h
  · cases h; exact ex_ret (ha _ _ _ _ ‹_›)
  · cases h
def mRetN : RS := fun ρ μ => some (.rt (.val .non) μ)
def mDrop (a : RE) : RS := fun ρ μ => match a ρ μ with
  | some (_, μ1) => some (.nx ρ μ1)
  | none => none
theorem sn_drop {ta : TE} {a : RE} (ha : SnE K ta a) : SnS K (tDrop ta) (mDrop a) := fun ρ μ o h => by
  unfold mDrop at h
  split at h
  · cases h; exact ex_drop (ha _ _ _ _ ‹_›)
  · cases h
def mAsg (a : RE) (g : RG) : RS := fun ρ μ => match a ρ μ with
  | some (w, μ1) => match g w ρ with
    | some ρ1 => some (.nx ρ1 μ1)
    | none => none
  | none => none
theorem sn_asg {ta : TE} {g : TG} {a : RE} {m : RG} (ha : SnE K ta a) (hg : SnG K g m) : SnS K (tAsg ta g) (mAsg a m) := fun ρ μ o h => by
  unfold mAsg at h
  split at h
  · split at h
    · cases h; exact ex_asg (ha _ _ _ _ ‹_›) (hg _ _ _ ‹_›)
    · cases h
  · cases h
def mIfS (t : RB) (a b : RS) : RS := fun ρ μ => match t ρ μ with
  | some (true, μ1) => a ρ μ1
  | some (false, μ1) => b ρ μ1
  | none => none
theorem sn_ifS {t : TT} {ts us : TS} {m : RB} {a b : RS} (ht : SnB K t m) (ha : SnS K ts a) (hb : SnS K us b) : SnS K (tIfS t ts us) (mIfS m a b) := fun ρ μ o h => by
  unfold mIfS at h
  split at h
  · exact ex_if (ht _ _ _ _ ‹_›) (fun _ => ha _ _ _ h) fun z => by cases z
  · exact ex_if (ht _ _ _ _ ‹_›) (fun z => by cases z) fun _ => hb _ _ _ h
  · cases h
def mPar (i j : Nat) (r : RA) : RS := fun ρ μ => match r ρ μ with
  | some ([v, w], μ1) => some (.nx ((ρ.set i (some v)).set j (some w)) μ1)
  | _ => none
theorem sn_par {i j : Nat} {tr : TA} {r : RA} (hr : SnA K tr r) : SnS K (tPar i j tr) (mPar i j r) := fun ρ μ o h => by
  unfold mPar at h
  split at h
  · cases h; exact ex_par (hr _ _ _ _ ‹_›)
  · cases h
def mAug (i : Nat) (a : RE) : RS := fun ρ μ => match ρ[i]?, a ρ μ with
  | some (some (.val (.int m))), some (.val (.int n), μ1) => some (.nx (ρ.set i (some (.val (.int (m + n))))) μ1)
  | _, _ => none
def mSetI (e a b : RE) : RS := fun ρ μ => match e ρ μ with
  | some (w, μ1) => match a ρ μ1 with
    | some (.loc j, μ2) => match b ρ μ2 with
      | some (.val (.int n), μ3) => match μ3[j]? with
        | some (.lst xs) => match ixN xs.length n with
          | some k => match w with
            | .val d => some (.nx ρ (μ3.set j (.lst (xs.set k d))))
            | _ => none
          | none => none
        | some (.lsW ws) => match ixN ws.length n with
          | some k => if w.below μ3.length = true then some (.nx ρ (μ3.set j (.lsW (ws.set k w)))) else none
          | none => none
        | _ => none
      | _ => none
    | _ => none
  | none => none
theorem sn_setI {te ta tb : TE} {e a b : RE} (he : SnE K te e) (ha : SnE K ta a) (hb : SnE K tb b) : SnS K (tAsg te (gSub ta tb rSetL)) (mSetI e a b) := fun ρ μ o h => by
  unfold mSetI at h
  split at h
  · rename_i w μ1 e1
    split at h
    · rename_i j μ2 e2
      split at h
      · rename_i n μ3 e3
        split at h
        · rename_i xs hm
          split at h
          · rename_i k hk
            split at h
            · cases h; exact ex_setItem (he _ _ _ _ e1) (ha _ _ _ _ e2) (hb _ _ _ _ e3) hm hk
            · cases h
          · cases h
        · rename_i ws hm
          split at h
          · rename_i k hk
            split at h
            · cases h; exact ex_setW (he _ _ _ _ e1) (ha _ _ _ _ e2) (hb _ _ _ _ e3) hm hk ‹_›
            · cases h
          · cases h
        · cases h
      · cases h
    · cases h
  · cases h
mutual
def beqD : D → D → Bool
  | .non, .non => true
  | .bl a, .bl b => a == b
  | .int a, .int b => a == b
  | .str a, .str b => decide (a = b)
  | .tup a, .tup b => beqL a b
  | .lst a, .lst b => beqL a b
  | .obj c ns a, .obj d ms b => decide (c = d) && decide (ns = ms) && beqL a b
  | .ty a, .ty b => a == b
  | .cls a, .cls b => decide (a = b)
  | .scr a, .scr b => decide (a = b)
  | _, _ => false
def beqL : List D → List D → Bool
  | [], [] => true
  | a :: as, b :: bs => beqD a b && beqL as bs
  | _, _ => false
end
mutual
theorem beqD_eq : ∀ a b : D, beqD a b = true → a = b
  | .non, b, h => by cases b <;> first | rfl | cases h
  | .bl a, b, h => by cases b <;> first | (simp only [beqD, beq_iff_eq] at h; rw [h]) | cases h
  | .int a, b, h => by cases b <;> first | (simp only [beqD, beq_iff_eq] at h; rw [h]) | cases h
  | .str a, b, h => by cases b <;> first | (simp only [beqD, decide_eq_true_eq] at h; rw [h]) | cases h
  | .tup a, b, h => by cases b <;> first | (rw [beqD] at h; rw [beqL_eq _ _ h]) | cases h
  | .lst a, b, h => by cases b <;> first | (rw [beqD] at h; rw [beqL_eq _ _ h]) | cases h
  | .obj c ns a, b, h => by
    cases b <;> try (cases h; done)
    rw [beqD, Bool.and_eq_true, Bool.and_eq_true] at h
    rw [of_decide_eq_true h.1.1, of_decide_eq_true h.1.2, beqL_eq _ _ h.2]
  | .ty a, b, h => by cases b <;> first | (simp only [beqD, beq_iff_eq] at h; rw [h]) | cases h
  | .cls a, b, h => by cases b <;> first | (simp only [beqD, decide_eq_true_eq] at h; rw [h]) | cases h
  | .scr a, b, h => by cases b <;> first | (simp only [beqD, decide_eq_true_eq] at h; rw [h]) | cases h
theorem beqL_eq : ∀ a b : List D, beqL a b = true → a = b
  | [], b, h => by cases b <;> first | rfl | cases h
  | a :: as, b, h => by
    cases b with
    | nil => cases h
    | cons b bs =>
      rw [beqL, Bool.and_eq_true] at h
      rw [beqD_eq _ _ h.1, beqL_eq _ _ h.2]
end
def standB (g : Option (Nat × List D)) (μ : Mu) : Bool := match g with
  | none => true
  | some (j, xs) => match μ[j]? with
    | some (.lst ys) => beqL ys xs
    | some (.frz ys) => beqL ys xs
    | _ => false
def stand (g : Option (Nat × List D)) : Mu → Prop := match g with
  | none => CT
  | some (j, xs) => lstAt j xs
theorem standB_ok {g : Option (Nat × List D)} {μ : Mu} (h : standB g μ = true) : stand g μ := by
  cases g with
  | none => trivial
  | some p =>
    obtain ⟨j, xs⟩ := p
    unfold standB at h
    dsimp only at h
    split at h
    · rename_i e; rw [beqL_eq _ _ h] at e; exact .inl e
    · rename_i e; rw [beqL_eq _ _ h] at e; exact .inr e
    · cases h
def SnI (K : PySem.W.Frag) [HasW K] (wi : TI) (m : RI) : Prop := ∀ ρ μ xs g μ', m ρ μ = some (xs, g, μ') → EvI K wi ρ μ xs μ' (stand g)
def guardOf (w : W) (xs : List D) : Option (Nat × List D) := match w with
  | .val _ => none
  | .loc j => some (j, xs)
theorem guard_seq {w : W} {xs : List D} : stand (guardOf w xs) = seqC w xs := by cases w <;> rfl
def kSeq (a : RE) : RI := fun ρ μ => match a ρ μ with
  | some (w, μ1) => match seqOf μ1 w with
    | some xs => some (xs, guardOf w xs, μ1)
    | none => none
  | none => none
theorem sn_iSeq {ta : TE} {a : RE} (ha : SnE K ta a) : SnI K (iSeq K ta) (kSeq a) := fun ρ μ xs g μ' h => by
  unfold kSeq at h
  split at h
  · split at h
    · cases h
      rw [guard_seq]
      exact ei_seq (ha _ _ _ _ ‹_›) (seqOf_W ‹_›)
    · cases h
  · cases h
def kEnum (r : RA) : RI := fun ρ μ => match r ρ μ with
  | some ([w], μ1) => match seqOf μ1 w with
    | some xs => some (enumD 0 xs, guardOf w xs, μ1)
    | none => none
  | _ => none
def rngB (n : Int) : Bool := Nat.ble n.natAbs 1000000000
theorem rngB_ok {n : Int} (h : rngB n = true) : -(2 ^ 62) ≤ n ∧ n < 2 ^ 62 := by
  have h1 : n.natAbs ≤ 1000000000 := Nat.le_of_ble_eq_true h
  have h2 : (2 : Int) ^ 62 = 4611686018427387904 := by decide +kernel
  rw [h2]
  omega
def kRng1 (r : RA) : RI := fun ρ μ => match dat r ρ μ with
  | some ([.int n], μ1) => if rngB n = true then some (rangeD 0 n.toNat, none, μ1) else none
  | _ => none
theorem sn_iRng1 {tr : TA} {r : RA} (hr : SnA K tr r) : SnI K (iRng1 tr) (kRng1 r) := fun ρ μ xs g μ' h => by
  unfold kRng1 at h
  split at h
  · split at h
    · cases h
      have hc := rngB_ok ‹rngB _ = true›
      exact ei_range1 (dat_ok hr ‹_›) hc.1 hc.2
    · cases h
  · cases h
def kStr (a : RE) : RI := fun ρ μ => match a ρ μ with
  | some (.val (.str s), μ1) => some (signs s, none, μ1)
  | _ => none
def loopR (g : RG) (b : RS) (c : Option (Nat × List D)) : List D → Env' → Mu → Option Out
  | [], ρ, μ => some (.nx ρ μ)
  | x :: xs, ρ, μ => match g (.val x) ρ with
    | some ρ1 => match b ρ1 μ with
      | some (.nx ρ2 μ2) => if standB c μ2 = true then loopR g b c xs ρ2 μ2 else none
      | some (.ct ρ2 μ2) => if standB c μ2 = true then loopR g b c xs ρ2 μ2 else none
      | some (.bk ρ2 μ2) => some (.nx ρ2 μ2)
      | some (.rt w μ2) => some (.rt w μ2)
      | none => none
    | none => none
theorem loopR_ok {g : TG} {tb : TS} {m : RG} {b : RS} {c : Option (Nat × List D)} (hg : SnG K g m) (hb : SnS K tb b) : ∀ {xs : List D} {ρ : Env'} {μ : Mu} {o : Out}, loopR m b c xs ρ μ = some o → Lp K g tb (stand c) xs ρ μ o
  | [], ρ, μ, o, h => by cases h; exact .nil
  | x :: xs, ρ, μ, o, h => by
    unfold loopR at h
    split at h
    · rename_i ρ1 e1
      have h1 := hg _ _ _ e1
      split at h
      · split at h
        · exact .next h1 (hb _ _ _ ‹_›) (standB_ok ‹_›) (loopR_ok hg hb h)
        · cases h
      · split at h
        · exact .cont h1 (hb _ _ _ ‹_›) (standB_ok ‹_›) (loopR_ok hg hb h)
        · cases h
      · cases h; exact .brk h1 (hb _ _ _ ‹_›)
      · cases h; exact .ret h1 (hb _ _ _ ‹_›)
      · cases h
    · cases h
def mFor (i : RI) (g : RG) (b : RS) : RS := fun ρ μ => match i ρ μ with
  | some (xs, c, μ1) => loopR g b c xs ρ μ1
  | none => none
theorem sn_for {wi : TI} {g : TG} {tb : TS} {i : RI} {m : RG} {b : RS} (hi : SnI K wi i) (hg : SnG K g m) (hb : SnS K tb b) : SnS K (tFor wi g tb) (mFor i m b) := fun ρ μ o h => by
  unfold mFor at h
  split at h
  · exact ex_for (hi _ _ _ _ _ ‹_›) (loopR_ok hg hb h)
  · cases h
def whileR (t : RB) (b : RS) : Nat → Env' → Mu → Option Out
  | 0, _, _ => none
  | n + 1, ρ, μ => match t ρ μ with
    | some (false, μ1) => some (.nx ρ μ1)
    | some (true, μ1) => match b ρ μ1 with
      | some (.nx ρ2 μ2) => whileR t b n ρ2 μ2
      | some (.ct ρ2 μ2) => whileR t b n ρ2 μ2
      | some (.bk ρ2 μ2) => some (.nx ρ2 μ2)
      | some (.rt w μ2) => some (.rt w μ2)
      | none => none
    | none => none
theorem whileR_ok {c : TT} {tb : TS} {t : RB} {b : RS} (ht : SnB K c t) (hb : SnS K tb b) : ∀ {n : Nat} {ρ : Env'} {μ : Mu} {o : Out}, whileR t b n ρ μ = some o → Wh K c tb n ρ μ o
  | 0, _, _, _, h => by cases h
  | n + 1, ρ, μ, o, h => by
    unfold whileR at h
    split at h
    · cases h; exact .stop (ht _ _ _ _ ‹_›)
    · split at h
      · exact .next (ht _ _ _ _ ‹_›) (hb _ _ _ ‹_›) (whileR_ok ht hb h)
      · exact .cont (ht _ _ _ _ ‹_›) (hb _ _ _ ‹_›) (whileR_ok ht hb h)
      · cases h; exact .brk (ht _ _ _ _ ‹_›) (hb _ _ _ ‹_›)
      · cases h; exact .ret (ht _ _ _ _ ‹_›) (hb _ _ _ ‹_›)
      · cases h
    · cases h
def fuel : Nat := 100000
def mWhile (t : RB) (b : RS) : RS := fun ρ μ => whileR t b fuel ρ μ
theorem sn_while {c : TT} {tb : TS} {t : RB} {b : RS} (ht : SnB K c t) (hb : SnS K tb b) : SnS K (tWhile c tb) (mWhile t b) := fun ρ μ o h => ex_while (whileR_ok ht hb h)
def lcR (g : RG) (t : RB) (e : RE) (c : Option (Nat × List D)) (ρ : Env') : List D → Mu → Option (List D × Mu)
  | [], μ => some ([], μ)
  | x :: xs, μ => match g (.val x) ρ with
    | some ρ1 => match t ρ1 μ with
      | some (false, μ1) => if standB c μ1 = true then lcR g t e c ρ xs μ1 else none
      | some (true, μ1) => match dat1 e ρ1 μ1 with
        | some (y, μ2) => if standB c μ2 = true then match lcR g t e c ρ xs μ2 with
          | some (ys, μ3) => some (y :: ys, μ3)
          | none => none
          else none
        | none => none
      | none => none
    | none => none
theorem lcR_ok {g : TG} {tt : TT} {te : TE} {m : RG} {t : RB} {e : RE} {c : Option (Nat × List D)} {vs : List Nat} {ρ : Env'} (hg : SnGc K g m vs) (ht : SnB K tt t) (he : SnE K te e) : ∀ {xs ys : List D} {μ μ' : Mu}, lcR m t e c ρ xs μ = some (ys, μ') → Lc K g tt te vs (stand c) ρ xs μ ys μ'
  | [], ys, μ, μ', h => by cases h; exact .nil
  | x :: xs, ys, μ, μ', h => by
    unfold lcR at h
    split at h
    · rename_i ρ1 e1
      have h1 := hg _ _ _ e1
      split at h
      · split at h
        · exact .skip h1 (ht _ _ _ _ ‹_›) (standB_ok ‹_›) (lcR_ok hg ht he h)
        · cases h
      · split at h
        · split at h
          · split at h
            · cases h
              exact .take h1 (ht _ _ _ _ ‹_›) (dat1_ok he ‹_›) (standB_ok ‹_›) (lcR_ok hg ht he ‹_›)
            · cases h
          · cases h
        · cases h
      · cases h
    · cases h
def mLc (i : RI) (g : RG) (t : RB) (e : RE) (vs : List Nat) : RE := fun ρ μ => match i ρ μ with
  | some (xs, c, μ1) => if xs.length ≤ LB then match lcR g t e c (wipeE ρ vs) xs μ1 with
    | some (ys, μ2) => some (.val (.lst ys), μ2)
    | none => none
    else none
  | none => none
theorem sn_lc {wi : TI} {g : TG} {tt : TT} {te : TE} {i : RI} {m : RG} {t : RB} {e : RE} {vs : List Nat} (hi : SnI K wi i) (hg : SnGc K g m vs) (ht : SnB K tt t) (he : SnE K te e) : SnE K (tLc wi g tt te vs) (mLc i m t e vs) := fun ρ μ w μ' h => by
  unfold mLc at h
  split at h
  · split at h
    · split at h
      · cases h; exact ev_lc (hi _ _ _ _ _ ‹_›) (lcR_ok hg ht he ‹_›) ‹_›
      · cases h
    · cases h
  · cases h
end
end DX
namespace DX
open PySem PySem.Spec PyProof.Rows L2 DK
abbrev FX := List W → Mu → Option (W × Mu)
def FX.phi (f : FX) : Phi := fun ws μ w μ' => f ws μ = some (w, μ')
abbrev spF (K : PySem.W.Frag) [HasW K] (f : FX) : Sp := spD K f.phi
def locTop : List W → Nat
  | [] => 0
  | .val _ :: r => locTop r
  | .loc j :: r => max (j + 1) (locTop r)
def preN (ws : List W) (μ : Mu) : Nat := if locTop ws ≤ μ.length ∧ (μ.take (locTop ws)).all (MO.below (locTop ws)) = true then locTop ws else μ.length
def callX (f : FX) (ws : List W) (μ : Mu) : Option (W × Mu) := match f ws (μ.take (preN ws μ)) with
  | some (w, μ') => if μ'.length = preN ws μ then some (w, μ' ++ μ.drop (preN ws μ)) else f ws μ
  | none => none
section
variable {K : PySem.W.Frag} [HasW K] {G H : Hp} {as : List Addr} {P : Addr → Prop} {ρ : Env'} {μ : Mu} {σ : L2.St}
def Rest (P : Addr → Prop) (as : List Addr) (G : Hp) (n : Nat) : Addr → Prop := fun a => P a ∨ (a ∈ as.drop n ∧ G a = none)
theorem not_both {α : Type} {l : List α} (nd : l.Nodup) {n : Nat} {a : α} (h : a ∈ l.drop n) : a ∉ l.take n := fun k => by
  have e := List.take_append_drop n l
  rw [← e] at nd
  exact (List.nodup_append.mp nd).2.2 a k a h rfl
theorem front (R : Rl K G H as P ρ μ σ) {n : Nat} (hn : n ≤ μ.length) (hb : ∀ m ∈ μ.take n, MO.below n m = true) : Rl K G H (as.take n) (Rest P as G n) [] (μ.take n) [] := by
  have hl : (μ.take n).length = n := by rw [List.length_take]; omega
  have R0 := R.drop (μ0 := μ.take n) (t := μ.drop n) (List.take_append_drop n μ).symm (fun m hm => by rw [hl]; exact hb m hm)
  rw [hl] at R0
  refine ⟨R0.sub, fun a ha => ?_, R0.nd, R0.len, R0.mu, R0.wf, R0.sz, R0.env, R.tb.mono (Same.refl _) R.tb.1 fun a t0 t1 t2 _ => ⟨fun z => z.elim t0 fun z => t2 (List.mem_of_mem_drop z.1), t1, fun z => t2 (List.mem_of_mem_take z), rfl⟩⟩
  rcases ha with ha | ⟨ha, hg⟩
  · exact R0.pro a ha
  · exact ⟨hg, R.here (List.mem_of_mem_drop ha), not_both R.nd ha⟩
theorem preN_ok (R : Rl K G H as P ρ μ σ) (ws : List W) : preN ws μ ≤ μ.length ∧ ∀ m ∈ μ.take (preN ws μ), MO.below (preN ws μ) m = true := by
  unfold preN
  split
  · rename_i h
    exact ⟨h.1, List.all_eq_true.mp h.2⟩
  · refine ⟨Nat.le_refl _, fun m hm => R.wf m (List.mem_of_mem_take hm)⟩
theorem locTop_rep {n : Nat} : ∀ {ws : List W} {vs : List V}, locTop ws ≤ n → RepWs K G as ws vs → RepWs K G (as.take n) ws vs
  | [], _, _, h => h
  | .val d :: ws, _, hn, ⟨v, r, e, h1, h2⟩ => ⟨v, r, e, h1, locTop_rep hn h2⟩
  | .loc j :: ws, _, hn, ⟨v, r, e, ⟨a, q1, q2⟩, h2⟩ => by
    have hj : j + 1 ≤ n := Nat.le_trans (Nat.le_max_left _ _) hn
    exact ⟨v, r, e, ⟨a, by rw [List.getElem?_take_of_lt (by omega)]; exact q1, q2⟩, locTop_rep (Nat.le_trans (Nat.le_max_right _ _) hn) h2⟩
theorem preN_rep (R : Rl K G H as P ρ μ σ) {ws : List W} {vs : List V} (h : RepWs K G as ws vs) : RepWs K G (as.take (preN ws μ)) ws vs := by
  unfold preN
  split
  · exact locTop_rep (Nat.le_refl _) h
  · rw [← R.len, List.take_length]
    exact h
theorem back (R : Rl K G H as P ρ μ σ) {n : Nat} (hn : n ≤ μ.length) {as' : List Addr} {G' H' : Hp} {μ' : Mu} (nx : Nx (Rest P as G n) (as.take n) G H as' G' H') (R' : Rl K G' H' as' (Rest P as G n) [] μ' []) (hl : μ'.length = n) :
    as' = as.take n ∧ Nx P as G H as G' H' ∧ Rl K G' H' as P ρ (μ' ++ μ.drop n) σ := by
  have la : (as.take n).length = n := by rw [List.length_take, R.len]; omega
  have ea : as' = as.take n := by
    obtain ⟨t, et⟩ := nx.pre
    have h1 := R'.len
    rw [et, List.length_append, la, hl] at h1
    have : t = [] := List.eq_nil_of_length_eq_zero (by omega)
    rw [et, this, List.append_nil]
  have pre : ∃ t, as = as' ++ t := ⟨as.drop n, by rw [ea, List.take_append_drop]⟩
  have hP : ∀ a, P a → Rest P as G n a := fun a h => .inl h
  refine ⟨ea, ⟨⟨[], by simp⟩, nx.gr, fun a ha => nx.kp a (hP a ha)⟩, ⟨R'.sub, fun a ha => ?_, R.nd, ?_, fun j a m h1 h2 => ?_, fun m hm => ?_, R.sz, fun i w hi => ?_, R'.tb.1, fun q hq => let z := R'.tb.2 q hq; ⟨fun y => z.1 (.inl y), z.2.1, (R.tb.2 q hq).2.2.1, z.2.2.2⟩⟩⟩
  · obtain ⟨h1, h2, _⟩ := R'.pro a (hP a ha)
    exact ⟨h1, h2, (R.pro a ha).2.2⟩
  · rw [List.length_append, hl, List.length_drop, R.len]; omega
  · by_cases hj : j < n
    · rw [List.getElem?_append_left (by omega)] at h2
      have q := R'.mu j a m (by rw [ea, List.getElem?_take_of_lt hj]; exact h1) h2
      exact q.mono (Same.refl _) id rfl pre
    · rw [List.getElem?_append_right (by omega), List.getElem?_drop, hl, show n + (j - n) = j by omega] at h2
      have ha : a ∈ as.drop n := by
        refine List.mem_of_getElem? (i := j - n) ?_
        rw [List.getElem?_drop, show n + (j - n) = j by omega]
        exact h1
      have q := R.mu j a m h1 h2
      refine q.mono nx.gr (fun g => (R'.pro a (.inr ⟨ha, g⟩)).1) ?_ ⟨[], by simp⟩
      cases hg : G a with
      | none => exact nx.kp a (.inr ⟨ha, hg⟩)
      | some o => rw [R'.sub _ _ (nx.gr _ _ hg), R.sub _ _ hg]
  · have ht : (μ' ++ μ.drop n).length = μ.length := by rw [List.length_append, hl, List.length_drop]; omega
    rw [ht]
    rcases List.mem_append.mp hm with h | h
    · exact below_mono hn (by have := R'.wf m h; rwa [hl] at this)
    · exact R.wf m (List.mem_of_mem_drop h)
  · obtain ⟨v, h1, h2⟩ := R.env i w hi
    exact ⟨v, h1, h2.mono nx.gr ⟨[], by simp⟩⟩
theorem call_fx {f : FX} {ws : List W} {vs : List V} {w : W} {μ1 : Mu} {Q : VK} {E : XK} (R : Rl K G H as P ρ μ σ) (r : RepWs K G as ws vs) (h : callX f ws μ = some (w, μ1))
    (q : ∀ v as' G' H', Nx P as G H as' G' H' → Rl K G' H' as' P ρ μ1 σ → RepW K G' as' w v → Q v H') : spF K f vs H Q E := by
  unfold callX at h
  split at h
  · rename_i w' μ' e
    obtain ⟨hn, hb⟩ := preN_ok R ws
    split at h
    · rename_i hl
      cases h
      have R1 := front R hn hb
      refine ⟨_, _, G, ws, _, w, μ', e, R1.args (preN_rep R r), fun v as' G' H' n R' rv => ?_⟩
      obtain ⟨ea, n2, R2⟩ := back R hn n R' hl
      exact q v as G' H' n2 R2 (rv.mono (Same.refl _) ⟨as.drop (preN ws μ), by rw [ea, List.take_append_drop]⟩)
    · exact call_phi (Φ := f.phi) R r h q
  · cases h
def mCall (f : FX) (dds : List D) (a : RA) : RE := fun ρ μ => match a ρ μ with
  | some (ws, μ1) => callX f (ws ++ dds.map W.val) μ1
  | none => none
theorem sn_call {f : FX} {dds : List D} {dvs : List V} {E : XK} {ta : TA} {a : RA} (ha : SnA K ta a) (hd : Dfl K dds dvs) : SnE K (tCall (spF K f) dvs E ta) (mCall f dds a) := fun ρ μ w μ' h => by
  unfold mCall at h
  split at h
  · exact fun P as σ G H R Q q => ha _ _ _ _ ‹_› P as σ G H R _ fun vs as1 G1 H1 n1 R1 r1 => call_fx R1 (r1.append (RepWs.vals.mpr (hd G1))) h fun v as2 G2 H2 n2 R2 r2 => q v as2 G2 H2 (n1.trans n2) R2 r2
  · cases h
def recvOk (c m : Str) (μ : Mu) : W → Bool
  | .val (.obj c' ns _) => decide (c' = c) && !ns.contains m
  | .loc j => match μ[j]? with
    | some (.ins c' fs) => decide (c' = c) && (fs.lookup m).isNone
    | _ => false
  | _ => false
def mMeth (c m : Str) (f : FX) (dds : List D) (o : RE) (a : RA) : RE := fun ρ μ => match o ρ μ with
  | some (w, μ1) => if recvOk c m μ1 w = true then match a ρ μ1 with
    | some (ws, μ2) => callX f (w :: (ws ++ dds.map W.val)) μ2
    | none => none
    else none
  | none => none
def mFld (c f : Str) (o : RE) : RE := fun ρ μ => match o ρ μ with
  | some (.val (.obj c' ns ds), μ1) => if c' = c then match ds[fpos f ns]? with
    | some d => some (.val d, μ1)
    | none => none
    else none
  | some (.loc j, μ1) => match μ1[j]? with
    | some (.ins c' fs) => if c' = c then match fs.lookup f with
      | some w => some (w, μ1)
      | none => none
      else none
    | _ => none
  | _ => none
def mFldS (c f : Str) (o e : RE) : RS := fun ρ μ => match e ρ μ with
  | some (w, μ1) => match o ρ μ1 with
    | some (.loc j, μ2) => match μ2[j]? with
      | some (.ins c' fs) => if c' = c ∧ fs.length < 100 ∧ w.below μ2.length = true then some (.nx ρ (μ2.set j (.ins c (putW f w fs)))) else none
      | _ => none
    | _ => none
  | none => none
def valsOf : List (Str × W) → Option (List Str × List D)
  | [] => some ([], [])
  | (f, .val d) :: r => match valsOf r with
    | some (ns, ds) => some (f :: ns, d :: ds)
    | none => none
  | _ => none
def makeX (c : Str) (f : FX) (ws : List W) (μ : Mu) : Option (W × Mu) := match f (.loc (preN ws μ) :: ws) (μ.take (preN ws μ) ++ [.ins c []]) with
  | some (.val .non, μ') => match μ'.drop (preN ws μ) with
    | [.ins c' fs] => if c' = c ∧ (μ'.take (preN ws μ)).all (MO.below (preN ws μ)) = true ∧ (μ'.take (preN ws μ)).length = preN ws μ then match valsOf fs with
      | some (ns, ds) => some (.val (.obj c ns ds), μ'.take (preN ws μ) ++ μ.drop (preN ws μ))
      | none => none
      else none
    | _ => none
  | _ => none
theorem Rl.weakP {P' : Addr → Prop} (R : Rl K G H as P' ρ μ σ) (h : ∀ a, P a → P' a) : Rl K G H as P ρ μ σ := R.weak h
def mMake (c : Str) (f : FX) (dds : List D) (a : RA) : RE := fun ρ μ => match a ρ μ with
  | some (ws, μ1) => makeX c f (ws ++ dds.map W.val) μ1
  | none => none
def frzRet (fz : Bool) (n : Nat) (w : W) (μ : Mu) : W × Mu := match fz, w with
  | true, .loc j => if j < n then (w, μ) else match frz1 μ (.loc j) with
    | some (d, μ1) => (.val d, μ1)
    | none => (w, μ)
  | _, _ => (w, μ)
def exitF (fz : Bool) (n : Nat) (w : W) (μ : Mu) : Option (W × Mu) := match frzRet fz n w μ with
  | (w1, μ1) => if n ≤ μ1.length then
      if w1.below n = true ∧ (μ1.take n).all (MO.below n) = true then some (w1, μ1.take n)
      else if w1.below μ1.length = true ∧ μ1.all (MO.below μ1.length) = true then some (w1, μ1) else none
    else none
def start (n : Nat) (ws : List W) : Env' := ws.map some ++ List.replicate (n - ws.length) none
def bodyF (fz : Bool) (k n : Nat) (m : RS) : FX := fun ws μ => if ws.length = k then match m (start n ws) μ with
  | some (.rt w μ1) => exitF fz μ.length w μ1
  | some (.nx _ μ1) => exitF fz μ.length (.val .non) μ1
  | _ => none
  else none
theorem ln_body {fz : Bool} {k n : Nat} {m : RS} {vs : List V} {H : Hp} {Q : VK} {E : XK} (h : spF K (bodyF fz k n m) vs H Q E) : vs.length = k := by
  obtain ⟨P, as, G, ws, μ, w, μ', hf, R, _⟩ := h
  have hz : ws.length = vs.length := by simpa using R.sz
  unfold FX.phi bodyF at hf
  split at hf
  · omega
  · cases hf
theorem frzRet_ok {fz : Bool} {n : Nat} {t : TS} {w w1 : W} {μ0 μ1 : Mu} (h : Ex K t ρ μ0 (.rt w μ)) (e : frzRet fz n w μ = (w1, μ1)) : Ex K t ρ μ0 (.rt w1 μ1) := by
  unfold frzRet at e
  split at e
  · split at e
    · cases e; exact h
    · split at e
      · rename_i hf
        cases e
        exact fun P as σ G H R E q => h P as σ G H R E fun v as' G' H' n' R' r' => by
          obtain ⟨G2, n2, R2, r2⟩ := frz1_ok R' r' hf
          exact q v as' G2 H' (n'.trans n2) R2 r2
      · cases e; exact h
  · cases e; exact h
theorem frzRet_non {fz : Bool} {n : Nat} : frzRet fz n (.val .non) μ = (.val .non, μ) := by
  unfold frzRet
  cases fz <;> rfl
theorem exit_ok {fz : Bool} {n : Nat} {w w' : W} {μ1 μ' : Mu} (h : exitF fz n w μ1 = some (w', μ')) : ∃ (μ2 : Mu), frzRet fz n w μ1 = (w', μ2) ∧ ∃ tail : Mu, n ≤ μ'.length ∧ w'.below μ'.length = true ∧ (∀ m : MO, m ∈ μ' → m.below μ'.length = true) ∧ μ2 = μ' ++ tail := by
  unfold exitF at h
  split at h
  rename_i w1 μ2 e
  split at h
  · rename_i hn
    split at h
    · rename_i hc
      cases h
      have hl : (μ2.take n).length = n := by rw [List.length_take]; omega
      refine ⟨μ2, e, μ2.drop n, by rw [hl]; exact Nat.le_refl _, by rw [hl]; exact hc.1, fun m hm => by rw [hl]; exact List.all_eq_true.mp hc.2 m hm, (List.take_append_drop n μ2).symm⟩
    · split at h
      · rename_i hc
        cases h
        exact ⟨_, e, [], hn, hc.1, List.all_eq_true.mp hc.2, by simp⟩
      · cases h
  · cases h
theorem fn_body {fz : Bool} {k n : Nat} {t : TS} {m : RS} (hm : SnS K t m) : FnD K t n (bodyF fz k n m).phi := ⟨fun ws μ w μ' h wf => by
  unfold FX.phi bodyF at h
  split at h
  case isFalse => cases h
  split at h
  · rename_i w0 μ1 e
    obtain ⟨μ2, e2, tail, h1, h2, h3, h4⟩ := exit_ok h
    refine ⟨tail, h1, h2, h3, .inl ?_⟩
    have := frzRet_ok (hm _ _ _ e) e2
    rw [h4] at this
    exact this
  · rename_i ρ1 μ1 e
    obtain ⟨μ2, e2, tail, h1, h2, h3, h4⟩ := exit_ok h
    rw [frzRet_non] at e2
    cases e2
    refine ⟨tail, h1, h2, h3, .inr ⟨rfl, ρ1, ?_⟩⟩
    have := hm _ _ _ e
    rw [h4] at this
    exact this
  · cases h⟩
end
end DX
namespace DX
open PySem PySem.Spec PyProof.Rows L2 DK
section
variable {K : PySem.W.Frag} [HasW K] {G H : Hp} {as : List Addr} {P : Addr → Prop} {ρ : Env'} {μ : Mu} {σ : L2.St}
def valOnly (ρ : Env') : Env' := ρ.map fun w => match w with
  | some (.val d) => some (.val d)
  | _ => none
def pv1 (e : RE) (ρ : Env') : Option D := match e (valOnly ρ) [] with
  | some (.val d, []) => some d
  | _ => none
end
end DX
namespace DX
open PySem PySem.Spec PyProof.Rows L2 DK
section
variable {K : PySem.W.Frag} [HasW K]
def showsB (d : D) : Bool := pyOk d && (toPy d).showable && decide ((toPy d).depth ≤ 60) && strsIn d && decide (showCost d ≤ SB)
theorem showsB_ok {d : D} (h : showsB d = true) : Shows d := by
  unfold showsB at h
  simp only [Bool.and_eq_true, decide_eq_true_eq] at h
  exact ⟨h.1.1.1.1, h.1.1.1.2, h.1.1.2, h.1.2, h.2⟩
def mReprC (neg : Bool) (a b : RE) : RE := fun ρ μ => match a ρ μ with
  | some (x, μ1) => match view μ1 x with
    | some d => if showsB d = true then match b ρ μ1 with
      | some (y, μ2) => match view μ2 y with
        | some e => if showsB e = true then some (.val (.bl (neg ^^ decide ((toPy d).shown = (toPy e).shown))), μ2) else none
        | none => none
      | none => none
      else none
    | none => none
  | none => none
theorem reprC_core {ta tb : TE} {a b : RE} {neg : Bool} {r : R2} (hr : ∀ (x y : Str) H Q, Q (.bl (neg ^^ decide (x = y))) H → r (.str x) (.str y) H Q) (ha : SnE K ta a) (hb : SnE K tb b) : SnE K (tOp r (tCB (rRepr K) (tCons ta tNil)) (tCB (rRepr K) (tCons tb tNil))) (mReprC neg a b) := fun ρ μ w μ' h => by
  unfold mReprC at h
  split at h
  · rename_i x μ1 e1
    split at h
    · rename_i d v1
      split at h
      · rename_i k1
        split at h
        · rename_i y μ2 e2
          split at h
          · rename_i e v2
            split at h
            · rename_i k2
              cases h
              have s1 := showsB_ok k1
              have s2 := showsB_ok k2
              exact fun P as σ G H R Q q => ha _ _ _ _ e1 P as σ G H R _ fun x' as1 G1 H1 n1 R1 r1 => ⟨x', toPy d, rfl, dp_ofT R1.sub s1.py (view_rep R1 r1 v1), s1.sh, noDict d, s1.dp, Nat.le_trans (shown_le d s1.st s1.sh) s1.sz,
                hb _ _ _ _ e2 P as1 σ G1 H1 R1 _ fun y' as2 G2 H2 n2 R2 r2 => ⟨y', toPy e, rfl, dp_ofT R2.sub s2.py (view_rep R2 r2 v2), s2.sh, noDict e, s2.dp, Nat.le_trans (shown_le e s2.st s2.sh) s2.sz,
                  hr _ _ _ _ (q _ as2 G2 H2 (n1.trans n2) R2 rfl)⟩⟩
            · cases h
          · cases h
        · cases h
      · cases h
    · cases h
  · cases h
theorem sn_reprNe {ta tb : TE} {a b : RE} (ha : SnE K ta a) (hb : SnE K tb b) : SnE K (tOp (rNee K) (tCB (rRepr K) (tCons ta tNil)) (tCB (rRepr K) (tCons tb tNil))) (mReprC true a b) :=
  reprC_core (fun x y H Q q => .inl ⟨rfl, by
    rw [dec_congr (show V.str x = V.str y ↔ x = y from ⟨fun e => by injection e, fun e => by rw [e]⟩)]
    rw [Bool.true_xor] at q
    exact q⟩) ha hb
def mRevM (a : RE) : RE := fun ρ μ => match dat1 a ρ μ with
  | some (.lst xs, μ1) => some (.loc μ1.length, μ1 ++ [.lst xs.reverse])
  | _ => none
theorem sn_revM {ta : TE} {a : RE} (ha : SnE K ta a) : SnE K (tRevL K ta) (mRevM a) := fun ρ μ w μ' h => by
  unfold mRevM at h
  split at h
  · cases h; exact ev_revM (dat1_ok ha ‹_›)
  · cases h
def mChain (f g : D → D → Option D) (a b c : RE) : RE := fun ρ μ => match dat1 a ρ μ with
  | some (x, μ1) => match dat1 b ρ μ1 with
    | some (y, μ2) => match f x y with
      | some (.bl true) => match dat1 c ρ μ2 with
        | some (z, μ3) => match g y z with
          | some (.bl l) => some (.val (.bl l), μ3)
          | _ => none
        | none => none
      | some (.bl false) => some (.val (.bl false), μ2)
      | _ => none
    | none => none
  | none => none
end
end DX
namespace DX
open PySem PySem.Spec L2 DK
section
variable {K : PySem.W.Frag} [HasW K] {ρ ρ1 ρ2 : Env'} {μ μ1 μ2 μ3 : Mu} {ta tb te tc : TE} {t u : TT} {w : W} {a b d : D} {r : R2} {i : Nat} {G H : Hp} {as : List Addr} {P : Addr → Prop} {σ : L2.St}
def mLcM (i : RI) (g : RG) (t : RB) (e : RE) (vs : List Nat) : RE := fun ρ μ => match i ρ μ with
  | some (xs, c, μ1) => if xs.length ≤ LB then match lcR g t e c (wipeE ρ vs) xs μ1 with
    | some (ys, μ2) => some (.loc μ2.length, μ2 ++ [.lst ys])
    | none => none
    else none
  | none => none
end
end DX
namespace DX
open PySem PySem.Spec L2 DK He
section
variable {K : PySem.W.Frag} [HasW K]
def TbIn (H : Hp) : Prop := ∀ p : Addr × Str, p ∈ HasW.ts K → ∃ ps : Array Value, H p.1 = some (.tbl ps) ∧ TriplesOk ps.toList ∧ ∀ (pos : Pos) (cv : Value), codeAmong pos ps.toList = some cv → ∃ c, cv = .ref c ∧ H c = some (LamX.CodeO c p.2)
def noTb (H : Hp) : Hp := fun b => match H b with
  | some (.tbl _) => none
  | o => o
theorem noTb_same {H : Hp} : Same (noTb H) H := fun b u h => by
  unfold noTb at h
  split at h
  · cases h
  · exact h
theorem noTb_at {H : Hp} {a : Addr} {o : HO} (h : H a = some o) (hn : ∀ ps, o ≠ .tbl ps) : noTb H a = some o := by
  unfold noTb
  rw [h]
  split
  · rename_i ps e
    exact absurd (Option.some.inj e) (hn ps)
  · rfl
theorem noTb_sql {H : Hp} {a : Addr} {xs : List V} (h : SqL K H a xs) : SqL K (noTb H) a xs := by
  rcases h with (h | ⟨o, h⟩) | h
  · exact .inl (.inl (noTb_at h fun ps z => by cases z))
  · exact .inl (.inr ⟨o, noTb_at h fun ps z => by cases z⟩)
  · exact .inr h
theorem law_spT {f : FX} {H : Hp} {a : Addr} {ns : List Int} (hf : f [.val (.scr ns)] [] = some (.val (.bl true), [])) (hs : SqL K H a (ns.map V.int)) (hT : TbIn (K := K) H) : spF K f [.ref a] H (fun v _ => v = .bl true) fun _ _ _ => False :=
  ⟨fun _ => False, [], noTb H, [.val (.scr ns)], [], .val (.bl true), [], hf, ⟨noTb_same, fun _ h => h.elim, List.nodup_nil, rfl, fun j a m h => by simp at h, fun m hm => by simp at hm, rfl, fun i w h => by
    match i, h with
    | 0, h =>
      simp at h
      subst h
      exact ⟨.ref a, rfl, a, rfl, noTb_sql hs⟩
    | i + 1, h => simp at h, ⟨fun b ps z => (by
    have e := noTb_same _ _ z
    unfold noTb at z
    rw [e] at z
    cases z), fun p hp => by
    obtain ⟨ps, h1, h2, h3⟩ := hT p hp
    refine ⟨fun z => z, ?_, by simp, ps, h1, h2, fun pos cv hc => ?_⟩
    · unfold noTb
      rw [h1]
    · obtain ⟨c, e1, e2⟩ := h3 pos cv hc
      exact ⟨c, e1, noTb_at e2 fun ps z => by cases z⟩⟩⟩, fun v as' G' H' _ _ r => r⟩
theorem law_spF {f : FX} {H : Hp} {a : Addr} {ns : List Int} (hf : f [.val (.scr ns)] [] = some (.val (.bl true), [])) (hs : SqL K H a (ns.map V.int)) (h0 : HasW.ts K = [] := by rfl) : spF K f [.ref a] H (fun v _ => v = .bl true) fun _ _ _ => False :=
  law_spT hf hs fun p hp => by
    rw [h0] at hp
    cases hp
end
end DX
namespace DX
open PySem PySem.Spec PyProof.Rows L2 DK
section
variable {K : PySem.W.Frag} [HasW K]
abbrev RT := W → Env' → Mu → Option (Env' × Mu)
abbrev RTs := List D → Env' → Mu → Option (Env' × Mu)
def uName (i : Nat) : RT := fun w ρ μ => some (ρ.set i (some w), μ)
def uFld (c f : Str) (o : RE) : RT := fun w ρ μ => match o ρ μ with
  | some (.loc j, μ1) => match μ1[j]? with
    | some (.ins c' fs) => if c' = c ∧ fs.length < 100 ∧ w.below μ1.length = true then some (ρ, μ1.set j (.ins c (putW f w fs))) else none
    | _ => none
  | _ => none
def uNil : RTs := fun ds ρ μ => match ds with
  | [] => some (ρ, μ)
  | _ => none
def uCons (g : RT) (r : RTs) : RTs := fun ds ρ μ => match ds with
  | d :: t => match g (.val d) ρ μ with
    | some (ρ1, μ1) => r t ρ1 μ1
    | none => none
  | [] => none
def uTup (n : Nat) (r : RTs) : RT := fun w ρ μ => match w with
  | .val (.tup ds) => if ds.length = n then r ds ρ μ else none
  | _ => none
def mAsgT (a : RE) (g : RT) : RS := fun ρ μ => match a ρ μ with
  | some (w, μ1) => match g w ρ μ1 with
    | some (ρ2, μ2) => some (.nx ρ2 μ2)
    | none => none
  | none => none
def setAll : List Nat → List W → Env' → Env'
  | i :: is, w :: ws, ρ => setAll is ws (ρ.set i (some w))
  | _, _, ρ => ρ
def mParN (is : List Nat) (r : RA) : RS := fun ρ μ => match r ρ μ with
  | some (ws, μ1) => if is.length = ws.length ∧ ws.length ≤ LB then some (.nx (setAll is ws ρ) μ1) else none
  | none => none
end
end DX
namespace DX
open PySem PySem.Spec PyProof.Rows L2 DK
section
variable {K : PySem.W.Frag} [HasW K]
def mExtend (a : RE) (r : RA) : RE := fun ρ μ => match a ρ μ with
  | some (.loc j, μ1) => match view μ1 (.loc j), r ρ μ1 with
    | some _, some ([w], μ2) => match μ2[j]?, view μ2 w with
      | some (.lst xs), some (.lst ys) => if xs.length + ys.length ≤ LB then some (.val .non, μ2.set j (.lst (xs ++ ys))) else none
      | _, _ => none
    | _, _ => none
  | _ => none
def mIndex (a : RE) (b : RE) : RE := fun ρ μ => match a ρ μ with
  | some (w, μ1) => match pv1 b ρ with
    | some (.str s) => match view μ1 w with
      | some (.lst xs) => match sOf xs with
        | some ss => if s ∈ ss then some (.val (.int (ss.idxOf s : Nat)), μ1) else none
        | none => none
      | _ => none
    | _ => none
  | none => none
def fmtF : D → Option D
  | .str y => some (.str y)
  | .int i => if i.natAbs.log2 < 1920 ∧ sOkB (toString i : String) = true then some (.str (toString i : String)) else none
  | _ => none
abbrev RJ := Str → Env' → Mu → Option (Str × Mu)
def jNil : RJ := fun acc _ μ => some (acc, μ)
def jCons (a : RE) (r : RJ) : RJ := fun acc ρ μ => match a ρ μ with
  | some (.val (.str y), μ1) => if (acc ++ y).length ≤ SB ∧ sOkB y = true then r (acc ++ y) ρ μ1 else none
  | _ => none
def mJoined (r : RJ) : RE := fun ρ μ => match r Str.empty ρ μ with
  | some (out, μ1) => some (.val (.str out), μ1)
  | none => none
end
end DX
namespace DX
open PySem PySem.Spec PyProof.Rows L2 DK
section
variable {prog : Program} {w : World} {A : Around} {E : Value → Shared → Prop} {s : Shared} {K : PySem.W.Frag} [HasW K] {x C f : Addr} {ox : Obj} {odd : Option Obj}
end
section
variable {X : Cx} {CX : CXT} {C g : Addr} {n : Nat} {sp : Sp} {fd : FuncData} {ps : List Str}
end
section
variable {K : PySem.W.Frag} [HasW K]
def isIns (c : Str) (μ : Mu) : W → Bool
  | .val (.obj c' _ _) => decide (c' = c)
  | .loc j => match μ[j]? with
    | some (.ins c' _) => decide (c' = c)
    | _ => false
  | _ => false
def mOwn1 (c : Str) (ok : D → Bool) (f : FX) (a : RE) : RE := fun ρ μ => match a ρ μ with
  | some (w, μ1) => if isIns c μ1 w = true then match callX f [w] μ1 with
    | some (.val d, μ2) => if ok d = true then some (.val d, μ2) else none
    | _ => none
    else none
  | none => none
def okStr : D → Bool
  | .str _ => true
  | _ => false
def mEqOwn (c : Str) (f : FX) (a b : RE) : RE := fun ρ μ => match a ρ μ with
  | some (x, μ1) => match b ρ μ1 with
    | some (y, μ2) => if isIns c μ2 x = true ∧ isIns c μ2 y = true then callX f [x, y] μ2 else none
    | none => none
  | none => none
end
end DX
namespace DX
open PySem PySem.Spec PyProof.Rows L2 DK
section
variable {prog : Program} {w : World} {A : Around} {E : Value → Shared → Prop} {s : Shared}
end
section
variable {X : Cx} {pos : Pos}
end
section
variable {K : PySem.W.Frag} [HasW K]
def mStar1 (i j : Nat) (a : RE) : RS := fun ρ μ => match a ρ μ with
  | some (w, μ1) => match view μ1 w with
    | some (.lst (d :: ds)) => some (.nx ((ρ.set i (some (.val d))).set j (some (.val (.lst ds)))) μ1)
    | _ => none
  | none => none
def mMakeL (i : Nat) (c : Str) (m : RE) : RE := fun ρ μ => match ρ[i]? with
  | some (some (.val (.cls c'))) => if c' = c then m ρ μ else none
  | _ => none
def mCMeth (c : Str) (f : FX) (dds : List D) (o : RE) (a : RA) : RE := fun ρ μ => match o ρ μ with
  | some (.val (.cls c'), μ1) => if c' = c then match a ρ μ1 with
    | some (ws, μ2) => callX f (.val (.cls c) :: (ws ++ dds.map W.val)) μ2
    | none => none
    else none
  | _ => none
end
end DX
namespace DX
open PySem PySem.Spec PyProof.Rows L2 DK He
structure DefY where
  ad : PySem.W.Frag → Addr
  d : DefD
  clo : List Str := []
abbrev FnZ : Type := Option (Str × Str × Arguments × FuncBody × Scope × Addr × List Str × Addr)
def DefY.val (y : DefY) : FnZ := some (y.d.name, y.d.qual, y.d.params, .stmts y.d.body, y.d.scope, mainGlobals, y.clo, builtinsNs)
def fnY (K : PySem.W.Frag) (a : Addr) : FnZ := match K.lookup a with
  | some ⟨_, _, .func fd, _⟩ => some (fd.name, fd.qualname, fd.params, fd.body, fd.scope, fd.globals, fd.closure.map Prod.fst, fd.builtins)
  | _ => none
def DefY.ok (K : PySem.W.Frag) (y : DefY) : Bool := PySem.W.keepIn K (.ref (y.ad K)) && (match K.lookup (y.ad K) with
  | some ⟨_, _, .func fd, _⟩ => PySem.W.codeIn K fd.code y.d.qual && (dflB K fd.defaults (y.d.dvs K) && kwdB K fd.kwdefaults (y.d.kws K))
  | _ => false)
theorem DefY.funD {K : PySem.W.Frag} {y : DefY} (hcl : y.clo = []) (e : fnY K (y.ad K) = y.val) (c : y.ok K = true) : ∃ fd, FunD K y.d.name y.d.qual y.d.params y.d.body y.d.scope (y.d.dvs K) (y.d.kws K) (y.ad K) fd := by
  obtain ⟨kp, c2⟩ := ba c
  unfold fnY at e
  cases q : K.lookup (y.ad K) with
  | none =>
    rw [q] at c2
    cases c2
  | some o =>
    obtain ⟨oc, od, dt, osl⟩ := o
    rw [q] at c2 e
    cases dt with
    | func fd =>
      obtain ⟨n1, n2, n3, n4, n5, n6, n7, n8, n9, n10, n11, n12, n13, n14, n15⟩ := fd
      have e2 : (some (n1, n2, n3, n4, n5, n6, n7.map Prod.fst, n15) : FnZ) = some (y.d.name, y.d.qual, y.d.params, .stmts y.d.body, y.d.scope, mainGlobals, y.clo, builtinsNs) := e
      simp only [Option.some.injEq, Prod.mk.injEq] at e2
      obtain ⟨h1, h2, h3, h4, h5, h6, h7, h8⟩ := e2
      rw [hcl, List.map_eq_nil_iff] at h7
      subst h1 h2 h3 h4 h5 h6 h7 h8
      have c3 : (PySem.W.codeIn K n13 y.d.qual && (dflB K n8 (y.d.dvs K) && kwdB K n9 (y.d.kws K))) = true := c2
      obtain ⟨k1, k2⟩ := ba c3
      obtain ⟨k3, k4⟩ := ba k2
      exact ⟨_, ⟨oc, od, n8, n9, n10, n11, n12, n13, n14, osl, rfl, q, k1, dflB_ok k3, kwdB_ok k4⟩, kp⟩
    | _ => cases c2
abbrev AlY : Type := Bool × List FnZ × List (Option (List (Option (Str × Int))))
structure SpecY where
  fa : List Fa
  fn : List DefY
  dc : List (Str × List Str)
  xb : PySem.W.Frag → Bool
def visitE : List Addr → Nat → List Addr → Nat × List Addr
  | [], m, out => (m, out)
  | a :: as, m, out => bif Nat.beq (Nat.mod (Nat.shiftRight m a) 2) 0 then visitE as (Nat.lor m (Nat.shiftLeft 1 a)) (a :: out) else visitE as m out
def growE (g : Addr → Option Obj) : Nat → List Addr → Nat → List Addr → List Addr
  | 0, _, _, acc => acc
  | n + 1, fr, m, acc => match visitE (fr.flatMap fun a => match g a with
      | some o => He.refsD o
      | none => []) m [] with
    | (m', new) => growE g n new m' (new ++ acc)
def asE (g : Addr → Option Obj) (n : Nat) : List Addr := growE g n [mainGlobals, cStatics] (2 ^ mainGlobals + 2 ^ cStatics) [mainGlobals, cStatics]
def obsYK (S : SpecY) (K : PySem.W.Frag) : AlY := ((S.fa.all fun f => f.ok K) && ((S.fn.all fun d => d.ok K) && S.xb K), S.fn.map fun d => fnY K (d.ad K), S.dc.map fun d => dicW K (ga K d.1))
def obsY (n : Nat) (S : SpecY) (g : Addr → Option Obj) : AlY := obsYK S (frG g (asE g n).reverse)
def valY (S : SpecY) (w : World) : AlY := (true, S.fn.map fun d => d.val, S.dc.map fun d => some (keysIn w.params d.2))
def SaysY (S : SpecY) (w : World) (K : PySem.W.Frag) : Prop := obsYK S K = valY S w
def hookY (n : Nat) (S : SpecY) : PySem.W.Hook where
  α := AlY
  obs := fun s => obsY n S s.heap.get?
  val := fun w => valY S w
  says := fun w h => ∃ K : PySem.W.Frag, K.In h ∧ SaysY S w K
  of := fun _ _ e => ⟨_, frG_in, e⟩
  keeps := fun _ _ _ ⟨K, hK, c⟩ k => ⟨K, PySem.W.Frag.In.keeps hK k, c⟩
theorem obsY_eq {n : Nat} {S : SpecY} {g : Addr → Option Obj} {s : Shared} (h : ∀ a, g a = s.heap.get? a) : obsY n S g = (hookY n S).obs s := by
  have e : g = s.heap.get? := funext h
  rw [e] <;> rfl
section
variable {S : SpecY} {w : World} {K : PySem.W.Frag}
theorem SaysY.b (c : SaysY S w K) : ((S.fa.all fun f => f.ok K) && ((S.fn.all fun d => d.ok K) && S.xb K)) = true := congrArg (fun z : AlY => z.1) c
theorem SaysY.fact (c : SaysY S w K) (i : Nat) {f : Fa} (h : S.fa[i]? = some f := by rfl) : f.ok K = true := List.all_eq_true.mp (ba c.b).1 f (List.mem_of_getElem? h)
theorem SaysY.x (c : SaysY S w K) : S.xb K = true := (ba (ba c.b).2).2
theorem SaysY.seen (c : SaysY S w K) (i : Nat) {y : DefY} (h : S.fn[i]? = some y := by rfl) : fnY K (y.ad K) = y.val ∧ y.ok K = true := by
  have e : S.fn.map (fun d => fnY K (d.ad K)) = S.fn.map fun d => d.val := congrArg (fun z : AlY => z.2.1) c
  have e2 : (S.fn.map fun d => fnY K (d.ad K))[i]? = (S.fn.map fun d => d.val)[i]? := by rw [e]
  rw [List.getElem?_map, List.getElem?_map, h] at e2
  exact ⟨Option.some.inj e2, List.all_eq_true.mp (ba (ba c.b).2).1 y (List.mem_of_getElem? h)⟩
theorem SaysY.def_ (c : SaysY S w K) (i : Nat) {y : DefY} (h : S.fn[i]? = some y := by rfl) (hcl : y.clo = [] := by rfl) : ∃ fd, FunD K y.d.name y.d.qual y.d.params y.d.body y.d.scope (y.d.dvs K) (y.d.kws K) (y.ad K) fd := by
  obtain ⟨e, k⟩ := c.seen i h
  exact DefY.funD hcl e k
theorem SaysY.dict (c : SaysY S w K) (i : Nat) {d : Str × List Str} (h : S.dc[i]? = some d := by rfl) : dicW K (ga K d.1) = some (keysIn w.params d.2) := by
  have e : S.dc.map (fun d => dicW K (ga K d.1)) = S.dc.map fun d => some (keysIn w.params d.2) := congrArg (fun z : AlY => z.2.2) c
  have e2 : (S.dc.map fun d => dicW K (ga K d.1))[i]? = (S.dc.map fun d => some (keysIn w.params d.2))[i]? := by rw [e]
  rw [List.getElem?_map, List.getElem?_map, h] at e2
  exact Option.some.inj e2
end
end DX
namespace DX
open PySem PySem.Spec PyProof.Rows L2 DK
section
variable {X : Cx} {d : Addr} {es : Array DictEntry} {n : Nat}
end
section
variable {K : PySem.W.Frag} [HasW K] {w : World}
def mKGet (kvs : List (Str × D)) (a : RE) : RE := fun ρ μ => match a ρ μ with
  | some (.val (.str z), μ1) => some (.val ((kvs.lookup z).getD .non), μ1)
  | _ => none
end
section
open He
variable {K : PySem.W.Frag} [HasW K]
end
end DX
namespace DK
open PySem PySem.Spec L2
theorem sup_call {X : Cx} {pins : List (Addr × Obj)} {σ : L2.St} {H : Hp} {s : Shared} {A : Around} {E : Value → Shared → Prop} {u a C : Addr} {us : List Value} {Q : Value → Shared → Prop} (T : OexC X.K C) (I : Inv X pins σ H s) (e : H a = some (exo a C none))
    (hu : s.heap.get? u = some (PySem.W.kxs_mw "ValueError.__init__" a)) (hl : us.length ≤ sizeLine) (h : ∀ s', Inv X pins σ H s' → Q .none s') : wpAny (model X.prog X.w) A (call (.ref u) us) Q E s := by
  obtain ⟨nm, q, N, bs, bm, sn, sub, ab, col, dd, k0, k1, k2, k3, k5, hC, hbm⟩ := T.cls
  obtain ⟨t1, ho⟩ := exo_at I.hok e
  have hC' := I.kIn _ _ hC
  obtain ⟨hp, g, d, t, os⟩ := s
  refine wpAny_call (codeAny_of_tree ?_)
  show wpAny _ A.in1 (callAny (.ref u) ⟨us, []⟩) _ _ _
  simp only [callAny]
  refine wpAny_bind (wpAny_load hu ?_)
  simp only [PySem.W.kxs_mw, show (Value.type "method-wrapper" == Value.type "method" || Value.type "method-wrapper" == Value.type "builtin_function_or_method" || Value.type "method-wrapper" == Value.type "method-wrapper") = true by decide, if_true]
  refine PySem.W.KFB.if_so (by decide) ?_
  refine wpAny_bind (PySem.W.check_bound_init F.excBase_ValueError.toExcCallFacts hC' ho rfl ?_)
  refine wpAny_bind (wpAny_pure (wpAny_pure ?_))
  refine ⟨plainId_quiet F.excBase_ValueError.init.plain _, codeAny_builtin F.excBase_ValueError.initEntry ?_⟩
  refine PySem.W.exc_init_tree (cls := .ref C) (t0 := t1) (dv := none) (c2 := .none) (c3 := .none) (b4 := .bool false) ho hl fun h' k hx _ => ?_
  have J := I.write (t' := t) (x := a) (e := a) (o := exo a C none) (by rw [e]; exact True.intro) (.inl rfl) k ⟨_, hx⟩ (exo_ok hx)
  have eu : upd H a (exo a C none) = H := by
    funext b
    by_cases hb : b = a
    · rw [hb, upd_same, e]
    · rw [upd_ne hb]
  rw [eu] at J
  exact h _ J
structure SupK (P : Program) (K : PySem.W.Frag) (D cc cda f : Addr) (fd : FuncData) : Prop where
  fn : ∃ oc od osl, K.lookup f = some ⟨oc, od, .func fd, osl⟩
  code : ∃ ccl cdd vs ccs file tf, K.lookup cda = some ⟨ccl, cdd, .fields vs, ccs⟩ ∧ vs[2]? = some (.str file tf) ∧ ((P.main.file : Str) == file) = true
  cell : ∃ cl cld csl, K.lookup cc = some ⟨cl, cld, .cell (some (.ref D)), csl⟩
  top : (P.main.scope.names.lookup ("super" : Str)).isSome = false
  any : PySem.W.nsIn K cStatics "thirdparty.any" = some none
structure SupC (K : PySem.W.Frag) (D : Addr) : Prop where
  cd : ∃ cdD, PySem.W.clsIn K D = some cdD
  self : PySem.W.mroIn K D (.ref D) = some true
  init : PySem.W.ks_superIn K D D "__init__" = some (some (.builtin "ValueError.__init__"))
  ve : PySem.W.subIn K (.ref D) (.type "ValueError") = some true
  x : OexC K D
theorem sup_exec {X : Cx} {body : List Stmt} {q : Str} {scope : Scope} {f cc cda D a L : Addr} {fd : FuncData} {ar : Arg} {σ : L2.St} {H : Hp} {s : Shared} {msg : Str} {j : Nat} {p0 p1 p2 p3 p4 p5 : Pos} {pl : Sem Bool} {E : Value → Shared → Prop}
    (henv : X.env = PySem.W.ksEnv q scope L f (.ref cda) cc) (SK : SupK X.prog X.K D cc cda f fd) (SC : SupC X.K D) (hp : (fd.params.posonlyargs ++ fd.params.args).head? = some ar) (hN : X.N[0]? = some ar.arg) (hks : scope.names.lookup ("super" : Str) = some .globalImplicit) (hkc : scope.names.lookup ("__class__" : Str) = some .free) (hka : scope.names.lookup ar.arg = some .local) (hk : scope.kind = .function) (hmg : X.mg "super" = none)
    (I : Inv X [] σ H s) (hσ : σ[0]? = some (some (.ref a))) (ha : H a = some (exo a D none)) (hc : eval (.Call (.Attribute (.Call (.Name "super" p0) [] [] p1) "__init__" p2) [.Constant (.str msg) j p3] [] p4) X.env = (do
      let ov ← attributeBase (.Call (.Name "super" p0) [] [] p1) "__init__" X.env (eval (.Call (.Name "super" p0) [] [] p1) X.env)
      standAt p2.atName
      let (g, first) ← holding [ov] (getMethod ov "__init__" pl)
      callWith p4 g first (backTo p4 (starEach [.Constant (.str msg) j p3] X.env)) []))
    (hin : interactive X.env = false) (hsw : swapsWith (.Call (.Attribute (.Call (.Name "super" p0) [] [] p1) "__init__" p2) [.Constant (.str msg) j p3] [] p4) none p5.line X.env = pure false) :
    _root_.PySem.wpAt (model X.prog X.w) X.A (.func body X.env) (exec (.Expr (.Call (.Attribute (.Call (.Name "super" p0) [] [] p1) "__init__" p2) [.Constant (.str msg) j p3] [] p4) p5) X.env) (fun fl s' => fl = .next ∧ Inv X [] σ H s') E s := by
  obtain ⟨oc, od, osl, hf⟩ := SK.fn
  obtain ⟨ccl, cdd, vs, ccs, file, tf, hcode, hvs, hfile⟩ := SK.code
  obtain ⟨cl, cld, csl, hcell⟩ := SK.cell
  obtain ⟨cdD, hD⟩ := SC.cd
  have K1 := I.kIn
  obtain ⟨oD, hD1, hD2⟩ : ∃ oD, s.heap.get? D = some oD ∧ oD.data = .cls cdD := by
    unfold PySem.W.clsIn at hD
    split at hD
    · rename_i c d cd' sl ho
      cases hD
      exact ⟨_, K1 _ _ ho, rfl⟩
    · cases hD
  obtain ⟨m, hns, hloc⟩ := I.loc
  have hka' : X.env.kindOf ar.arg = some .local := by rw [henv]; exact hka
  obtain ⟨u, hu, hl⟩ := hloc 0 ar.arg (.ref a) hN hσ (.inl (by rw [henv]; exact hka))
  obtain rfl : u = Value.ref a := hu
  have hm : m ar.arg = some (.ref a) := by
    rcases hl with ⟨_, h⟩ | ⟨h | h, _⟩
    · exact h
    · rw [hka'] at h; cases h
    · rw [hka'] at h; cases h
  obtain ⟨t1, ho⟩ := exo_at I.hok ha
  have hkk : X.env.scope.kind = .function := by rw [henv]; exact hk
  have hks' : X.env.kindOf "super" = some .globalImplicit := by rw [henv]; exact hks
  have hkc' : X.env.kindOf "__class__" = some .free := by rw [henv]; exact hkc
  have hfu : X.env.func = some f := by rw [henv]
  have hco : X.env.code = .ref cda := by rw [henv]
  have hcc : X.env.cells.lookup ("__class__" : Str) = some cc := by rw [henv]; rfl
  obtain ⟨mb, b1, b2⟩ := I.mod.blt
  refine PySem.ks_wpAt_Expr_any (PySem.ks_wpAt_MethodCall (PySem.ks_wpAt_super_base hks' hkc' (by decide) hfu (K1 _ _ hf) rfl hp hco (K1 _ _ hcode) rfl hvs hfile SK.top ?_) hc) hin hsw
  refine PySem.W.ks_loadName_global hkk hks' (Calls.loadGlobal_builtin (by rw [I.ok.glob]; exact I.mod.glob.keeps I.bk) hmg (by rw [I.ok.blt]; exact b1.keeps I.bk) ((b2 _ (by decide)).trans PyProof.Rows.Boot.«super») ⟨rfl, ?_⟩)
  refine wpAny_loadName_free hkk hkc' hcc ⟨_, K1 _ _ hcell, rfl⟩ ?_
  refine wpAny_loadName_local hkk hka' hns hm ?_
  refine PySem.ks_wpAny_isType_cls hD1 hD2 ⟨rfl, ?_⟩
  obtain ⟨hp1, g, d, t, os⟩ := s
  refine PySem.ks_wpAny_call_super hD1 hD2 ho rfl (fun c e => by cases e) (PySem.W.looks_mroIn K1 SC.self) (fun h2 e2 k2 => ?_)
  have I2 : Inv X [] σ H ⟨h2, g, d, t, os⟩ := I.kept k2
  have K2 := I2.kIn
  have IA : PySem.W.InstAt h2 a ({ cls := .ref D, dict := none, data := .fields #[.ref t1, .none, .none, .none, .bool false, .none] } : Obj) D none := ⟨k2 _ _ ho, rfl, rfl, trivial⟩
  have hi : PySem.W.Looks (model X.prog X.w) h2 (isInstance (.ref a) (.type "ValueError")) true := IA.type.andThen (PySem.W.looks_subIn K2 SC.ve)
  have hsi := SC.init
  unfold PySem.W.ks_superIn at hsi
  rw [hD] at hsi
  have haD : a ≠ D := PySem.W.ks_ne K2 IA hD
  refine PySem.W.kxs_getMethod PySem.W.kxs_ValueError e2 (PySem.W.looks_opaque K2 SK.any) (l₀ := cdD.mro) ?_ rfl K2 hsi hi haD (by decide) ?_
  · exact fun A Q E s k q => wpAny_bind ((PySem.W.looks_clsIn K2 hD) A _ E s k (wpAny_pure q))
  have k3 : ∀ b o, h2.get? b = some o → (h2.push (PySem.W.kxs_mw "ValueError.__init__" a)).get? b = some o := fun b o e => Heap.get?_push_of_some _ e
  have I3 : Inv X [] σ H ⟨h2.push (PySem.W.kxs_mw "ValueError.__init__" a), g, d, t + 1, os⟩ := I2.kept (t' := t + 1) k3
  have hu3 : (h2.push (PySem.W.kxs_mw "ValueError.__init__" a)).get? h2.objs.size = some (PySem.W.kxs_mw "ValueError.__init__" a) := Heap.get?_push_at rfl rfl
  refine PySem.W.kxs_callWith (i := "ValueError.__init__") (x := a) rfl (Calls.evalArgs_plain (Calls.spliced_cons (Calls.Constant_str (k := j) (pos := p3) (Calls.spliced_nil ⟨hu3, ?_⟩))))
  exact sup_call SC.x (I3.tok _) ha hu3 (by rw [sizeLine_eq]; show 1 ≤ _; omega) fun s' J => ⟨rfl, J⟩
structure SupScope (N ps : List Str) (sc : Scope) : Prop where
  kind : sc.kind = .function
  co : sc.isCoroutine = false
  gen : sc.isGenerator = false
  nd : N.Nodup
  pre : N.take ps.length = ps
  par : ∀ x ∈ ps, sc.names.lookup x = some .local
  fr : ∀ y ∈ sc.names, y.2 = .free → y.1 = ("__class__" : Str)
  nocell : ∀ y ∈ sc.names, y.2 ≠ .cell
  sup : sc.names.lookup ("super" : Str) = some .globalImplicit
  cl : sc.names.lookup ("__class__" : Str) = some .free
def cxS (CX : CXT) (P : Program) (w : World) (K : PySem.W.Frag) (mg : Str → Option Value) (base : Heap) (N : List Str) (qual : Str) (scope : Scope) (f cda cc : Addr) (A : Around) (outer : List Env) (s : Shared) (H : Hp) (E : XK) : Cx where
  prog := P
  w := w
  K := K
  mg := mg
  base := base
  A := A.deeper (PySem.W.ksEnv qual scope s.heap.objs.size f (.ref cda) cc)
  N := N
  s_0 := s
  H_0 := H
  env := PySem.W.ksEnv qual scope s.heap.objs.size f (.ref cda) cc
  outer := outer
  stack := PySem.W.ksEnv qual scope s.heap.objs.size f (.ref cda) cc :: outer
  ex := []
  calm := true
  fn := fun _ => false
  pn := []
  xe := fun e s' => wpAny (model P w) (A.deeper (PySem.W.ksEnv qual scope s.heap.objs.size f (.ref cda) cc)) (leaving (PySem.W.ksEnv qual scope s.heap.objs.size f (.ref cda) cc) e) (fun _ s2 => CX outer H s E e s2) (fun e' s2 => CX outer H s E e' s2) s'
theorem one_cell {x : Str} {cc c : Addr} (h : ([(("__class__" : Str), cc)] : List (Str × Addr)).lookup x = some c) : x = "__class__" ∧ c = cc := by
  rw [List.lookup_cons] at h
  by_cases q : x = "__class__"
  · have : (x == ("__class__" : Str)) = true := by simpa using q
    rw [this] at h
    exact ⟨q, (Option.some.inj h).symm⟩
  · have : (x == ("__class__" : Str)) = false := by simpa using q
    rw [this] at h
    cases h
theorem inv_startS {CX : CXT} {P : Program} {w : World} {K : PySem.W.Frag} {mg : Str → Option Value} {base : Heap} {N ps : List Str} {qual : Str} {scope : Scope} {f cda cc : Addr} {A : Around} {outer : List Env} {s : Shared} {H : Hp} {E : XK} {us : List Value} {vs : List V} {h1 : Heap} {tk : Nat} {cv : Value}
    (S : SupScope N ps scope) (hd : A.handled = none) (e0 : Env0 P w K mg base A outer s H) (hl : vs.length = ps.length) (r : Vals vs us) (hcell : ∃ cl cld csl, base.get? cc = some ⟨cl, cld, .cell (some cv), csl⟩)
    (hns : h1.Ns s.heap.objs.size (fun y => (ps.zip us).reverse.lookup y)) (hk : ∀ b o, s.heap.get? b = some o → h1.get? b = some o) :
    Inv (cxS CX P w K mg base N qual scope f cda cc A outer s H E) [] (L2.start N vs) H { s with heap := h1, toks := tk } := by
  have hpl : ps.length ≤ N.length := by have := congrArg List.length S.pre; rw [List.length_take] at this; omega
  have noA : ∀ b : Addr, b ∉ (cxS CX P w K mg base N qual scope f cda cc A outer s H E).ex := fun b z => absurd (show b ∈ ([] : List Addr) from z) (by simp)
  obtain ⟨cl, cld, csl, hc0⟩ := hcell
  have hc1 := e0.bs cc _ hc0
  have ndP : ps.Nodup := by rw [← S.pre]; exact S.nd.sublist (List.take_sublist _ _)
  have loc : ∀ (i : Nat) (x : Str) (v : V), N[i]? = some x → (L2.start N vs)[i]? = some (some v) → ∃ u, RelV v u ∧ scope.names.lookup x = some .local ∧ (ps.zip us).reverse.lookup x = some u := fun i y v g1 g2 => by
    have hi : i < vs.length := by
      unfold L2.start at g2
      by_cases hi : i < vs.length
      · exact hi
      · rw [List.getElem?_append_right (by simpa using hi), List.getElem?_replicate] at g2
        split at g2 <;> cases g2
    have ha : vs[i]? = some v := by
      unfold L2.start at g2
      rw [List.getElem?_append_left (by simpa using hi), List.getElem?_map] at g2
      cases e : vs[i]? with
      | none => rw [e] at g2; cases g2
      | some a => rw [e] at g2; cases g2; rfl
    obtain ⟨u, hu, rv⟩ := r.get ha
    have hp : ps[i]? = some y := by
      rw [← S.pre, List.getElem?_take_of_lt (by omega)]
      exact g1
    have k := S.par y (List.mem_of_getElem? hp)
    refine ⟨u, rv, k, ?_⟩
    have q := bindL_get (kindOf := fun z => scope.names.lookup z) (m := fun _ => none) ndP hp hu k
    rw [bindL_loc (ps.zip us) (fun _ => none) (fun z hz => S.par z.1 (List.of_mem_zip hz).1)] at q
    simpa using q
  refine ⟨⟨e0.mod, S.kind, rfl, rfl, Nat.le_refl _, fun x y c g1 g2 => (one_cell g1).1.trans (one_cell g2).1.symm, fun x g => ?_, fun x c g _ => Bool.noConfusion (show false = true from g), fun _ => hd, Around.frames_deeper e0.frames, .inr ⟨rfl, rfl⟩, fun b z => absurd z (noA b), e0.bs, e0.bsz, fun b _ _ => noA b, fun b z => absurd z (noA b), e0.funs, e0.frf⟩,
    rfl, e0.bare, Un.kept hk, ⟨_, hns, fun i x v g1 g2 _ => ?_⟩, fun x c g => ?_, e0.hok.fresh (Nat.le_refl _), fun x c g => ?_, fun p hp => absurd (show p ∈ ([] : List (Addr × Obj)) from hp) (by simp), e0.hok.kept hk, ?_⟩
  · have g : scope.names.lookup x = some .cell ∨ scope.names.lookup x = some .free := g
    rcases g with g | g
    · exact absurd rfl (S.nocell _ (PySem.mem_of_lookup g))
    · have e : x = "__class__" := S.fr _ (PySem.mem_of_lookup g) rfl
      exact ⟨cc, by rw [e]; rfl⟩
  · obtain ⟨u, rv, k, q⟩ := loc i x v g1 g2
    exact ⟨u, rv, .inl ⟨k, q⟩⟩
  · rw [(one_cell g).2]
    exact ⟨some cv, _, hk _ _ hc1.1, rfl⟩
  · rw [(one_cell g).2]
    exact hc1.2
  · unfold L2.start
    show _ = N.length
    rw [List.length_append, List.length_map, List.length_replicate]
    omega
theorem fn_sup {CX : CXT} {P : Program} {w : World} {K : PySem.W.Frag} {mg : Str → Option Value} {base : Heap} {k : Nat} {f D cc cda : Addr} {name qual : Str} {params : Arguments} {rest : List Stmt} {scope : Scope} {dV kV doc pm ct : Value} {an : Option Addr} {N ps : List Str} {sp : Sp} {ar : Arg} {msg : Str} {j : Nat} {p0 p1 p2 p3 p4 p5 : Pos} {pl : Sem Bool}
    (SK : SupK P K D cc cda f (PySem.W.ksFn name qual params (.Expr (.Call (.Attribute (.Call (.Name "super" p0) [] [] p1) "__init__" p2) [.Constant (.str msg) j p3] [] p4) p5 :: rest) scope dV kV doc pm an (.ref cda) ct cc)) (SC : SupC K D) (hcd : PySem.W.codeIn K (.ref cda) qual = true) (S : SupScope N ps scope) (hmg : mg "super" = none)
    (hp : (params.posonlyargs ++ params.args).head? = some ar) (hps : ps[0]? = some ar.arg)
    (hc : ∀ L, eval (.Call (.Attribute (.Call (.Name "super" p0) [] [] p1) "__init__" p2) [.Constant (.str msg) j p3] [] p4) (PySem.W.ksEnv qual scope L f (.ref cda) cc) = (do
      let ov ← attributeBase (.Call (.Name "super" p0) [] [] p1) "__init__" (PySem.W.ksEnv qual scope L f (.ref cda) cc) (eval (.Call (.Name "super" p0) [] [] p1) (PySem.W.ksEnv qual scope L f (.ref cda) cc))
      standAt p2.atName
      let (g, first) ← holding [ov] (getMethod ov "__init__" pl)
      callWith p4 g first (backTo p4 (starEach [.Constant (.str msg) j p3] (PySem.W.ksEnv qual scope L f (.ref cda) cc))) []))
    (hin : ∀ L, interactive (PySem.W.ksEnv qual scope L f (.ref cda) cc) = false) (hsw : ∀ L, swapsWith (.Call (.Attribute (.Call (.Name "super" p0) [] [] p1) "__init__" p2) [.Constant (.str msg) j p3] [] p4) none p5.line (PySem.W.ksEnv qual scope L f (.ref cda) cc) = pure false)
    (len : ∀ vs H Q E, sp vs H Q E → vs.length = ps.length)
    (hbody : ∀ (A : Around) (outer : List Env) (s : Shared) (H : Hp) (vs : List V) (Q : VK) (E : XK), Room k (A.deeper (PySem.W.ksEnv qual scope s.heap.objs.size f (.ref cda) cc)) → sp vs H Q E →
      (∃ a r, vs = .ref a :: r ∧ H a = some (exo a D none)) ∧ ∃ t, PSs (cxS CX P w K mg base N qual scope f cda cc A outer s H E) rest t ∧ t { nx := fun _ H' => Q .non H', rt := Q } (L2.start N vs) H) :
    FnOk P w K mg base CX (k + 1) f (PySem.W.ksFn name qual params (.Expr (.Call (.Attribute (.Call (.Name "super" p0) [] [] p1) "__init__" p2) [.Constant (.str msg) j p3] [] p4) p5 :: rest) scope dV kV doc pm an (.ref cda) ct cc) ps sp := by
  refine ⟨len, fun A outer s H args us vs Q E hr e0 hb r hsp => ?_⟩
  have hl := len _ _ _ _ hsp
  have kb : ∀ b o, base.get? b = some o → s.heap.get? b = some o := fun b o e => (e0.bs b o e).1
  have KX : K.In s.heap := e0.mod.kin.keeps kb
  have lim : s.heap.NoLimit := e0.mod.nolimit.keeps kb
  obtain ⟨oc, od, osl, hf⟩ := SK.fn
  obtain ⟨cl, cld, csl, hcell⟩ := SK.cell
  have hnd : N[0]? = some ar.arg := by
    have hp0 := hps
    rw [← S.pre] at hp0
    by_cases q : 0 < ps.length
    · rw [List.getElem?_take_of_lt q] at hp0
      exact hp0
    · rw [List.getElem?_eq_none (by rw [List.length_take]; omega)] at hp0
      cases hp0
  refine ks_codeAny_call_defAt (R := CR CX outer P w H s Q E) hr.depth (KX _ _ hf) rfl lim (PySem.W.codeRec_of KX hcd) rfl hb S.nocell (fun x hx => S.par x.1 (List.of_mem_zip hx).1) (fun h1 hns hk1 => ?_) S.co S.gen S.kind
  obtain ⟨⟨a, vr, ev, ha⟩, t, ht, hq⟩ := hbody A outer s H vs Q E (hr.deeper _) hsp
  have I : Inv (cxS CX P w K mg base N qual scope f cda cc A outer s H E) [] (L2.start N vs) H { s with heap := h1, toks := s.toks + (ps.zip us).length } := inv_startS S hr.hd e0 hl r ⟨cl, cld, csl, e0.mod.kin _ _ hcell⟩ hns hk1
  refine ks_wpAt_execs_cons (ks_wpAt_mono (sup_exec (X := cxS CX P w K mg base N qual scope f cda cc A outer s H E) (ar := ar) rfl SK SC hp hnd S.sup S.cl (S.par _ (List.mem_of_getElem? hps)) S.kind hmg I (by rw [ev]; unfold L2.start; rfl) ha (hc _) (hin _) (hsw _)) (fun fl s' hs => ?_) fun _ _ x => x)
  obtain ⟨e, J⟩ := hs
  subst e
  refine wpAt_of_wpAny (wpAny_mono (ht.run [] s' (L2.start N vs) H _ J hq) (fun fl s2 hs => ?_) fun e s2 hs => hs)
  have fin : ∀ {σ' : L2.St} {H' : Hp} {v : V} {u : Value}, Inv (cxS CX P w K mg base N qual scope f cda cc A outer s H E) [] σ' H' s2 → RelV v u → Q v H' → CE outer P w H s Q u s2 :=
    fun {σ' H' v u} J rv q => ⟨v, H', J.os, J.bare, J.base, J.hok, rv, q⟩
  cases fl with
  | ret u =>
    obtain ⟨v, σ', H', J, rv, q⟩ := hs
    exact fin J rv q
  | next =>
    obtain ⟨σ', H', J, q⟩ := hs
    exact fin (v := V.non) (u := Value.none) J rfl q
  | brk =>
    obtain ⟨_, _, _, q⟩ := hs
    exact False.elim q
  | cont =>
    obtain ⟨_, _, _, q⟩ := hs
    exact False.elim q
end DK
namespace DK
open PySem PySem.Spec L2
def spXI (K : PySem.W.Frag) (C : Addr) (f : Str) : Sp := fun vs H Q _ => ∃ a v, vs = [.ref a, v] ∧ H a = some (exo a C none) ∧ ∀ dx, H dx = none → dx ≠ a → Q .non (upd (upd H dx (exd dx [(f, v)])) a (exo a C (some dx)))
theorem xinit_rd {K : PySem.W.Frag} {C : Addr} {f : Str} (T : OexC K C) (hno : PySem.W.findIn K (.ref C) f = some none) {N : List Str} {vs : List V} {H : Hp} {Q : VK} {E : XK} (h : spXI K C f vs H Q E) : tOst K f (tVar 0) (tVar 1) { nx := fun _ H' => Q .non H', rt := Q } (L2.start N vs) H := by
  obtain ⟨a, v, rfl, ha, q⟩ := h
  refine ⟨v, rfl, .ref a, rfl, a, C, rfl, T, hno, .inl ⟨ha, fun dx hdx ne => q dx hdx ne⟩⟩
theorem xinit_at {K : PySem.W.Frag} {C : Addr} {f : Str} {vs : List V} {H : Hp} {Q : VK} {E : XK} (h : spXI K C f vs H Q E) : ∃ a r, vs = .ref a :: r ∧ H a = some (exo a C none) := by
  obtain ⟨a, v, rfl, ha, _⟩ := h
  exact ⟨a, [v], rfl, ha⟩
theorem len_xi {K : PySem.W.Frag} {C : Addr} {f : Str} {vs : List V} {H : Hp} {Q : VK} {E : XK} (h : spXI K C f vs H Q E) : vs.length = 2 := by
  obtain ⟨a, v, rfl, _⟩ := h
  rfl
section
variable {X : Cx} {CXg : CXT} {k : Nat} {f C : Addr} {fd : FuncData} {ps : List Str} {sp : Sp} {E : L2.St → XK} {m : Str} {p pos apos : Pos} {e o : Expr} {es : List Expr} {ta : TE} {t : TA} {pl : Sem Bool}
end
end DK
namespace DX
open PySem PySem.Spec PyProof.Rows L2 DK He
def oexB (K : PySem.W.Frag) (C : Addr) : Bool := (match K.lookup C with
  | some ⟨.type "type", _, .cls cd, sl⟩ => (match cd.mro, sl.toList with
    | .ref C2 :: bm, [_, _, _, _, some (.builtin n), _] => (C2 == C && n == "ValueError.__new__") && ((!cd.hasDel && cd.hasDict) && PySem.HandSPX.refsVE bm)
    | _, _ => false)
  | _ => false) && (decide (PySem.W.findIn K (.ref C) "__setattr__" = some (some (.builtin "object.__setattr__"))) && (decide (PySem.W.subIn K (.ref C) (.type "BaseException") = some true) && (decide (PySem.W.typeIn K (.ref C) = some (.type "type")) && PySem.W.keepIn K (.ref C))))
theorem oexB_ok {K : PySem.W.Frag} [HasW K] {C : Addr} (h : oexB K C = true) : OexC K C := by
  obtain ⟨h1, h⟩ := Bool.and_eq_true_iff.mp h
  obtain ⟨h2, h⟩ := Bool.and_eq_true_iff.mp h
  obtain ⟨h3, h⟩ := Bool.and_eq_true_iff.mp h
  obtain ⟨h4, h5⟩ := Bool.and_eq_true_iff.mp h
  refine ⟨?_, of_decide_eq_true h2, of_decide_eq_true h3, of_decide_eq_true h4, h5⟩
  split at h1
  · rename_i dd cd sl ho
    split at h1
    · rename_i C2 bm k0 k1 k2 k3 n k5 hm hs
      simp only [Bool.and_eq_true, beq_iff_eq, Bool.not_eq_true'] at h1
      obtain ⟨⟨rfl, rfl⟩, ⟨hdel, hdict⟩, hve⟩ := h1
      obtain ⟨nm, bs, mro, ns, qn, hd, sn, sub, ab, col, del⟩ := cd
      dsimp only at hm hdel hdict
      subst hm hdel hdict
      have hsl : sl = #[k0, k1, k2, k3, some (.builtin "ValueError.__new__"), k5] := by
        obtain ⟨l⟩ := sl
        simp only at hs
        rw [hs]
      subst hsl
      exact ⟨nm, qn, ns, bs, bm, sn, sub, ab, col, dd, k0, k1, k2, k3, k5, ho, hve⟩
    · cases h1
  · cases h1
def supcB (K : PySem.W.Frag) (D : Addr) : Bool := (PySem.W.clsIn K D).isSome && (decide (PySem.W.mroIn K D (.ref D) = some true) && (decide (PySem.W.ks_superIn K D D "__init__" = some (some (.builtin "ValueError.__init__"))) && (decide (PySem.W.subIn K (.ref D) (.type "ValueError") = some true) && oexB K D)))
theorem supcB_ok {K : PySem.W.Frag} [HasW K] {D : Addr} (h : supcB K D = true) : SupC K D := by
  obtain ⟨h1, h⟩ := Bool.and_eq_true_iff.mp h
  obtain ⟨h2, h⟩ := Bool.and_eq_true_iff.mp h
  obtain ⟨h3, h⟩ := Bool.and_eq_true_iff.mp h
  obtain ⟨h4, h5⟩ := Bool.and_eq_true_iff.mp h
  exact ⟨Option.isSome_iff_exists.mp h1, of_decide_eq_true h2, of_decide_eq_true h3, of_decide_eq_true h4, oexB_ok h5⟩
def excB (K : PySem.W.Frag) (D : Addr) : Bool := decide (PySem.W.findIn K (.ref D) "__getattribute__" = some (some (.builtin "BaseException.__getattribute__"))) && (decide (PySem.W.findIn K (.ref D) "__getattr__" = some none) && (decide (PySem.W.subIn K (.ref D) (.type "BaseException") = some true) && (PySem.W.hasDictIn K D && (decide (PySem.W.findIn K (.ref D) "__class__" = some (some (.builtin "object.__class__"))) && (decide (PySem.W.specialIn K (.builtin "object.__class__") "__get__" = some (some (.builtin "getset_descriptor.__get__"))) && (decide (PySem.W.takesIn K (.builtin "object.__class__") = some true) && (decide (PySem.W.mroIn K D (.type "object") = some true) && decide (PySem.W.exmOne K (.ref D) (.ref D) = some true))))))))
theorem excB_ok {K : PySem.W.Frag} [HasW K] {D : Addr} (h : excB K D = true) : ExcC K D ∧ XfC K D ∧ PySem.W.exmOne K (.ref D) (.ref D) = some true := by
  unfold excB at h
  simp only [Bool.and_eq_true, decide_eq_true_eq] at h
  obtain ⟨h1, h2, h3, h4, h5, h6, h7, h8, h9⟩ := h
  exact ⟨⟨h1, h2, h3, h4, h5, h6, h7, h8⟩, ⟨h1, h2, h3, h4⟩, h9⟩
def noaB (K : PySem.W.Frag) (C : Addr) (f : Str) : Bool := decide (PySem.W.findIn K (.ref C) f = some none)
theorem noaB_ok {K : PySem.W.Frag} [HasW K] {C : Addr} {f : Str} (h : noaB K C f = true) : PySem.W.findIn K (.ref C) f = some none := of_decide_eq_true h
def iniB (K : PySem.W.Frag) (C f : Addr) : Bool := decide (PySem.W.findIn K (.ref C) "__init__" = some (some (.ref f))) && decide (PySem.W.typeIn K (.ref f) = some (.type "function"))
theorem iniB_ok {K : PySem.W.Frag} [HasW K] {C f : Addr} (h : iniB K C f = true) : PySem.W.findIn K (.ref C) "__init__" = some (some (.ref f)) ∧ PySem.W.typeIn K (.ref f) = some (.type "function") := by
  obtain ⟨h1, h2⟩ := Bool.and_eq_true_iff.mp h
  exact ⟨of_decide_eq_true h1, of_decide_eq_true h2⟩
def supkB (K : PySem.W.Frag) (file : Str) (D f : Addr) : Bool := match K.lookup f with
  | some ⟨_, _, .func fd, _⟩ => (match fd.closure, fd.code with
    | [(n, cc)], .ref cda => n == ("__class__" : Str) && ((match K.lookup cda with
      | some ⟨_, _, .fields vs, _⟩ => (match vs.toList with
        | _ :: _ :: .str g _ :: _ => file == g
        | _ => false)
      | _ => false) && ((match K.lookup cc with
      | some ⟨_, _, .cell (some (.ref D2)), _⟩ => D2 == D
      | _ => false) && decide (PySem.W.nsIn K cStatics "thirdparty.any" = some none)))
    | _, _ => false)
  | _ => false
structure SupP (P : Program) (file : Str) : Prop where
  top : (P.main.scope.names.lookup ("super" : Str)).isSome = false
  file : P.main.file = file
structure FunS (K : PySem.W.Frag) (file : Str) (D : Addr) (x qual : Str) (params : Arguments) (body : List Stmt) (scope : Scope) (f : Addr) (fd : FuncData) : Prop where
  ex : ∃ (cc cda : Addr) (kV doc pm ct : Value) (an : Option Addr), fd = PySem.W.ksFn x qual params body scope .none kV doc pm an (.ref cda) ct cc ∧ PySem.W.codeIn K (.ref cda) qual = true ∧ ∀ P, SupP P file → SupK P K D cc cda f fd
  kp : PySem.W.keepIn K (.ref f) = true
theorem DefY.funS {K : PySem.W.Frag} [HasW K] {y : DefY} {file : Str} {D : Addr} (hcl : y.clo = [("__class__" : Str)]) (hdv : y.d.dvs K = []) (e : fnY K (y.ad K) = y.val) (c : y.ok K = true) (h : supkB K file D (y.ad K) = true) : ∃ fd, FunS K file D y.d.name y.d.qual y.d.params y.d.body y.d.scope (y.ad K) fd := by
  obtain ⟨kp, c2⟩ := ba c
  unfold fnY at e
  unfold supkB at h
  cases q : K.lookup (y.ad K) with
  | none =>
    rw [q] at c2
    cases c2
  | some o =>
    obtain ⟨oc, od, dt, osl⟩ := o
    rw [q] at c2 e h
    cases dt with
    | func fd =>
      obtain ⟨n1, n2, n3, n4, n5, n6, n7, n8, n9, n10, n11, n12, n13, n14, n15⟩ := fd
      have e2 : (some (n1, n2, n3, n4, n5, n6, n7.map Prod.fst, n15) : FnZ) = some (y.d.name, y.d.qual, y.d.params, .stmts y.d.body, y.d.scope, mainGlobals, y.clo, builtinsNs) := e
      simp only [Option.some.injEq, Prod.mk.injEq] at e2
      obtain ⟨h1, h2, h3, h4, h5, h6, h7, h8⟩ := e2
      subst h1 h2 h3 h4 h5 h6 h8
      have c3 : (PySem.W.codeIn K n13 y.d.qual && (dflB K n8 (y.d.dvs K) && kwdB K n9 (y.d.kws K))) = true := c2
      obtain ⟨k1, k2⟩ := ba c3
      obtain ⟨k3, _⟩ := ba k2
      rw [hdv] at k3
      rcases dflB_ok k3 with ⟨_, rfl⟩ | ⟨k4, _⟩
      case inr => exact absurd rfl k4
      dsimp only at h
      split at h
      · rename_i n cc cda
        rw [Bool.and_eq_true, Bool.and_eq_true, Bool.and_eq_true, beq_iff_eq] at h
        obtain ⟨hn, ha, hb, hc⟩ := h
        subst hn
        refine ⟨_, ⟨cc, cda, n9, n10, n11, n14, n12, rfl, k1, fun P hP => ?_⟩, kp⟩
        split at ha
        · rename_i ccl cdd vs ccs l1
          split at ha
          · rename_i z0 z1 g tf rr l2
            split at hb
            · rename_i cl cld D2 csl l3
              have eD : D2 = D := by simpa using hb
              subst eD
              refine ⟨⟨oc, od, osl, q⟩, ⟨ccl, cdd, vs, ccs, g, tf, l1, by rw [← Array.getElem?_toList, l2]; rfl, ?_⟩, ⟨cl, cld, csl, l3⟩, hP.top, of_decide_eq_true hc⟩
              rw [hP.file]
              exact ha
            · cases hb
          · cases ha
        · cases ha
      · cases h
    | _ => cases c2
end DX
namespace DX
open PySem PySem.Spec PyProof.Rows L2 DK
abbrev ieTail : List Value := [.type "IndexError", .type "LookupError", .type "Exception", .type "BaseException", .type "object"]
structure OexI (K : PySem.W.Frag) (C : Addr) : Prop where
  cls : ∃ nm q N bs bm sn sub ab col dd k0 k1 k2 k3 k5, K.lookup C = some (excClassObj nm q C N bs bm true sn sub ab col dd k0 k1 k2 k3 k5 "IndexError.__new__") ∧ bm = ieTail
  over : PySem.W.excOver K C ieTail = true
  sa : PySem.W.findIn K (.ref C) "__setattr__" = some (some (.builtin "object.__setattr__"))
  exC : PySem.W.subIn K (.ref C) (.type "BaseException") = some true
  tyC : PySem.W.typeIn K (.ref C) = some (.type "type")
  kC : PySem.W.keepIn K (.ref C) = true
structure SupCI (K : PySem.W.Frag) (D : Addr) : Prop where
  cd : ∃ cdD, PySem.W.clsIn K D = some cdD
  self : PySem.W.mroIn K D (.ref D) = some true
  init : PySem.W.ks_superIn K D D "__init__" = some (some (.builtin "IndexError.__init__"))
  ve : PySem.W.subIn K (.ref D) (.type "IndexError") = some true
  x : OexI K D
def ieB (K : PySem.W.Frag) (C : Addr) : Bool := match K.lookup C with
  | some ⟨.type "type", _, .cls cd, sl⟩ => (match cd.mro, sl.toList with
    | .ref C2 :: bm, [_, _, _, _, some (.builtin n), _] => (C2 == C && n == "IndexError.__new__") && ((!cd.hasDel && cd.hasDict) && bm == ieTail)
    | _, _ => false)
  | _ => false
theorem ieB_ok {K : PySem.W.Frag} {C : Addr} (h1 : ieB K C = true) : ∃ nm q N bs bm sn sub ab col dd k0 k1 k2 k3 k5, K.lookup C = some (excClassObj nm q C N bs bm true sn sub ab col dd k0 k1 k2 k3 k5 "IndexError.__new__") ∧ bm = ieTail := by
  unfold ieB at h1
  split at h1
  · rename_i dd cd sl ho
    split at h1
    · rename_i C2 bm k0 k1 k2 k3 n k5 hm hs
      simp only [Bool.and_eq_true, beq_iff_eq, Bool.not_eq_true'] at h1
      obtain ⟨⟨rfl, rfl⟩, ⟨hdel, hdict⟩, hve⟩ := h1
      obtain ⟨nm, bs, mro, ns, qn, hd, sn, sub, ab, col, del⟩ := cd
      dsimp only at hm hdel hdict
      subst hm hdel hdict
      have hsl : sl = #[k0, k1, k2, k3, some (.builtin "IndexError.__new__"), k5] := by
        obtain ⟨l⟩ := sl
        simp only at hs
        rw [hs]
      subst hsl
      exact ⟨nm, qn, ns, bs, bm, sn, sub, ab, col, dd, k0, k1, k2, k3, k5, ho, hve⟩
    · cases h1
  · cases h1
def supcIB (K : PySem.W.Frag) (D : Addr) : Bool := (PySem.W.clsIn K D).isSome && (decide (PySem.W.mroIn K D (.ref D) = some true) && (decide (PySem.W.ks_superIn K D D "__init__" = some (some (.builtin "IndexError.__init__"))) && (decide (PySem.W.subIn K (.ref D) (.type "IndexError") = some true) &&
  (ieB K D && (PySem.W.excOver K D ieTail && (decide (PySem.W.findIn K (.ref D) "__setattr__" = some (some (.builtin "object.__setattr__"))) && (decide (PySem.W.subIn K (.ref D) (.type "BaseException") = some true) && (decide (PySem.W.typeIn K (.ref D) = some (.type "type")) && PySem.W.keepIn K (.ref D)))))))))
theorem supcIB_ok {K : PySem.W.Frag} [HasW K] {D : Addr} (h : supcIB K D = true) : SupCI K D := by
  unfold supcIB at h
  simp only [Bool.and_eq_true, decide_eq_true_eq] at h
  obtain ⟨h1, h2, h3, h4, h5, h6, h7, h8, h9, h10⟩ := h
  exact ⟨Option.isSome_iff_exists.mp h1, h2, h3, h4, ⟨ieB_ok h5, h6, h7, h8, h9, h10⟩⟩
end DX
namespace DX.K01
open PySem PySem.Spec PyProof.Rows L2 DK
def top (i : Nat) : Stmt := PySem.Challenge.pw_deskcards_k01_errors_and_what_they_keep.main.body.getD i (.Pass ⟨0, 0, 0, 0⟩)
abbrev st_law_deal : Stmt := top 13
abbrev st_law_draw : Stmt := top 14
abbrev st_law_pick : Stmt := top 15
abbrev st_law_value_0 : Stmt := top 16
abbrev st_law_value_1 : Stmt := top 16
abbrev st_law_value_2 : Stmt := top 16
abbrev st_law_value_3 : Stmt := top 16
abbrev st_law_value : Stmt := top 16
abbrev st_law_sorts : Stmt := top 17
abbrev st_law_kept : Stmt := top 18
abbrev st_law : Stmt := top 19
abbrev st_InvalidRow_init : Stmt := (stmtsOf (top 2)).getD 0 (.Pass ⟨0, 0, 0, 0⟩)
abbrev st_InvalidTool_init : Stmt := (stmtsOf (top 3)).getD 0 (.Pass ⟨0, 0, 0, 0⟩)
abbrev st_InvalidTerms_init : Stmt := (stmtsOf (top 4)).getD 0 (.Pass ⟨0, 0, 0, 0⟩)
abbrev st_InvalidText_init : Stmt := (stmtsOf (top 5)).getD 0 (.Pass ⟨0, 0, 0, 0⟩)
abbrev st_InvalidEvent_init : Stmt := (stmtsOf (top 6)).getD 0 (.Pass ⟨0, 0, 0, 0⟩)
abbrev st_InvalidFault_init : Stmt := (stmtsOf (top 7)).getD 0 (.Pass ⟨0, 0, 0, 0⟩)
abbrev st_InvalidSeen_init : Stmt := (stmtsOf (top 8)).getD 0 (.Pass ⟨0, 0, 0, 0⟩)
abbrev st_InvalidCommand_init : Stmt := (stmtsOf (top 9)).getD 0 (.Pass ⟨0, 0, 0, 0⟩)
abbrev st_Refused_init : Stmt := (stmtsOf (top 10)).getD 0 (.Pass ⟨0, 0, 0, 0⟩)
abbrev st_NoRow_init : Stmt := (stmtsOf (top 11)).getD 0 (.Pass ⟨0, 0, 0, 0⟩)
abbrev theFile : Str := PySem.Challenge.pw_deskcards_k01_errors_and_what_they_keep.main.file
def dq_law_deal : DefY := ⟨fun K => He.ga K "_law_deal", ⟨("_law_deal", none), "_law_deal", "_law_deal", defArgs st_law_deal, defBody st_law_deal, defScope st_law_deal, [], []⟩, []⟩
def dq_law_draw : DefY := ⟨fun K => He.ga K "_law_draw", ⟨("_law_draw", none), "_law_draw", "_law_draw", defArgs st_law_draw, defBody st_law_draw, defScope st_law_draw, [], []⟩, []⟩
def dq_law_pick : DefY := ⟨fun K => He.ga K "_law_pick", ⟨("_law_pick", none), "_law_pick", "_law_pick", defArgs st_law_pick, defBody st_law_pick, defScope st_law_pick, [], []⟩, []⟩
def dq_law_value_0 : DefY := ⟨fun K => He.ga K "_law_value", ⟨("_law_value", none), "_law_value", "_law_value", defArgs st_law_value_0, defBody st_law_value_0, defScope st_law_value_0, [], []⟩, []⟩
def dq_law_value_1 : DefY := ⟨fun K => He.ga K "_law_value", ⟨("_law_value", none), "_law_value", "_law_value", defArgs st_law_value_1, defBody st_law_value_1, defScope st_law_value_1, [], []⟩, []⟩
def dq_law_value_2 : DefY := ⟨fun K => He.ga K "_law_value", ⟨("_law_value", none), "_law_value", "_law_value", defArgs st_law_value_2, defBody st_law_value_2, defScope st_law_value_2, [], []⟩, []⟩
def dq_law_value_3 : DefY := ⟨fun K => He.ga K "_law_value", ⟨("_law_value", none), "_law_value", "_law_value", defArgs st_law_value_3, defBody st_law_value_3, defScope st_law_value_3, [], []⟩, []⟩
def dq_law_value : DefY := ⟨fun K => He.ga K "_law_value", ⟨("_law_value", none), "_law_value", "_law_value", defArgs st_law_value, defBody st_law_value, defScope st_law_value, [], []⟩, []⟩
def dq_law_sorts : DefY := ⟨fun K => He.ga K "_law_sorts", ⟨("_law_sorts", none), "_law_sorts", "_law_sorts", defArgs st_law_sorts, defBody st_law_sorts, defScope st_law_sorts, [], []⟩, []⟩
def dq_law_kept : DefY := ⟨fun K => He.ga K "_law_kept", ⟨("_law_kept", none), "_law_kept", "_law_kept", defArgs st_law_kept, defBody st_law_kept, defScope st_law_kept, [], []⟩, []⟩
def dq_law : DefY := ⟨fun K => He.ga K "law", ⟨("law", none), "law", "law", defArgs st_law, defBody st_law, defScope st_law, [], []⟩, []⟩
def dq_InvalidRow_init : DefY := ⟨fun K => He.ma K (He.ga K "InvalidRow") "__init__", ⟨("InvalidRow", some "__init__"), "__init__", "InvalidRow.__init__", defArgs st_InvalidRow_init, defBody st_InvalidRow_init, defScope st_InvalidRow_init, [], []⟩, ["__class__"]⟩
def dq_InvalidTool_init : DefY := ⟨fun K => He.ma K (He.ga K "InvalidTool") "__init__", ⟨("InvalidTool", some "__init__"), "__init__", "InvalidTool.__init__", defArgs st_InvalidTool_init, defBody st_InvalidTool_init, defScope st_InvalidTool_init, [], []⟩, ["__class__"]⟩
def dq_InvalidTerms_init : DefY := ⟨fun K => He.ma K (He.ga K "InvalidTerms") "__init__", ⟨("InvalidTerms", some "__init__"), "__init__", "InvalidTerms.__init__", defArgs st_InvalidTerms_init, defBody st_InvalidTerms_init, defScope st_InvalidTerms_init, [], []⟩, ["__class__"]⟩
def dq_InvalidText_init : DefY := ⟨fun K => He.ma K (He.ga K "InvalidText") "__init__", ⟨("InvalidText", some "__init__"), "__init__", "InvalidText.__init__", defArgs st_InvalidText_init, defBody st_InvalidText_init, defScope st_InvalidText_init, [], []⟩, ["__class__"]⟩
def dq_InvalidEvent_init : DefY := ⟨fun K => He.ma K (He.ga K "InvalidEvent") "__init__", ⟨("InvalidEvent", some "__init__"), "__init__", "InvalidEvent.__init__", defArgs st_InvalidEvent_init, defBody st_InvalidEvent_init, defScope st_InvalidEvent_init, [], []⟩, ["__class__"]⟩
def dq_InvalidFault_init : DefY := ⟨fun K => He.ma K (He.ga K "InvalidFault") "__init__", ⟨("InvalidFault", some "__init__"), "__init__", "InvalidFault.__init__", defArgs st_InvalidFault_init, defBody st_InvalidFault_init, defScope st_InvalidFault_init, [], []⟩, ["__class__"]⟩
def dq_InvalidSeen_init : DefY := ⟨fun K => He.ma K (He.ga K "InvalidSeen") "__init__", ⟨("InvalidSeen", some "__init__"), "__init__", "InvalidSeen.__init__", defArgs st_InvalidSeen_init, defBody st_InvalidSeen_init, defScope st_InvalidSeen_init, [], []⟩, ["__class__"]⟩
def dq_InvalidCommand_init : DefY := ⟨fun K => He.ma K (He.ga K "InvalidCommand") "__init__", ⟨("InvalidCommand", some "__init__"), "__init__", "InvalidCommand.__init__", defArgs st_InvalidCommand_init, defBody st_InvalidCommand_init, defScope st_InvalidCommand_init, [], []⟩, ["__class__"]⟩
def dq_Refused_init : DefY := ⟨fun K => He.ma K (He.ga K "Refused") "__init__", ⟨("Refused", some "__init__"), "__init__", "Refused.__init__", defArgs st_Refused_init, defBody st_Refused_init, defScope st_Refused_init, [], []⟩, ["__class__"]⟩
def dq_NoRow_init : DefY := ⟨fun K => He.ma K (He.ga K "NoRow") "__init__", ⟨("NoRow", some "__init__"), "__init__", "NoRow.__init__", defArgs st_NoRow_init, defBody st_NoRow_init, defScope st_NoRow_init, [], []⟩, ["__class__"]⟩
def fn : List DefY := [dq_law_deal, dq_law_draw, dq_law_pick, dq_law_value_0, dq_law_value_1, dq_law_value_2, dq_law_value_3, dq_law_value, dq_law_sorts, dq_law_kept, dq_law, dq_InvalidRow_init, dq_InvalidTool_init, dq_InvalidTerms_init, dq_InvalidText_init, dq_InvalidEvent_init, dq_InvalidFault_init, dq_InvalidSeen_init, dq_InvalidCommand_init, dq_Refused_init, dq_NoRow_init]
def fa : List He.Fa := ([.free "IndexError", .free "KeyError", .free "ValueError", .free "abs", .free "int", .free "isinstance", .free "len", .free "range", .free "repr", .free "super", .free "tuple", .glo "CardError", .glo "InvalidCommand", .glo "InvalidEvent", .glo "InvalidFault", .glo "InvalidRow", .glo "InvalidSeen", .glo "InvalidTerms", .glo "InvalidText", .glo "InvalidTool", .glo "NoRow", .glo "Refused", .glo "_law_deal", .glo "_law_draw", .glo "_law_pick", .glo "_law_value", .glo "_law_value", .glo "_law_value", .glo "_law_value", .glo "_law_value"] : List He.Fa) ++ ([.glo "_law_sorts", .glo "_law_kept", .glo "law"] : List He.Fa)
abbrev R : PySem.W.OpenRow := PySem.W.OpenLaw.row PySem.Challenge.rw_deskcards_k01_errors_and_what_they_keep
def xl0 (K : PySem.W.Frag) : List Bool := [supcB K (He.ga K "InvalidCommand"), iniB K (He.ga K "InvalidCommand") (He.ma K (He.ga K "InvalidCommand") "__init__"), supkB K theFile (He.ga K "InvalidCommand") (He.ma K (He.ga K "InvalidCommand") "__init__"), supcB K (He.ga K "InvalidEvent"), iniB K (He.ga K "InvalidEvent") (He.ma K (He.ga K "InvalidEvent") "__init__"), supkB K theFile (He.ga K "InvalidEvent") (He.ma K (He.ga K "InvalidEvent") "__init__"), supcB K (He.ga K "InvalidFault"), iniB K (He.ga K "InvalidFault") (He.ma K (He.ga K "InvalidFault") "__init__"), supkB K theFile (He.ga K "InvalidFault") (He.ma K (He.ga K "InvalidFault") "__init__"), supcB K (He.ga K "InvalidRow"), iniB K (He.ga K "InvalidRow") (He.ma K (He.ga K "InvalidRow") "__init__"), supkB K theFile (He.ga K "InvalidRow") (He.ma K (He.ga K "InvalidRow") "__init__"), supcB K (He.ga K "InvalidSeen"), iniB K (He.ga K "InvalidSeen") (He.ma K (He.ga K "InvalidSeen") "__init__"), supkB K theFile (He.ga K "InvalidSeen") (He.ma K (He.ga K "InvalidSeen") "__init__"), supcB K (He.ga K "InvalidTerms"), iniB K (He.ga K "InvalidTerms") (He.ma K (He.ga K "InvalidTerms") "__init__"), supkB K theFile (He.ga K "InvalidTerms") (He.ma K (He.ga K "InvalidTerms") "__init__"), supcB K (He.ga K "InvalidText"), iniB K (He.ga K "InvalidText") (He.ma K (He.ga K "InvalidText") "__init__")]
def xl1 (K : PySem.W.Frag) : List Bool := [supkB K theFile (He.ga K "InvalidText") (He.ma K (He.ga K "InvalidText") "__init__"), supcB K (He.ga K "InvalidTool"), iniB K (He.ga K "InvalidTool") (He.ma K (He.ga K "InvalidTool") "__init__"), supkB K theFile (He.ga K "InvalidTool") (He.ma K (He.ga K "InvalidTool") "__init__"), supcIB K (He.ga K "NoRow"), iniB K (He.ga K "NoRow") (He.ma K (He.ga K "NoRow") "__init__"), supkB K theFile (He.ga K "NoRow") (He.ma K (He.ga K "NoRow") "__init__"), supcB K (He.ga K "Refused"), iniB K (He.ga K "Refused") (He.ma K (He.ga K "Refused") "__init__"), supkB K theFile (He.ga K "Refused") (He.ma K (He.ga K "Refused") "__init__"), noaB K (He.ga K "InvalidEvent") "at", noaB K (He.ga K "InvalidRow") "word", noaB K (He.ga K "InvalidSeen") "at", noaB K (He.ga K "InvalidTerms") "word", noaB K (He.ga K "InvalidText") "at", noaB K (He.ga K "InvalidTool") "word", noaB K (He.ga K "NoRow") "at", noaB K (He.ga K "Refused") "at", excB K (He.ga K "InvalidCommand"), excB K (He.ga K "InvalidEvent")]
def xl2 (K : PySem.W.Frag) : List Bool := [excB K (He.ga K "InvalidFault"), excB K (He.ga K "InvalidRow"), excB K (He.ga K "InvalidSeen"), excB K (He.ga K "InvalidTerms"), excB K (He.ga K "InvalidText"), excB K (He.ga K "InvalidTool"), excB K (He.ga K "NoRow"), excB K (He.ga K "Refused"), decide (PySem.W.kitAny K (.ref (He.ga K "InvalidCommand")) [(Value.type "KeyError"), (Value.type "IndexError")] = some false), decide (PySem.W.kitAny K (.ref (He.ga K "InvalidEvent")) [(Value.type "KeyError"), (Value.type "IndexError")] = some false), decide (PySem.W.kitAny K (.ref (He.ga K "InvalidFault")) [(Value.type "KeyError"), (Value.type "IndexError")] = some false), decide (PySem.W.kitAny K (.ref (He.ga K "InvalidRow")) [(Value.type "KeyError"), (Value.type "IndexError")] = some false), decide (PySem.W.kitAny K (.ref (He.ga K "InvalidSeen")) [(Value.type "KeyError"), (Value.type "IndexError")] = some false), decide (PySem.W.kitAny K (.ref (He.ga K "InvalidTerms")) [(Value.type "KeyError"), (Value.type "IndexError")] = some false), decide (PySem.W.kitAny K (.ref (He.ga K "InvalidText")) [(Value.type "KeyError"), (Value.type "IndexError")] = some false), decide (PySem.W.kitAny K (.ref (He.ga K "InvalidTool")) [(Value.type "KeyError"), (Value.type "IndexError")] = some false), decide (PySem.W.kitAny K (.ref (He.ga K "NoRow")) [(Value.type "KeyError"), (Value.type "IndexError")] = some true), decide (PySem.W.kitAny K (.ref (He.ga K "Refused")) [(Value.type "KeyError"), (Value.type "IndexError")] = some false), decide (PySem.W.kitOne K (.ref (He.ga K "InvalidCommand")) (Value.ref (He.ga K "CardError")) = some true), decide (PySem.W.kitOne K (.ref (He.ga K "InvalidCommand")) (Value.type "IndexError") = some false)]
def xl3 (K : PySem.W.Frag) : List Bool := [decide (PySem.W.kitOne K (.ref (He.ga K "InvalidCommand")) (Value.ref (He.ga K "InvalidCommand")) = some true), decide (PySem.W.kitOne K (.ref (He.ga K "InvalidCommand")) (Value.ref (He.ga K "InvalidEvent")) = some false), decide (PySem.W.kitOne K (.ref (He.ga K "InvalidCommand")) (Value.ref (He.ga K "InvalidFault")) = some false), decide (PySem.W.kitOne K (.ref (He.ga K "InvalidCommand")) (Value.ref (He.ga K "InvalidRow")) = some false), decide (PySem.W.kitOne K (.ref (He.ga K "InvalidCommand")) (Value.ref (He.ga K "InvalidSeen")) = some false), decide (PySem.W.kitOne K (.ref (He.ga K "InvalidCommand")) (Value.ref (He.ga K "InvalidTerms")) = some false), decide (PySem.W.kitOne K (.ref (He.ga K "InvalidCommand")) (Value.ref (He.ga K "InvalidText")) = some false), decide (PySem.W.kitOne K (.ref (He.ga K "InvalidCommand")) (Value.ref (He.ga K "InvalidTool")) = some false), decide (PySem.W.kitOne K (.ref (He.ga K "InvalidCommand")) (Value.type "KeyError") = some false), decide (PySem.W.kitOne K (.ref (He.ga K "InvalidCommand")) (Value.ref (He.ga K "Refused")) = some false), decide (PySem.W.kitOne K (.ref (He.ga K "InvalidCommand")) (Value.type "ValueError") = some true), decide (PySem.W.kitOne K (.ref (He.ga K "InvalidEvent")) (Value.ref (He.ga K "CardError")) = some true), decide (PySem.W.kitOne K (.ref (He.ga K "InvalidEvent")) (Value.type "IndexError") = some false), decide (PySem.W.kitOne K (.ref (He.ga K "InvalidEvent")) (Value.ref (He.ga K "InvalidCommand")) = some false), decide (PySem.W.kitOne K (.ref (He.ga K "InvalidEvent")) (Value.ref (He.ga K "InvalidEvent")) = some true), decide (PySem.W.kitOne K (.ref (He.ga K "InvalidEvent")) (Value.ref (He.ga K "InvalidFault")) = some false), decide (PySem.W.kitOne K (.ref (He.ga K "InvalidEvent")) (Value.ref (He.ga K "InvalidRow")) = some false), decide (PySem.W.kitOne K (.ref (He.ga K "InvalidEvent")) (Value.ref (He.ga K "InvalidSeen")) = some false), decide (PySem.W.kitOne K (.ref (He.ga K "InvalidEvent")) (Value.ref (He.ga K "InvalidTerms")) = some false), decide (PySem.W.kitOne K (.ref (He.ga K "InvalidEvent")) (Value.ref (He.ga K "InvalidText")) = some false)]
def xl4 (K : PySem.W.Frag) : List Bool := [decide (PySem.W.kitOne K (.ref (He.ga K "InvalidEvent")) (Value.ref (He.ga K "InvalidTool")) = some false), decide (PySem.W.kitOne K (.ref (He.ga K "InvalidEvent")) (Value.type "KeyError") = some false), decide (PySem.W.kitOne K (.ref (He.ga K "InvalidEvent")) (Value.ref (He.ga K "Refused")) = some false), decide (PySem.W.kitOne K (.ref (He.ga K "InvalidEvent")) (Value.type "ValueError") = some true), decide (PySem.W.kitOne K (.ref (He.ga K "InvalidFault")) (Value.ref (He.ga K "CardError")) = some true), decide (PySem.W.kitOne K (.ref (He.ga K "InvalidFault")) (Value.type "IndexError") = some false), decide (PySem.W.kitOne K (.ref (He.ga K "InvalidFault")) (Value.ref (He.ga K "InvalidCommand")) = some false), decide (PySem.W.kitOne K (.ref (He.ga K "InvalidFault")) (Value.ref (He.ga K "InvalidEvent")) = some false), decide (PySem.W.kitOne K (.ref (He.ga K "InvalidFault")) (Value.ref (He.ga K "InvalidFault")) = some true), decide (PySem.W.kitOne K (.ref (He.ga K "InvalidFault")) (Value.ref (He.ga K "InvalidRow")) = some false), decide (PySem.W.kitOne K (.ref (He.ga K "InvalidFault")) (Value.ref (He.ga K "InvalidSeen")) = some false), decide (PySem.W.kitOne K (.ref (He.ga K "InvalidFault")) (Value.ref (He.ga K "InvalidTerms")) = some false), decide (PySem.W.kitOne K (.ref (He.ga K "InvalidFault")) (Value.ref (He.ga K "InvalidText")) = some false), decide (PySem.W.kitOne K (.ref (He.ga K "InvalidFault")) (Value.ref (He.ga K "InvalidTool")) = some false), decide (PySem.W.kitOne K (.ref (He.ga K "InvalidFault")) (Value.type "KeyError") = some false), decide (PySem.W.kitOne K (.ref (He.ga K "InvalidFault")) (Value.ref (He.ga K "Refused")) = some false), decide (PySem.W.kitOne K (.ref (He.ga K "InvalidFault")) (Value.type "ValueError") = some true), decide (PySem.W.kitOne K (.ref (He.ga K "InvalidRow")) (Value.ref (He.ga K "CardError")) = some true), decide (PySem.W.kitOne K (.ref (He.ga K "InvalidRow")) (Value.type "IndexError") = some false), decide (PySem.W.kitOne K (.ref (He.ga K "InvalidRow")) (Value.ref (He.ga K "InvalidCommand")) = some false)]
def xl5 (K : PySem.W.Frag) : List Bool := [decide (PySem.W.kitOne K (.ref (He.ga K "InvalidRow")) (Value.ref (He.ga K "InvalidEvent")) = some false), decide (PySem.W.kitOne K (.ref (He.ga K "InvalidRow")) (Value.ref (He.ga K "InvalidFault")) = some false), decide (PySem.W.kitOne K (.ref (He.ga K "InvalidRow")) (Value.ref (He.ga K "InvalidRow")) = some true), decide (PySem.W.kitOne K (.ref (He.ga K "InvalidRow")) (Value.ref (He.ga K "InvalidSeen")) = some false), decide (PySem.W.kitOne K (.ref (He.ga K "InvalidRow")) (Value.ref (He.ga K "InvalidTerms")) = some false), decide (PySem.W.kitOne K (.ref (He.ga K "InvalidRow")) (Value.ref (He.ga K "InvalidText")) = some false), decide (PySem.W.kitOne K (.ref (He.ga K "InvalidRow")) (Value.ref (He.ga K "InvalidTool")) = some false), decide (PySem.W.kitOne K (.ref (He.ga K "InvalidRow")) (Value.type "KeyError") = some false), decide (PySem.W.kitOne K (.ref (He.ga K "InvalidRow")) (Value.ref (He.ga K "Refused")) = some false), decide (PySem.W.kitOne K (.ref (He.ga K "InvalidRow")) (Value.type "ValueError") = some true), decide (PySem.W.kitOne K (.ref (He.ga K "InvalidSeen")) (Value.ref (He.ga K "CardError")) = some true), decide (PySem.W.kitOne K (.ref (He.ga K "InvalidSeen")) (Value.type "IndexError") = some false), decide (PySem.W.kitOne K (.ref (He.ga K "InvalidSeen")) (Value.ref (He.ga K "InvalidCommand")) = some false), decide (PySem.W.kitOne K (.ref (He.ga K "InvalidSeen")) (Value.ref (He.ga K "InvalidEvent")) = some false), decide (PySem.W.kitOne K (.ref (He.ga K "InvalidSeen")) (Value.ref (He.ga K "InvalidFault")) = some false), decide (PySem.W.kitOne K (.ref (He.ga K "InvalidSeen")) (Value.ref (He.ga K "InvalidRow")) = some false), decide (PySem.W.kitOne K (.ref (He.ga K "InvalidSeen")) (Value.ref (He.ga K "InvalidSeen")) = some true), decide (PySem.W.kitOne K (.ref (He.ga K "InvalidSeen")) (Value.ref (He.ga K "InvalidTerms")) = some false), decide (PySem.W.kitOne K (.ref (He.ga K "InvalidSeen")) (Value.ref (He.ga K "InvalidText")) = some false), decide (PySem.W.kitOne K (.ref (He.ga K "InvalidSeen")) (Value.ref (He.ga K "InvalidTool")) = some false)]
def xl6 (K : PySem.W.Frag) : List Bool := [decide (PySem.W.kitOne K (.ref (He.ga K "InvalidSeen")) (Value.type "KeyError") = some false), decide (PySem.W.kitOne K (.ref (He.ga K "InvalidSeen")) (Value.ref (He.ga K "Refused")) = some false), decide (PySem.W.kitOne K (.ref (He.ga K "InvalidSeen")) (Value.type "ValueError") = some true), decide (PySem.W.kitOne K (.ref (He.ga K "InvalidTerms")) (Value.ref (He.ga K "CardError")) = some true), decide (PySem.W.kitOne K (.ref (He.ga K "InvalidTerms")) (Value.type "IndexError") = some false), decide (PySem.W.kitOne K (.ref (He.ga K "InvalidTerms")) (Value.ref (He.ga K "InvalidCommand")) = some false), decide (PySem.W.kitOne K (.ref (He.ga K "InvalidTerms")) (Value.ref (He.ga K "InvalidEvent")) = some false), decide (PySem.W.kitOne K (.ref (He.ga K "InvalidTerms")) (Value.ref (He.ga K "InvalidFault")) = some false), decide (PySem.W.kitOne K (.ref (He.ga K "InvalidTerms")) (Value.ref (He.ga K "InvalidRow")) = some false), decide (PySem.W.kitOne K (.ref (He.ga K "InvalidTerms")) (Value.ref (He.ga K "InvalidSeen")) = some false), decide (PySem.W.kitOne K (.ref (He.ga K "InvalidTerms")) (Value.ref (He.ga K "InvalidTerms")) = some true), decide (PySem.W.kitOne K (.ref (He.ga K "InvalidTerms")) (Value.ref (He.ga K "InvalidText")) = some false), decide (PySem.W.kitOne K (.ref (He.ga K "InvalidTerms")) (Value.ref (He.ga K "InvalidTool")) = some false), decide (PySem.W.kitOne K (.ref (He.ga K "InvalidTerms")) (Value.type "KeyError") = some false), decide (PySem.W.kitOne K (.ref (He.ga K "InvalidTerms")) (Value.ref (He.ga K "Refused")) = some false), decide (PySem.W.kitOne K (.ref (He.ga K "InvalidTerms")) (Value.type "ValueError") = some true), decide (PySem.W.kitOne K (.ref (He.ga K "InvalidText")) (Value.ref (He.ga K "CardError")) = some true), decide (PySem.W.kitOne K (.ref (He.ga K "InvalidText")) (Value.type "IndexError") = some false), decide (PySem.W.kitOne K (.ref (He.ga K "InvalidText")) (Value.ref (He.ga K "InvalidCommand")) = some false), decide (PySem.W.kitOne K (.ref (He.ga K "InvalidText")) (Value.ref (He.ga K "InvalidEvent")) = some false)]
def xl7 (K : PySem.W.Frag) : List Bool := [decide (PySem.W.kitOne K (.ref (He.ga K "InvalidText")) (Value.ref (He.ga K "InvalidFault")) = some false), decide (PySem.W.kitOne K (.ref (He.ga K "InvalidText")) (Value.ref (He.ga K "InvalidRow")) = some false), decide (PySem.W.kitOne K (.ref (He.ga K "InvalidText")) (Value.ref (He.ga K "InvalidSeen")) = some false), decide (PySem.W.kitOne K (.ref (He.ga K "InvalidText")) (Value.ref (He.ga K "InvalidTerms")) = some false), decide (PySem.W.kitOne K (.ref (He.ga K "InvalidText")) (Value.ref (He.ga K "InvalidText")) = some true), decide (PySem.W.kitOne K (.ref (He.ga K "InvalidText")) (Value.ref (He.ga K "InvalidTool")) = some false), decide (PySem.W.kitOne K (.ref (He.ga K "InvalidText")) (Value.type "KeyError") = some false), decide (PySem.W.kitOne K (.ref (He.ga K "InvalidText")) (Value.ref (He.ga K "Refused")) = some false), decide (PySem.W.kitOne K (.ref (He.ga K "InvalidText")) (Value.type "ValueError") = some true), decide (PySem.W.kitOne K (.ref (He.ga K "InvalidTool")) (Value.ref (He.ga K "CardError")) = some true), decide (PySem.W.kitOne K (.ref (He.ga K "InvalidTool")) (Value.type "IndexError") = some false), decide (PySem.W.kitOne K (.ref (He.ga K "InvalidTool")) (Value.ref (He.ga K "InvalidCommand")) = some false), decide (PySem.W.kitOne K (.ref (He.ga K "InvalidTool")) (Value.ref (He.ga K "InvalidEvent")) = some false), decide (PySem.W.kitOne K (.ref (He.ga K "InvalidTool")) (Value.ref (He.ga K "InvalidFault")) = some false), decide (PySem.W.kitOne K (.ref (He.ga K "InvalidTool")) (Value.ref (He.ga K "InvalidRow")) = some false), decide (PySem.W.kitOne K (.ref (He.ga K "InvalidTool")) (Value.ref (He.ga K "InvalidSeen")) = some false), decide (PySem.W.kitOne K (.ref (He.ga K "InvalidTool")) (Value.ref (He.ga K "InvalidTerms")) = some false), decide (PySem.W.kitOne K (.ref (He.ga K "InvalidTool")) (Value.ref (He.ga K "InvalidText")) = some false), decide (PySem.W.kitOne K (.ref (He.ga K "InvalidTool")) (Value.ref (He.ga K "InvalidTool")) = some true), decide (PySem.W.kitOne K (.ref (He.ga K "InvalidTool")) (Value.type "KeyError") = some false)]
def xl8 (K : PySem.W.Frag) : List Bool := [decide (PySem.W.kitOne K (.ref (He.ga K "InvalidTool")) (Value.ref (He.ga K "Refused")) = some false), decide (PySem.W.kitOne K (.ref (He.ga K "InvalidTool")) (Value.type "ValueError") = some true), decide (PySem.W.kitOne K (.ref (He.ga K "NoRow")) (Value.ref (He.ga K "CardError")) = some false), decide (PySem.W.kitOne K (.ref (He.ga K "NoRow")) (Value.type "IndexError") = some true), decide (PySem.W.kitOne K (.ref (He.ga K "NoRow")) (Value.type "KeyError") = some false), decide (PySem.W.kitOne K (.ref (He.ga K "NoRow")) (Value.type "ValueError") = some false), decide (PySem.W.kitOne K (.ref (He.ga K "Refused")) (Value.ref (He.ga K "CardError")) = some true), decide (PySem.W.kitOne K (.ref (He.ga K "Refused")) (Value.type "IndexError") = some false), decide (PySem.W.kitOne K (.ref (He.ga K "Refused")) (Value.ref (He.ga K "InvalidCommand")) = some false), decide (PySem.W.kitOne K (.ref (He.ga K "Refused")) (Value.ref (He.ga K "InvalidEvent")) = some false), decide (PySem.W.kitOne K (.ref (He.ga K "Refused")) (Value.ref (He.ga K "InvalidFault")) = some false), decide (PySem.W.kitOne K (.ref (He.ga K "Refused")) (Value.ref (He.ga K "InvalidRow")) = some false), decide (PySem.W.kitOne K (.ref (He.ga K "Refused")) (Value.ref (He.ga K "InvalidSeen")) = some false), decide (PySem.W.kitOne K (.ref (He.ga K "Refused")) (Value.ref (He.ga K "InvalidTerms")) = some false), decide (PySem.W.kitOne K (.ref (He.ga K "Refused")) (Value.ref (He.ga K "InvalidText")) = some false), decide (PySem.W.kitOne K (.ref (He.ga K "Refused")) (Value.ref (He.ga K "InvalidTool")) = some false), decide (PySem.W.kitOne K (.ref (He.ga K "Refused")) (Value.type "KeyError") = some false), decide (PySem.W.kitOne K (.ref (He.ga K "Refused")) (Value.ref (He.ga K "Refused")) = some true), decide (PySem.W.kitOne K (.ref (He.ga K "Refused")) (Value.type "ValueError") = some true)]
def xb (K : PySem.W.Frag) : Bool := (xl0 K).all id && (xl1 K).all id && (xl2 K).all id && (xl3 K).all id && (xl4 K).all id && (xl5 K).all id && (xl6 K).all id && (xl7 K).all id && (xl8 K).all id
theorem xb_all {K : PySem.W.Frag} (h : xb K = true) : (xl0 K).all id = true ∧ (xl1 K).all id = true ∧ (xl2 K).all id = true ∧ (xl3 K).all id = true ∧ (xl4 K).all id = true ∧ (xl5 K).all id = true ∧ (xl6 K).all id = true ∧ (xl7 K).all id = true ∧ (xl8 K).all id = true := by
  unfold xb at h
  simp only [Bool.and_eq_true] at h
  obtain ⟨⟨⟨⟨⟨⟨⟨⟨y0, y1⟩, y2⟩, y3⟩, y4⟩, y5⟩, y6⟩, y7⟩, y8⟩ := h
  exact ⟨y0, y1, y2, y3, y4, y5, y6, y7, y8⟩
theorem xb_at {l : List Bool} (h : l.all id = true) (i : Nat) (b : Bool) (e : l[i]? = some b) : b = true := List.all_eq_true.mp h b (List.mem_of_getElem? e)
def sy : SpecY := ⟨fa, fn, [], xb⟩
abbrev hk : PySem.W.Hook := hookY 6 sy
def ob (s : PySem.W.SharedT) : AlY := obsY 6 sy (HandSHeadRun.getT s)
theorem ob_eq (s : PySem.W.SharedT) : ob s = hk.obs s.abs := obsY_eq (HandSHeadRun.getT_eq s)
def names0 : List PySem.Str := ["__name__", "CardError", "InvalidRow", "InvalidTool", "InvalidTerms", "InvalidText", "InvalidEvent", "InvalidFault", "InvalidSeen", "InvalidCommand", "Refused", "NoRow", "_law_deal", "_law_draw", "_law_pick", "_law_value", "_law_sorts", "_law_kept"]
def names : List PySem.Str := names0
theorem run_false (w : World) : HandSHeadRun.RunEq R (PySem.W.view R.prog [19]) hk ob 20000 names (w.withFollow "special-get-raises" false) := by
  intro os
  kernel_rfl
theorem run_true (w : World) : HandSHeadRun.RunEq R (PySem.W.view R.prog [19]) hk ob 20000 names (w.withFollow "special-get-raises" true) := by
  intro os
  kernel_rfl
theorem run (w : World) : HandSHeadRun.RunEq R (PySem.W.view R.prog [19]) hk ob 20000 names w := PySem.W.byRow2 "special-get-raises" run_false run_true w
end DX.K01
namespace DX
open PySem PySem.Spec PyProof.Rows L2 DK
section
variable {X : Cx} {CX : CXT} {k : Nat} {f : Addr} {fd : FuncData} {ps : List Str} {sp : Sp} {dvs : List V} {ds : List Value} {E : XK} {x : Str} {p pos : Pos} {e : Expr} {es : List Expr} {t : TA}
end
section
variable {X : Cx}
end
end DX
namespace DX
open PySem PySem.Spec L2 DK
def cc_BARRED : List Str := ["and", "do", "if", "mark", "not", "open", "shut", "then"]
def cc_LEARNING : List Str := ["next", "near", "far", "house"]
def cc_WORDS : List Str := ["same", "next", "near", "far", "last", "elder", "house"]
def m_is_name : RS :=
  (mSeq (mIfS (mOr (mNot (mTest (mUn (isTF "str") (mVar 0)))) (mNot (mTest (mChain leF leF (mC (.int 1)) (mUn lenF (mVar 0)) (mC (.int 4)))))) (mRet (mC (.bl false))) mNext)
      (mRet (mAndV (mUn allF (mLc (kStr (mVar 0)) (hName 1) mYes (mOp (inF false) (mVar 1) (mC (.str "abcdefghijklmnopqrstuvwxyz"))) [1])) (mOp (inF true) (mVar 0) (mC (.tup (cc_BARRED.map D.str)))))))
def f_is_name : FX := bodyF true 1 2 m_is_name
def m_is_test : RS :=
  (mSeq (mIfS (mNot (mTest (mUn (isTF "str") (mVar 0)))) (mRet (mC (.bl false))) mNext)
      (mSeq (mAsg (mOp splitF (mVar 0) (mC (.str " "))) (hName 1))
      (mSeq (mIfS (mTest (mOp (eqF false) (mIx (mVar 1) (mC (.int 0))) (mC (.str "not")))) (mAsg (mSl (mVar 1) (mPart (mC (.int 1))) mNoPart) (hName 1)) mNext)
      (mRet (mAndV (mOp (eqF false) (mUn lenF (mVar 1)) (mC (.int 2))) (mAndV (mOp (eqF false) (mIx (mVar 1) (mC (.int 0))) (mC (.str "marked"))) (mCall f_is_name [] (mCons (mIx (mVar 1) (mC (.int 1))) mNil))))))))
def f_is_test : FX := bodyF true 1 2 m_is_test
def m_is_deed : RS :=
  (mSeq (mIfS (mNot (mTest (mUn (isTF "str") (mVar 0)))) (mRet (mC (.bl false))) mNext)
      (mSeq (mAsg (mOp splitF (mVar 0) (mC (.str " "))) (hName 1))
      (mRet (mOrV (mOp (eqF false) (mVar 1) (mLst (mCons (mC (.str "learn")) mNil))) (mAndV (mOp (eqF false) (mUn lenF (mVar 1)) (mC (.int 2))) (mAndV (mOp (inF false) (mIx (mVar 1) (mC (.int 0))) (mTup (mCons (mC (.str "mark")) (mCons (mC (.str "clear")) mNil)))) (mCall f_is_name [] (mCons (mIx (mVar 1) (mC (.int 1))) mNil))))))))
def f_is_deed : FX := bodyF true 1 2 m_is_deed
def m_parts_between : RS :=
  (mRet (mIf (mTest (mOp (eqF false) (mSl (mVar 0) mNoPart (mPart (mC (.int 1)))) (mLst (mCons (mVar 1) mNil)))) (mOp splitF (mJoin (mC (.str " ")) (mSl (mVar 0) (mPart (mC (.int 1))) mNoPart)) (mJoined (jCons (mC (.str " ")) (jCons (mUn fmtF (mVar 2)) (jCons (mC (.str " ")) jNil))))) (mLst mNil)))
def f_parts_between : FX := bodyF true 3 3 m_parts_between
end DX
namespace DX
open PySem PySem.Spec L2 DK
variable {ρ : Env'} {μ : Mu}
def Out.then (o : Out) (b : RS) : Option Out := match o with
  | .nx ρ μ => b ρ μ
  | o => some o
theorem then_nx {b : RS} : Out.then (.nx ρ μ) b = b ρ μ := rfl
theorem then_rt {w : W} {b : RS} : Out.then (.rt w μ) b = some (.rt w μ) := rfl
theorem then_ct {b : RS} : Out.then (.ct ρ μ) b = some (.ct ρ μ) := rfl
theorem then_bk {b : RS} : Out.then (.bk ρ μ) b = some (.bk ρ μ) := rfl
theorem q_seq {a b : RS} : mSeq a b ρ μ = (a ρ μ).bind fun o => Out.then o b := by
  unfold mSeq
  cases a ρ μ with
  | none => rfl
  | some o => cases o <;> rfl
theorem ite_bind {α β : Type} {p : Prop} [Decidable p] {x y : Option α} {f : α → Option β} : (if p then x else y).bind f = if p then x.bind f else y.bind f := by split <;> rfl
theorem q_ifS {t : RB} {a b : RS} : mIfS t a b ρ μ = (t ρ μ).bind fun p => if p.1 = true then a ρ p.2 else b ρ p.2 := by
  unfold mIfS
  cases t ρ μ with
  | none => rfl
  | some p => obtain ⟨k, μ1⟩ := p; cases k <;> rfl
theorem q_if {t : RB} {a b : RE} : mIf t a b ρ μ = (t ρ μ).bind fun p => if p.1 = true then a ρ p.2 else b ρ p.2 := by
  unfold mIf
  cases t ρ μ with
  | none => rfl
  | some p => obtain ⟨k, μ1⟩ := p; cases k <;> rfl
theorem q_and {a b : RB} : mAnd a b ρ μ = (a ρ μ).bind fun p => if p.1 = true then b ρ p.2 else some (false, p.2) := by
  unfold mAnd
  cases a ρ μ with
  | none => rfl
  | some p => obtain ⟨k, μ1⟩ := p; cases k <;> rfl
theorem q_or {a b : RB} : mOr a b ρ μ = (a ρ μ).bind fun p => if p.1 = true then some (true, p.2) else b ρ p.2 := by
  unfold mOr
  cases a ρ μ with
  | none => rfl
  | some p => obtain ⟨k, μ1⟩ := p; cases k <;> rfl
theorem q_not {a : RB} : mNot a ρ μ = (a ρ μ).bind fun p => some (!p.1, p.2) := by
  unfold mNot
  cases a ρ μ <;> rfl
theorem q_andV {a b : RE} : mAndV a b ρ μ = (mTest a ρ μ).bind fun p => if p.1 = true then b ρ p.2 else some (.val (.bl false), p.2) := by
  unfold mAndV
  cases mTest a ρ μ with
  | none => rfl
  | some p => obtain ⟨k, μ1⟩ := p; cases k <;> rfl
theorem q_orV {a b : RE} : mOrV a b ρ μ = (mTest a ρ μ).bind fun p => if p.1 = true then some (.val (.bl true), p.2) else b ρ p.2 := by
  unfold mOrV
  cases mTest a ρ μ with
  | none => rfl
  | some p => obtain ⟨k, μ1⟩ := p; cases k <;> rfl
theorem q_notV {a : RE} : mNotV a ρ μ = (mTest a ρ μ).bind fun p => some (.val (.bl (!p.1)), p.2) := by
  unfold mNotV
  cases mTest a ρ μ <;> rfl
theorem q_test {a : RE} : mTest a ρ μ = (a ρ μ).bind fun p => (isBl p.1).bind fun b => some (b, p.2) := by
  unfold mTest
  cases a ρ μ with
  | none => rfl
  | some p => obtain ⟨w, μ1⟩ := p; dsimp only [Option.bind]; cases isBl w <;> rfl
theorem q_op {f : D → D → Option D} {a b : RE} : mOp f a b ρ μ = (a ρ μ).bind fun p => (b ρ p.2).bind fun q => (view q.2 p.1).bind fun d => (view q.2 q.1).bind fun e => (f d e).bind fun r => some (.val r, q.2) := by
  unfold mOp
  cases a ρ μ with
  | none => rfl
  | some p =>
    obtain ⟨w, μ1⟩ := p
    dsimp only [Option.bind]
    cases b ρ μ1 with
    | none => rfl
    | some q =>
      obtain ⟨v, μ2⟩ := q
      dsimp only
      cases view μ2 w with
      | none => cases view μ2 v <;> rfl
      | some d =>
        cases view μ2 v with
        | none => rfl
        | some e => dsimp only; cases f d e <;> rfl
theorem q_un {f : D → Option D} {a : RE} : mUn f a ρ μ = (a ρ μ).bind fun p => (view p.2 p.1).bind fun d => (f d).bind fun r => some (.val r, p.2) := by
  unfold mUn
  cases a ρ μ with
  | none => rfl
  | some p =>
    obtain ⟨w, μ1⟩ := p
    dsimp only [Option.bind]
    cases view μ1 w with
    | none => rfl
    | some d => dsimp only; cases f d <;> rfl
theorem q_asg {a : RE} {g : RG} : mAsg a g ρ μ = (a ρ μ).bind fun p => (g p.1 ρ).bind fun ρ1 => some (.nx ρ1 p.2) := by
  unfold mAsg
  cases a ρ μ with
  | none => rfl
  | some p => obtain ⟨w, μ1⟩ := p; dsimp only [Option.bind]; cases g w ρ <;> rfl
theorem q_ret {a : RE} : mRet a ρ μ = (a ρ μ).bind fun p => some (.rt p.1 p.2) := by
  unfold mRet
  cases a ρ μ <;> rfl
theorem q_drop {a : RE} : mDrop a ρ μ = (a ρ μ).bind fun p => some (.nx ρ p.2) := by
  unfold mDrop
  cases a ρ μ <;> rfl
theorem q_cons {a : RE} {r : RA} : mCons a r ρ μ = (a ρ μ).bind fun p => (r ρ p.2).bind fun q => some (p.1 :: q.1, q.2) := by
  unfold mCons
  cases a ρ μ with
  | none => rfl
  | some p => obtain ⟨w, μ1⟩ := p; dsimp only [Option.bind]; cases r ρ μ1 <;> rfl
theorem q_dat {a : RA} : dat a ρ μ = (a ρ μ).bind fun p => frzL p.2 p.1 := by
  unfold dat
  cases a ρ μ <;> rfl
theorem q_dat1 {a : RE} : dat1 a ρ μ = (a ρ μ).bind fun p => frz1 p.2 p.1 := by
  unfold dat1
  cases a ρ μ <;> rfl
theorem q_tup {a : RA} : mTup a ρ μ = (dat a ρ μ).bind fun p => if p.1.length ≤ LB then some (.val (.tup p.1), p.2) else none := by
  unfold mTup
  cases dat a ρ μ <;> rfl
theorem q_lst {a : RA} : mLst a ρ μ = (dat a ρ μ).bind fun p => if p.1.length ≤ LB then some (.val (.lst p.1), p.2) else none := by
  unfold mLst
  cases dat a ρ μ <;> rfl
theorem q_lstM {a : RA} : mLstM a ρ μ = (dat a ρ μ).bind fun p => if p.1.length ≤ LB then some (.loc p.2.length, p.2 ++ [.lst p.1]) else none := by
  unfold mLstM
  cases dat a ρ μ <;> rfl
theorem q_call {f : FX} {dds : List D} {a : RA} : mCall f dds a ρ μ = (a ρ μ).bind fun p => callX f (p.1 ++ dds.map W.val) p.2 := by
  unfold mCall
  cases a ρ μ <;> rfl
theorem q_make {c : Str} {f : FX} {dds : List D} {a : RA} : mMake c f dds a ρ μ = (a ρ μ).bind fun p => makeX c f (p.1 ++ dds.map W.val) p.2 := by
  unfold mMake
  cases a ρ μ <;> rfl
theorem q_meth {c m : Str} {f : FX} {dds : List D} {o : RE} {a : RA} : mMeth c m f dds o a ρ μ = (o ρ μ).bind fun p => if recvOk c m p.2 p.1 = true then (a ρ p.2).bind fun q => callX f (p.1 :: (q.1 ++ dds.map W.val)) q.2 else none := by
  unfold mMeth
  cases o ρ μ with
  | none => rfl
  | some p =>
    obtain ⟨w, μ1⟩ := p
    dsimp only [Option.bind]
    split
    · cases a ρ μ1 <;> rfl
    · rfl
theorem q_for {i : RI} {g : RG} {b : RS} : mFor i g b ρ μ = (i ρ μ).bind fun p => loopR g b p.2.1 p.1 ρ p.2.2 := by
  unfold mFor
  cases i ρ μ <;> rfl
theorem q_lc {i : RI} {g : RG} {t : RB} {e : RE} {vs : List Nat} : mLc i g t e vs ρ μ = (i ρ μ).bind fun p => if p.1.length ≤ LB then (lcR g t e p.2.1 (wipeE ρ vs) p.1 p.2.2).bind fun q => some (.val (.lst q.1), q.2) else none := by
  unfold mLc
  cases i ρ μ with
  | none => rfl
  | some p =>
    dsimp only [Option.bind]
    split
    · cases lcR g t e p.2.1 (wipeE ρ vs) p.1 p.2.2 <;> rfl
    · rfl
theorem q_seqI {a : RE} : kSeq a ρ μ = (a ρ μ).bind fun p => (seqOf p.2 p.1).bind fun xs => some (xs, guardOf p.1 xs, p.2) := by
  unfold kSeq
  cases a ρ μ with
  | none => rfl
  | some p => obtain ⟨w, μ1⟩ := p; dsimp only [Option.bind]; cases seqOf μ1 w <;> rfl
theorem q_sl {a : RE} {l u : RO} : mSl a l u ρ μ = (a ρ μ).bind fun p => (l ρ p.2).bind fun lo => (u ρ lo.2).bind fun hi => (view hi.2 p.1).bind fun d => (slF lo.1 hi.1 d).bind fun r => some (.val r, hi.2) := by
  unfold mSl
  cases a ρ μ with
  | none => rfl
  | some p =>
    dsimp only [Option.bind]
    cases l ρ p.2 with
    | none => rfl
    | some lo =>
      dsimp only
      cases u ρ lo.2 with
      | none => rfl
      | some hi =>
        dsimp only
        cases view hi.2 p.1 with
        | none => rfl
        | some d => dsimp only; cases slF lo.1 hi.1 d <;> rfl
end DX
namespace DX
open PySem PySem.Spec L2 DK
variable {ρ : Env'} {μ : Mu}
theorem loop_cons {g : RG} {b : RS} {c : Option (Nat × List D)} {x : D} {xs : List D} : loopR g b c (x :: xs) ρ μ = (g (.val x) ρ).bind fun ρ1 => (b ρ1 μ).bind fun o => match o with
      | .nx ρ2 μ2 => if standB c μ2 = true then loopR g b c xs ρ2 μ2 else none
      | .ct ρ2 μ2 => if standB c μ2 = true then loopR g b c xs ρ2 μ2 else none
      | .bk ρ2 μ2 => some (.nx ρ2 μ2)
      | .rt w μ2 => some (.rt w μ2) := by
  rw [loopR]
  cases g (.val x) ρ with
  | none => rfl
  | some ρ1 =>
    dsimp only [Option.bind]
    cases b ρ1 μ with
    | none => rfl
    | some o => cases o <;> rfl
theorem loop_nil {g : RG} {b : RS} {c : Option (Nat × List D)} : loopR g b c [] ρ μ = some (.nx ρ μ) := rfl
theorem loop_find {α : Type} {g : RG} {b : RS} {c : Option (Nat × List D)} {f : α → D} {p : α → Bool} {w : α → W} {Inv : Env' → Prop} (hc : standB c μ = true) : ∀ {l : List α} {ρ : Env'}, (∀ x ρ, x ∈ l → Inv ρ → ∃ ρ1, g (.val (f x)) ρ = some ρ1 ∧ (p x = true → b ρ1 μ = some (.rt (w x) μ)) ∧ (p x = false → ∃ ρ2, Inv ρ2 ∧ (b ρ1 μ = some (.nx ρ2 μ) ∨ b ρ1 μ = some (.ct ρ2 μ)))) → Inv ρ →
    (∀ x, l.find? p = some x → loopR g b c (l.map f) ρ μ = some (.rt (w x) μ)) ∧ (l.find? p = none → ∃ ρ2, Inv ρ2 ∧ loopR g b c (l.map f) ρ μ = some (.nx ρ2 μ))
  | [], ρ, _, h0 => ⟨fun x e => by simp at e, fun _ => ⟨ρ, h0, rfl⟩⟩
  | x :: l, ρ, hs, h0 => by
    obtain ⟨ρ1, hg, ht, hf⟩ := hs x ρ (by simp) h0
    cases e : p x with
    | true =>
      rw [List.find?_cons_of_pos (by simpa using e)]
      refine ⟨fun y ey => ?_, fun z => by cases z⟩
      cases ey
      rw [List.map_cons, loop_cons, hg]
      dsimp only [Option.bind]
      rw [ht e]
    | false =>
      obtain ⟨ρ2, h2, hb⟩ := hf e
      have ih := loop_find (l := l) (ρ := ρ2) hc (fun y ρ hy => hs y ρ (List.mem_cons_of_mem _ hy)) h2
      rw [List.find?_cons_of_neg (by rw [e]; exact Bool.false_ne_true), List.map_cons, loop_cons, hg]
      dsimp only [Option.bind]
      rcases hb with hb | hb <;> (rw [hb]; dsimp only; rw [if_pos hc]; exact ih)
theorem loop_inv {α : Type} {g : RG} {b : RS} {c : Option (Nat × List D)} {f : α → D} {I : Nat → Env' → Mu → Prop} : ∀ {l : List α} {k : Nat} {ρ : Env'} {μ : Mu}, (∀ n x ρ μ, l[n]? = some x → I (k + n) ρ μ → ∃ ρ1 ρ2 μ2, g (.val (f x)) ρ = some ρ1 ∧ (b ρ1 μ = some (.nx ρ2 μ2) ∨ b ρ1 μ = some (.ct ρ2 μ2)) ∧ standB c μ2 = true ∧ I (k + n + 1) ρ2 μ2) → I k ρ μ → ∃ ρ2 μ2, loopR g b c (l.map f) ρ μ = some (.nx ρ2 μ2) ∧ I (k + l.length) ρ2 μ2
  | [], k, ρ, μ, _, h0 => ⟨ρ, μ, rfl, h0⟩
  | x :: l, k, ρ, μ, hs, h0 => by
    obtain ⟨ρ1, ρ2, μ2, hg, hb, hc, h1⟩ := hs 0 x ρ μ rfl h0
    obtain ⟨ρ3, μ3, e3, h3⟩ := loop_inv (l := l) (k := k + 1) (ρ := ρ2) (μ := μ2) (f := f) (g := g) (b := b) (c := c) (I := I) (fun n y ρ μ hy hI => by
      have := hs (n + 1) y ρ μ (by simpa using hy) (by rw [show k + (n + 1) = k + 1 + n by omega]; exact hI)
      obtain ⟨a1, a2, a3, q1, q2, q3, q4⟩ := this
      exact ⟨a1, a2, a3, q1, q2, q3, by rw [show k + 1 + n + 1 = k + (n + 1) + 1 by omega]; exact q4⟩) h1
    refine ⟨ρ3, μ3, ?_, by rw [List.length_cons, show k + (l.length + 1) = k + 1 + l.length by omega]; exact h3⟩
    rw [List.map_cons, loop_cons, hg]
    dsimp only [Option.bind]
    rcases hb with hb | hb <;> (rw [hb]; dsimp only; rw [if_pos hc]; exact e3)
theorem lc_map {α : Type} {g : RG} {t : RB} {e : RE} {c : Option (Nat × List D)} {f h : α → D} {p : α → Bool} (hc : standB c μ = true) : ∀ {l : List α}, (∀ x ∈ l, ∃ ρ1, g (.val (f x)) ρ = some ρ1 ∧ t ρ1 μ = some (p x, μ) ∧ (p x = true → dat1 e ρ1 μ = some (h x, μ))) → lcR g t e c ρ (l.map f) μ = some ((l.filter p).map h, μ)
  | [], _ => rfl
  | x :: l, hs => by
    obtain ⟨ρ1, hg, ht, he⟩ := hs x (by simp)
    have ih := lc_map (l := l) hc (fun y hy => hs y (List.mem_cons_of_mem _ hy))
    rw [List.map_cons, lcR, hg]
    dsimp only
    rw [ht]
    cases e : p x with
    | true =>
      dsimp only
      rw [he e]
      dsimp only
      rw [if_pos hc, ih, List.filter_cons_of_pos e]
      rfl
    | false =>
      dsimp only
      rw [if_pos hc, ih, List.filter_cons_of_neg (by rw [e]; exact Bool.false_ne_true)]
theorem lc_map1 {α : Type} {g : RG} {e : RE} {c : Option (Nat × List D)} {f h : α → D} (hc : standB c μ = true) {l : List α} (hs : ∀ x ∈ l, ∃ ρ1, g (.val (f x)) ρ = some ρ1 ∧ dat1 e ρ1 μ = some (h x, μ)) : lcR g mYes e c ρ (l.map f) μ = some (l.map h, μ) := by
  have := lc_map (p := fun _ => true) (t := mYes) (e := e) (g := g) (f := f) (h := h) (ρ := ρ) hc (l := l) (fun x hx => by
    obtain ⟨ρ1, h1, h2⟩ := hs x hx
    exact ⟨ρ1, h1, rfl, fun _ => h2⟩)
  rw [List.filter_eq_self.mpr (fun _ _ => rfl)] at this
  exact this
theorem inF_strsT {neg : Bool} {s : Str} {ss : List Str} : inF neg (.str s) (.tup (ss.map D.str)) = some (.bl (neg ^^ decide (s ∈ ss))) := by
  have h1 : (ss.map D.str).all flatD = true := by simp [flatD]
  have h2 : (ss.map D.str).map dV = ss.map V.str := by simp [dV]
  unfold inF
  dsimp only
  rw [if_pos ⟨rfl, h1⟩, h2]
  exact congrArg (fun b => some (D.bl (neg ^^ b))) inV_strs
theorem inF_strsL {neg : Bool} {s : Str} {ss : List Str} : inF neg (.str s) (.lst (ss.map D.str)) = some (.bl (neg ^^ decide (s ∈ ss))) := by
  have h1 : (ss.map D.str).all flatD = true := by simp [flatD]
  have h2 : (ss.map D.str).map dV = ss.map V.str := by simp [dV]
  unfold inF
  dsimp only
  rw [if_pos ⟨rfl, h1⟩, h2]
  exact congrArg (fun b => some (D.bl (neg ^^ b))) inV_strs
theorem inF_seqS {neg : Bool} {s : Str} {ss : List Str} {m : D} (h : seqD m = some (ss.map D.str)) : inF neg (.str s) m = some (.bl (neg ^^ decide (s ∈ ss))) := by
  cases m with
  | tup ys => cases h; exact inF_strsT
  | lst ys => cases h; exact inF_strsL
  | _ => cases h
theorem splitF_sp {s : Str} : splitF (.str s) (.str " ") = some (.lst ((wds s).map D.str)) := by
  unfold splitF
  dsimp only
  rw [if_pos ⟨sp_ne, sp_k⟩]
  rfl
theorem seqOf_D {μ : Mu} {m : D} {xs : List D} (h : seqD m = some xs) : seqOf μ (.val m) = some xs := by
  cases m with
  | tup ys => cases h; rfl
  | lst ys => cases h; rfl
  | _ => cases h
theorem frz1_val {d : D} : frz1 μ (.val d) = some (d, μ) := rfl
theorem dat1_val {e : RE} {d : D} {μ1 : Mu} (h : e ρ μ = some (.val d, μ1)) : dat1 e ρ μ = some (d, μ1) := by
  unfold dat1
  rw [h]
  rfl
theorem body_rt {fz : Bool} {k n : Nat} {m : RS} {ws : List W} {w : W} {μ1 : Mu} {r : Option (W × Mu)} (hk : ws.length = k) (h : m (start n ws) μ = some (.rt w μ1)) (he : exitF fz μ.length w μ1 = r) : bodyF fz k n m ws μ = r := by
  unfold bodyF
  rw [if_pos hk, h]
  exact he
theorem seq_nx {a b : RS} {ρ1 : Env'} {μ1 : Mu} {r : Option Out} (h : a ρ μ = some (.nx ρ1 μ1)) (k : b ρ1 μ1 = r) : mSeq a b ρ μ = r := by
  unfold mSeq
  rw [h]
  exact k
theorem seq_rt {a b : RS} {w : W} {μ1 : Mu} (h : a ρ μ = some (.rt w μ1)) : mSeq a b ρ μ = some (.rt w μ1) := by
  unfold mSeq
  rw [h]
theorem if_t {t : RB} {a b : RS} {μ1 : Mu} {r : Option Out} {k : Bool} (h : t ρ μ = some (k, μ1)) (hk : k = true) (q : a ρ μ1 = r) : mIfS t a b ρ μ = r := by
  unfold mIfS
  rw [h, hk]
  exact q
theorem if_f {t : RB} {a b : RS} {μ1 : Mu} {r : Option Out} {k : Bool} (h : t ρ μ = some (k, μ1)) (hk : k = false) (q : b ρ μ1 = r) : mIfS t a b ρ μ = r := by
  unfold mIfS
  rw [h, hk]
  exact q
theorem for_of {i : RI} {g : RG} {b : RS} {xs : List D} {c : Option (Nat × List D)} {μ1 : Mu} {r : Option Out} (h : i ρ μ = some (xs, c, μ1)) (k : loopR g b c xs ρ μ1 = r) : mFor i g b ρ μ = r := by
  unfold mFor
  rw [h]
  exact k
theorem ret_of {a : RE} {w : W} {μ1 : Mu} (h : a ρ μ = some (w, μ1)) : mRet a ρ μ = some (.rt w μ1) := by
  unfold mRet
  rw [h]
theorem asg_of {a : RE} {i : Nat} {w : W} {μ1 : Mu} (h : a ρ μ = some (w, μ1)) : mAsg a (hName i) ρ μ = some (.nx (ρ.set i (some w)) μ1) := by
  unfold mAsg
  rw [h]
  rfl
theorem test_of {a : RE} {k : Bool} {μ1 : Mu} (h : a ρ μ = some (.val (.bl k), μ1)) : mTest a ρ μ = some (k, μ1) := by
  unfold mTest
  rw [h]
  rfl
theorem op_of {f : D → D → Option D} {a b : RE} {x y r : D} {μ1 μ2 : Mu} (h1 : a ρ μ = some (.val x, μ1)) (h2 : b ρ μ1 = some (.val y, μ2)) (h : f x y = some r) : mOp f a b ρ μ = some (.val r, μ2) := by
  rw [q_op, h1]
  dsimp only [Option.bind]
  rw [h2]
  dsimp only [view]
  rw [h]
theorem un_of {f : D → Option D} {a : RE} {x r : D} {μ1 : Mu} (h1 : a ρ μ = some (.val x, μ1)) (h : f x = some r) : mUn f a ρ μ = some (.val r, μ1) := by
  rw [q_un, h1]
  dsimp only [Option.bind, view]
  rw [h]
theorem seqI_of {a : RE} {m : D} {xs : List D} {μ1 : Mu} (h : a ρ μ = some (.val m, μ1)) (k : seqD m = some xs) : kSeq a ρ μ = some (xs, none, μ1) := by
  unfold kSeq
  rw [h]
  dsimp only
  rw [seqOf_D k]
  rfl
theorem lc_of {i : RI} {g : RG} {t : RB} {e : RE} {vs : List Nat} {xs ys : List D} {c : Option (Nat × List D)} {μ1 μ2 : Mu} (h : i ρ μ = some (xs, c, μ1)) (hz : xs.length ≤ LB) (k : lcR g t e c (wipeE ρ vs) xs μ1 = some (ys, μ2)) : mLc i g t e vs ρ μ = some (.val (.lst ys), μ2) := by
  unfold mLc
  rw [h]
  dsimp only
  rw [if_pos hz, k]
theorem call_of {f : FX} {a : RA} {ws : List W} {w : W} {μ1 μ2 : Mu} (h : a ρ μ = some (ws, μ1)) (k : callX f ws μ1 = some (w, μ2)) : mCall f [] a ρ μ = some (w, μ2) := by
  unfold mCall
  rw [h]
  dsimp only
  rw [List.map_nil, List.append_nil]
  exact k
end DX
namespace DX
open PySem PySem.Spec L2 DK
def m_law_deal_1 : RS :=
  (mAsg (mOp mdF (mUn intF (mOp plusF (mOp timesF (mVar 4) (mC (.int 16807))) (mOp mdF (mUn intF (mVar 2)) (mC (.int 2147483629))))) (mC (.int 2147483647))) (hName 4))
def m_law_deal : RS :=
  (mSeq (mAsg (mLc (kSeq (mSl (mVar 0) (mPart (mVar 1)) (mPart (mC (.int 60))))) (hName 2) mYes (mUn absF (mVar 2)) [2]) (hName 3))
      (mSeq (mAsg (mOp plusF (mC (.int 36195017)) (mOp timesF (mC (.int 43)) (mVar 1))) (hName 4))
      (mSeq (mFor (kSeq (mVar 3)) (hName 2) m_law_deal_1)
      (mRet (mLsW (mCons (mRevM (mLc (kSeq (mVar 3)) (hName 2) (mTest (mOp geF (mVar 2) (mOp pwF (mC (.int 10)) (mC (.int 18))))) (mVar 2) [2])) (mCons (mVar 4) mNil)))))))
def f_law_deal : FX := bodyF false 2 5 m_law_deal
def m_law_draw_1 : RS :=
  (mDrop (mPop (mIx (mVar 0) (mC (.int 0)))))
def m_law_draw : RS :=
  (mSeq (mWhile (mAnd (mTest (mOp (eqF true) (mIx (mVar 0) (mC (.int 0))) (mLst mNil))) (mTest (mOp (eqF false) (mIx (mIx (mVar 0) (mC (.int 0))) (mUn negF (mC (.int 1)))) (mC (.int 0))))) m_law_draw_1)
      (mSeq (mIfS (mTest (mOp (eqF true) (mIx (mVar 0) (mC (.int 0))) (mLst mNil))) (mSeq (mAsg (mPop (mIx (mVar 0) (mC (.int 0)))) (hName 2))
      (mSeq (mDrop (mAppend (mIx (mVar 0) (mC (.int 0))) (mCons (mOp fdF (mVar 2) (mVar 1)) mNil)))
      (mRet (mOp mdF (mUn intF (mVar 2)) (mVar 1))))) mNext)
      (mSeq (mSetI (mOp mdF (mUn intF (mOp plusF (mOp timesF (mIx (mVar 0) (mC (.int 1))) (mC (.int 48271))) (mC (.int 11)))) (mC (.int 2147483647))) (mVar 0) (mC (.int 1)))
      (mRet (mOp mdF (mUn intF (mOp fdF (mIx (mVar 0) (mC (.int 1))) (mC (.int 8)))) (mVar 1))))))
def f_law_draw : FX := bodyF true 2 3 m_law_draw
def m_law_pick : RS :=
  (mRet (mIx (mVar 1) (mCall f_law_draw [] (mCons (mVar 0) (mCons (mUn lenF (mVar 1)) mNil)))))
def f_law_pick : FX := bodyF true 2 2 m_law_pick
theorem callX_front {f : FX} {ws : List W} {μ0 rest : Mu} {w : W} {μ1 : Mu} (ht : locTop ws = μ0.length) (hb : μ0.all (MO.below μ0.length) = true) (h : f ws μ0 = some (w, μ1)) (hl : μ1.length = μ0.length) : callX f ws (μ0 ++ rest) = some (w, μ1 ++ rest) := by
  have e : preN ws (μ0 ++ rest) = μ0.length := by
    unfold preN
    rw [ht, List.take_left, if_pos]
    exact ⟨by rw [List.length_append]; omega, hb⟩
  unfold callX
  rw [e, List.take_left, h]
  dsimp only
  rw [if_pos hl, List.drop_left]
theorem callX_pure {f : FX} {ws : List W} {μ : Mu} {w : W} (ht : locTop ws = 0) (h : f ws [] = some (w, [])) : callX f ws μ = some (w, μ) := callX_front (μ0 := []) (rest := μ) ht rfl h rfl
def dst (d : Dl) : Mu := [.lst (d.1.map D.int), .lsW [.loc 0, .val (.int d.2)]]
theorem callX_dst {f : FX} {ws : List W} {rest : Mu} {w : W} {d d' : Dl} (ht : locTop ws = 2) (h : f ws (dst d) = some (w, dst d')) : callX f ws (dst d ++ rest) = some (w, dst d' ++ rest) := callX_front (μ0 := dst d) ht rfl h rfl
theorem eqF_ints {neg : Bool} {a b : List Int} : eqF neg (.lst (a.map D.int)) (.lst (b.map D.int)) = some (.bl (neg ^^ decide (a = b))) := by
  have e : eqP (.lst (a.map D.int)) (.lst (b.map D.int)) = decide (a = b) := by
    show PyData.eqvAll (toPyL (a.map D.int)) (toPyL (b.map D.int)) = _
    induction a generalizing b with
    | nil => cases b <;> simp [toPyL, toPy, PyData.eqvAll]
    | cons x a ih =>
      cases b with
      | nil => simp [toPyL, toPy, PyData.eqvAll]
      | cons y b =>
        simp only [List.map_cons, toPyL, toPy, PyData.eqvAll, PyData.eqv, ih]
        by_cases h : x = y <;> simp [h]
  unfold eqF
  dsimp only
  rw [if_pos ⟨pyOkL_ints, pyOkL_ints, depth_ints, depth_ints⟩, e]
theorem eqF_nil {neg : Bool} {a : List Int} : eqF neg (.lst (a.map D.int)) (.lst []) = some (.bl (neg ^^ decide (a = []))) := eqF_ints (b := [])
theorem nil_or_app {α : Type} (l : List α) : l = [] ∨ ∃ r x, l = r ++ [x] := by
  rcases List.eq_nil_or_concat l with h | ⟨r, x, h⟩
  · exact .inl h
  · exact .inr ⟨r, x, by rw [h, List.concat_eq_append]⟩
theorem whileR_succ {t : RB} {b : RS} {n : Nat} {ρ : Env'} {μ : Mu} : whileR t b (n + 1) ρ μ = match t ρ μ with
    | some (false, μ1) => some (.nx ρ μ1)
    | some (true, μ1) => match b ρ μ1 with
      | some (.nx ρ2 μ2) => whileR t b n ρ2 μ2
      | some (.ct ρ2 μ2) => whileR t b n ρ2 μ2
      | some (.bk ρ2 μ2) => some (.nx ρ2 μ2)
      | some (.rt w μ2) => some (.rt w μ2)
      | none => none
    | none => none := rfl
def tDraw : RB := (mAnd (mTest (mOp (eqF true) (mIx (mVar 0) (mC (.int 0))) (mLst mNil))) (mTest (mOp (eqF false) (mIx (mIx (mVar 0) (mC (.int 0))) (mUn negF (mC (.int 1)))) (mC (.int 0)))))
theorem big_at {ρ : Env'} {d : Dl} (h : ρ[0]? = some (some (.loc 1))) : mIx (mVar 0) (mC (.int 0)) ρ (dst d) = some (.loc 0, dst d) := by
  unfold mIx mVar mC
  rw [h]
  rfl
theorem bigNe {ρ : Env'} {d : Dl} (h : ρ[0]? = some (some (.loc 1))) : mTest (mOp (eqF true) (mIx (mVar 0) (mC (.int 0))) (mLst mNil)) ρ (dst d) = some (!decide (d.1 = []), dst d) := by
  unfold mTest mOp
  rw [big_at h]
  have e : mLst mNil ρ (dst d) = some (.val (.lst []), dst d) := rfl
  dsimp only
  rw [e]
  dsimp only
  have v : view (dst d) (.loc 0) = some (.lst (d.1.map D.int)) := rfl
  rw [v]
  dsimp only [view]
  rw [eqF_nil]
  dsimp only [isBl]
  rw [Bool.true_xor]
theorem last_at {l : List Int} {x : Int} : atI ((l ++ [x]).map D.int) (-1) = some (.int x) := at_map (DK.at_last (l := l) (x := x))
theorem lastZ {ρ : Env'} {l : List Int} {x m : Int} (h : ρ[0]? = some (some (.loc 1))) : mTest (mOp (eqF false) (mIx (mIx (mVar 0) (mC (.int 0))) (mUn negF (mC (.int 1)))) (mC (.int 0))) ρ (dst (l ++ [x], m)) = some (decide (x = 0), dst (l ++ [x], m)) := by
  have e1 : mIx (mIx (mVar 0) (mC (.int 0))) (mUn negF (mC (.int 1))) ρ (dst (l ++ [x], m)) = some (.val (.int x), dst (l ++ [x], m)) := by
    unfold mIx
    have := big_at (ρ := ρ) (d := (l ++ [x], m)) h
    unfold mIx at this
    rw [this]
    show (match ixF (.lst ((l ++ [x]).map D.int)) (.int (-1)) with
      | some r => some (W.val r, dst (l ++ [x], m))
      | none => none) = _
    rw [show ixF (.lst ((l ++ [x]).map D.int)) (.int (-1)) = some (.int x) from last_at]
  exact test_of (op_of e1 rfl (by simp only [eqF, Bool.false_xor]))
theorem pop_at {ρ : Env'} {l : List Int} {x m : Int} (h : ρ[0]? = some (some (.loc 1))) : mPop (mIx (mVar 0) (mC (.int 0))) ρ (dst (l ++ [x], m)) = some (.val (.int x), dst (l, m)) := by
  unfold mPop
  rw [big_at h]
  show (match ((l ++ [x]).map D.int).getLast? with
    | some d => some (W.val d, (dst (l ++ [x], m)).set 0 (.lst ((l ++ [x]).map D.int).dropLast))
    | none => none) = _
  rw [List.map_append, List.map_singleton, List.getLast?_concat, List.dropLast_concat]
  rfl
theorem while_draw {ρ : Env'} {m : Int} (h : ρ[0]? = some (some (.loc 1))) : ∀ (n : Nat) (big : List Int), big.length < n → whileR tDraw m_law_draw_1 n ρ (dst (big, m)) = some (.nx ρ (dst (dropZ big, m)))
  | 0, _, hn => by omega
  | n + 1, big, hn => by
    rw [whileR_succ]
    rcases nil_or_app big with rfl | ⟨l, x, rfl⟩
    · have : tDraw ρ (dst ([], m)) = some (false, dst ([], m)) := by
        unfold tDraw
        rw [q_and, bigNe h]
        rfl
      rw [this]
      rfl
    · have hl : l.length < n := by
        rw [List.length_append, List.length_singleton] at hn
        omega
      have : tDraw ρ (dst (l ++ [x], m)) = some (decide (x = 0), dst (l ++ [x], m)) := by
        unfold tDraw
        rw [q_and, bigNe h]
        simp only [Option.bind_some]
        rw [lastZ h]
        simp
      rw [this]
      by_cases hx : x = 0
      · subst hx
        rw [decide_eq_true rfl]
        dsimp only
        have hb : m_law_draw_1 ρ (dst (l ++ [0], m)) = some (.nx ρ (dst (l, m))) := by
          unfold m_law_draw_1 mDrop
          rw [pop_at h]
        rw [hb]
        dsimp only
        rw [while_draw h n l hl, dropZ_zero]
      · rw [decide_eq_false hx]
        dsimp only
        rw [dropZ_nz hx]
theorem e_draw {d : Dl} {many : Int} (hz : d.1.length ≤ LB - 1) (h0 : 0 < many) (h1 : many < 1073741824) : f_law_draw [.loc 1, .val (.int many)] (dst d) = some (.val (.int (drawM many d).1), dst (drawM many d).2) := by
  obtain ⟨big, m⟩ := d
  have hw : mWhile tDraw m_law_draw_1 [some (.loc 1), some (.val (.int many)), none] (dst (big, m)) = some (.nx [some (.loc 1), some (.val (.int many)), none] (dst (dropZ big, m))) := while_draw rfl fuel big (by
    have : LB = 100000 := rfl
    have : fuel = 100000 := rfl
    simp only at hz
    omega)
  have key : m_law_draw [some (.loc 1), some (.val (.int many)), none] (dst (big, m)) = some (.rt (.val (.int (drawM many (big, m)).1)) (dst (drawM many (big, m)).2)) := by
    refine seq_nx hw ?_
    rcases nil_or_app (dropZ big) with e | ⟨l, x, e⟩
    · have ed : drawM many (big, m) = (((m * 48271 + 11) % 2147483647 / 8) % many, ([], (m * 48271 + 11) % 2147483647)) := by
        unfold drawM
        simp only [e]
        rfl
      rw [ed, e]
      refine seq_nx (if_f (bigNe rfl) (by simp) rfl) ?_
      have em : ∀ {ρ : Env'} {d : Dl}, ρ[0]? = some (some (.loc 1)) → mIx (mVar 0) (mC (.int 1)) ρ (dst d) = some (.val (.int d.2), dst d) := fun {ρ d} h => by
        unfold mIx mVar mC
        rw [h]
        rfl
      refine seq_nx (ρ1 := [some (.loc 1), some (.val (.int many)), none]) (μ1 := dst ([], (m * 48271 + 11) % 2147483647)) ?_ ?_
      · unfold mSetI
        have e2 : mOp mdF (mUn intF (mOp plusF (mOp timesF (mIx (mVar 0) (mC (.int 1))) (mC (.int 48271))) (mC (.int 11)))) (mC (.int 2147483647)) [some (.loc 1), some (.val (.int many)), none] (dst ([], m)) = some (.val (.int ((m * 48271 + 11) % 2147483647)), dst ([], m)) := by
          have t1 : timesF (.int m) (.int 48271) = some (.int (m * 48271)) := by
            show (if _ then _ else _) = _
            rw [if_pos (.inr ⟨by omega, by omega⟩)]
          exact op_of (x := .int (m * 48271 + 11)) (un_of (x := .int (m * 48271 + 11)) (op_of (x := .int (m * 48271)) (y := .int 11) (op_of (x := .int m) (em rfl) rfl t1) rfl rfl) rfl) rfl rfl
        rw [e2]
        rfl
      · refine ret_of (op_of (un_of (op_of (em rfl) rfl rfl) rfl) rfl ?_)
        show (if _ then _ else _) = _
        rw [if_pos h0]
    · have ed : drawM many (big, m) = (x % many, (l ++ [x / many], m)) := by
        unfold drawM
        simp only [e, List.getLast?_concat, List.dropLast_concat]
      rw [ed, e]
      refine seq_rt (if_t (bigNe rfl) (by simp) ?_)
      refine seq_nx (asg_of (pop_at rfl)) ?_
      refine seq_nx (ρ1 := [some (.loc 1), some (.val (.int many)), some (.val (.int x))]) (μ1 := dst (l ++ [x / many], m)) ?_ ?_
      · show mDrop (mAppend (mIx (mVar 0) (mC (.int 0))) (mCons (mOp fdF (mVar 2) (mVar 1)) mNil)) [some (.loc 1), some (.val (.int many)), some (.val (.int x))] (dst (l, m)) = _
        unfold mDrop mAppend
        rw [big_at rfl]
        have ev : view (dst (l, m)) (.loc 0) = some (.lst (l.map D.int)) := rfl
        have ef : dat (mCons (mOp fdF (mVar 2) (mVar 1)) mNil) [some (.loc 1), some (.val (.int many)), some (.val (.int x))] (dst (l, m)) = some ([.int (x / many)], dst (l, m)) := by
          rw [q_dat, q_cons, op_of (x := .int x) (y := .int many) (r := .int (x / many)) (μ1 := dst (l, m)) (μ2 := dst (l, m)) rfl rfl (by show (if _ then _ else _) = _; rw [if_pos ⟨h0, h1⟩])]
          rfl
        dsimp only
        rw [ev, ef]
        show (match (if (l.map D.int).length < LB then some (W.val .non, (dst (l, m)).set 0 (.lst (l.map D.int ++ [.int (x / many)]))) else none) with
          | some (_, μ1) => some (Out.nx _ μ1)
          | none => none) = _
        have hlen : (l.map D.int).length < LB := by
          rw [List.length_map]
          have h3 := dropZ_len (l := big)
          rw [e, List.length_append, List.length_singleton] at h3
          have : LB = 100000 := rfl
          simp only at hz
          omega
        rw [if_pos hlen]
        show some (Out.nx _ [MO.lst (l.map D.int ++ [.int (x / many)]), _]) = some (Out.nx _ [MO.lst ((l ++ [x / many]).map D.int), _])
        rw [List.map_append, List.map_singleton]
      · refine ret_of (op_of (un_of rfl rfl) rfl ?_)
        show (if _ then _ else _) = _
        rw [if_pos h0]
  exact body_rt rfl key rfl
def bDeal (p q : Int) : RS := (mAsg (mOp mdF (mUn intF (mOp plusF (mOp timesF (mVar 4) (mC (.int 16807))) (mOp mdF (mUn intF (mVar 2)) (mC (.int p))))) (mC (.int q))) (hName 4))
def gDeal (a b p q : Int) : RS :=
  (mSeq (mAsg (mLc (kSeq (mSl (mVar 0) (mPart (mVar 1)) (mPart (mC (.int 60))))) (hName 2) mYes (mUn absF (mVar 2)) [2]) (hName 3))
      (mSeq (mAsg (mOp plusF (mC (.int a)) (mOp timesF (mC (.int b)) (mVar 1))) (hName 4))
      (mSeq (mFor (kSeq (mVar 3)) (hName 2) (bDeal p q))
      (mRet (mLsW (mCons (mRevM (mLc (kSeq (mVar 3)) (hName 2) (mTest (mOp geF (mVar 2) (mOp pwF (mC (.int 10)) (mC (.int 18))))) (mVar 2) [2])) (mCons (mVar 4) mNil)))))))
theorem timesF_l {i j : Int} (h : -(2 ^ 64) < i ∧ i < 2 ^ 64) : timesF (.int i) (.int j) = some (.int (i * j)) := by
  show (if _ then _ else _) = _
  rw [if_pos (.inl h)]
theorem timesF_r {i j : Int} (h : -(2 ^ 64) < j ∧ j < 2 ^ 64) : timesF (.int i) (.int j) = some (.int (i * j)) := by
  show (if _ then _ else _) = _
  rw [if_pos (.inr h)]
theorem mdF_pos {i j : Int} (h : 0 < j) : mdF (.int i) (.int j) = some (.int (i % j)) := by
  show (if _ then _ else _) = _
  rw [if_pos h]
theorem e_gdeal {a b p q base : Int} {ns : List Int} (hb : -(2 ^ 64) < b ∧ b < 2 ^ 64) (hp : 0 < p) (hq : 0 < q) (hz : ns.length ≤ 1000) : ∃ d : Dl, bodyF false 2 5 (gDeal a b p q) [.val (.scr ns), .val (.int base)] [] = some (.loc 1, dst d) ∧ d.1.length ≤ ns.length := by
  have hlb : LB = 100000 := rfl
  have hcl := cutI_len (xs := ns) (lo := some base) (hi := some 60)
  have ecut : DK.cutD (ns.map D.int) (some base) (some 60) = (cutI ns (some base) (some 60)).map D.int := cutD_map
  generalize hcs : cutI ns (some base) (some 60) = cs at *
  have s1 : mAsg (mLc (kSeq (mSl (mVar 0) (mPart (mVar 1)) (mPart (mC (.int 60))))) (hName 2) mYes (mUn absF (mVar 2)) [2]) (hName 3) [some (.val (.scr ns)), some (.val (.int base)), none, none, none] [] = some (.nx [some (.val (.scr ns)), some (.val (.int base)), none, some (.val (.lst ((cs.map absI).map D.int))), none] []) := by
    have e1 : mSl (mVar 0) (mPart (mVar 1)) (mPart (mC (.int 60))) [some (.val (.scr ns)), some (.val (.int base)), none, none, none] [] = some (.val (.lst (cs.map D.int)), []) := by
      unfold mSl
      show (match (if ns.length ≤ LB then some (D.lst (DK.cutD (ns.map D.int) (some base) (some 60))) else none) with
        | some r => some (W.val r, [])
        | none => none) = _
      rw [if_pos (by omega), ecut]
    refine asg_of (lc_of (xs := cs.map D.int) (c := none) (seqI_of e1 rfl) (by rw [List.length_map]; omega) ?_)
    rw [List.map_map]
    exact lc_map1 rfl fun x hx => ⟨_, rfl, rfl⟩
  have s2 : mAsg (mOp plusF (mC (.int a)) (mOp timesF (mC (.int b)) (mVar 1))) (hName 4) [some (.val (.scr ns)), some (.val (.int base)), none, some (.val (.lst ((cs.map absI).map D.int))), none] [] = some (.nx [some (.val (.scr ns)), some (.val (.int base)), none, some (.val (.lst ((cs.map absI).map D.int))), some (.val (.int (a + b * base)))] []) :=
    asg_of (op_of rfl (op_of rfl rfl (timesF_l hb)) rfl)
  obtain ⟨ρ2, μ2, hl, y, m, e1, e2⟩ := loop_inv (l := cs.map absI) (k := 0) (c := none) (f := D.int) (g := hName 2) (b := bDeal p q) (I := fun _ ρ μ => ∃ y m, ρ = [some (.val (.scr ns)), some (.val (.int base)), y, some (.val (.lst ((cs.map absI).map D.int))), some (.val (.int m))] ∧ μ = [])
    (ρ := [some (.val (.scr ns)), some (.val (.int base)), none, some (.val (.lst ((cs.map absI).map D.int))), some (.val (.int (a + b * base)))]) (μ := [])
    (fun n x ρ μ hx ⟨y, m, e1, e2⟩ => by
      subst e1 e2
      refine ⟨_, [some (.val (.scr ns)), some (.val (.int base)), some (.val (.int x)), some (.val (.lst ((cs.map absI).map D.int))), some (.val (.int ((m * 16807 + x % p) % q)))], [], rfl, .inl ?_, rfl, _, _, rfl, rfl⟩
      exact asg_of (op_of (x := .int (m * 16807 + x % p)) (un_of (x := .int (m * 16807 + x % p)) (op_of (x := .int (m * 16807)) (y := .int (x % p)) (op_of (x := .int m) rfl rfl (timesF_r ⟨by omega, by omega⟩)) (op_of (x := .int x) (un_of (x := .int x) rfl rfl) rfl (mdF_pos hp)) rfl) rfl) rfl (mdF_pos hq))) ⟨none, _, rfl, rfl⟩
  subst e1 e2
  have s3 : mFor (kSeq (mVar 3)) (hName 2) (bDeal p q) [some (.val (.scr ns)), some (.val (.int base)), none, some (.val (.lst ((cs.map absI).map D.int))), some (.val (.int (a + b * base)))] [] = some (.nx [some (.val (.scr ns)), some (.val (.int base)), y, some (.val (.lst ((cs.map absI).map D.int))), some (.val (.int m))] []) := for_of (seqI_of rfl rfl) hl
  have s4 : mLc (kSeq (mVar 3)) (hName 2) (mTest (mOp geF (mVar 2) (mOp pwF (mC (.int 10)) (mC (.int 18))))) (mVar 2) [2] [some (.val (.scr ns)), some (.val (.int base)), y, some (.val (.lst ((cs.map absI).map D.int))), some (.val (.int m))] [] = some (.val (.lst (((cs.map absI).filter fun c => decide (10 ^ 18 ≤ c)).map D.int)), []) :=
    lc_of (c := none) (seqI_of rfl rfl) (by rw [List.length_map, List.length_map]; omega) (lc_map (p := fun c => decide (10 ^ 18 ≤ c)) rfl fun x hx => ⟨_, rfl, test_of (op_of (x := .int x) (y := .int (10 ^ 18)) rfl (op_of rfl rfl rfl) rfl), fun _ => rfl⟩)
  refine ⟨(((cs.map absI).filter fun c => decide (10 ^ 18 ≤ c)).reverse, m), ?_, ?_⟩
  · refine body_rt (w := .loc 1) (μ1 := dst (((cs.map absI).filter fun c => decide (10 ^ 18 ≤ c)).reverse, m)) rfl (seq_nx s1 (seq_nx s2 (seq_nx s3 (ret_of ?_)))) rfl
    unfold mLsW
    have e1 : mRevM (mLc (kSeq (mVar 3)) (hName 2) (mTest (mOp geF (mVar 2) (mOp pwF (mC (.int 10)) (mC (.int 18))))) (mVar 2) [2]) [some (.val (.scr ns)), some (.val (.int base)), y, some (.val (.lst ((cs.map absI).map D.int))), some (.val (.int m))] [] = some (.loc 0, [.lst (((cs.map absI).filter fun c => decide (10 ^ 18 ≤ c)).map D.int).reverse]) := by
      unfold mRevM
      rw [dat1_val s4]
      rfl
    rw [q_cons, e1]
    show some (W.loc 1, [MO.lst (((cs.map absI).filter fun c => decide (10 ^ 18 ≤ c)).map D.int).reverse, MO.lsW [W.loc 0, W.val (D.int m)]]) = _
    unfold dst
    rw [List.map_reverse]
  · rw [List.length_reverse]
    have := List.length_filter_le (fun c => decide (10 ^ 18 ≤ c)) (cs.map absI)
    rw [List.length_map] at this
    omega
end DX
namespace DX
open PySem PySem.Spec L2 DK
variable {ρ : Env'} {μ : Mu}
theorem view_val {d : D} : view μ (.val d) = some d := rfl
def viewM : Option MO → Option D
  | some (.lst xs) => some (.lst xs)
  | some (.frz xs) => some (.lst xs)
  | _ => none
theorem view_loc {j : Nat} : view μ (.loc j) = viewM μ[j]? := by
  unfold view viewM
  try dsimp only
  all_goals (cases μ[j]? with
  | none => rfl
  | some m => cases m <;> rfl)
theorem viewM_lst {xs : List D} : viewM (some (.lst xs)) = some (.lst xs) := rfl
theorem viewM_frz {xs : List D} : viewM (some (.frz xs)) = some (.lst xs) := rfl
theorem isBl_bl {b : Bool} : isBl (.val (.bl b)) = some b := rfl
def varW (μ : Mu) : Option (Option W) → Option (W × Mu)
  | some (some w) => some (w, μ)
  | _ => none
theorem q_var {i : Nat} : mVar i ρ μ = varW μ ρ[i]? := by
  unfold mVar varW
  cases ρ[i]? with
  | none => rfl
  | some o => cases o <;> rfl
theorem varW_some {w : W} : varW μ (some (some w)) = some (w, μ) := rfl
theorem q_c {d : D} : mC d ρ μ = some (.val d, μ) := rfl
theorem q_nil : mNil ρ μ = some ([], μ) := rfl
theorem q_next : mNext ρ μ = some (.nx ρ μ) := rfl
theorem q_cont : mCont ρ μ = some (.ct ρ μ) := rfl
theorem q_break : mBreak ρ μ = some (.bk ρ μ) := rfl
theorem q_retN : mRetN ρ μ = some (.rt (.val .non) μ) := rfl
theorem q_yes : mYes ρ μ = some (true, μ) := rfl
theorem q_noPart : mNoPart ρ μ = some (none, μ) := rfl
def partW : W × Mu → Option (Option Int × Mu)
  | (.val (.int n), μ1) => some (some n, μ1)
  | _ => none
theorem q_partB {a : RE} : mPart a ρ μ = (a ρ μ).bind partW := by
  unfold mPart
  cases a ρ μ with
  | none => rfl
  | some p =>
    obtain ⟨w, μ1⟩ := p
    cases w with
    | loc j => rfl
    | val d => cases d <;> rfl
theorem partW_int {n : Int} : partW (.val (.int n), μ) = some (some n, μ) := rfl
theorem name_set {i : Nat} {w : W} : hName i w ρ = some (ρ.set i (some w)) := rfl
def isNW (neg : Bool) : W → Bool
  | .val d => neg ^^ isNon d
  | .loc _ => neg
theorem q_isN {neg : Bool} {a : RE} : mIsN neg a ρ μ = (a ρ μ).bind fun p => some (.val (.bl (isNW neg p.1)), p.2) := by
  unfold mIsN
  cases a ρ μ with
  | none => rfl
  | some p =>
    obtain ⟨w, μ1⟩ := p
    cases w <;> rfl
def ixW (μ : Mu) (x y : W) : Option (W × Mu) := match (match x with | .loc j => μ[j]? | _ => none), y with
  | some (.lsW ws), .val (.int n) => match atI ws n with
    | some w => some (w, μ)
    | none => none
  | _, _ => match view μ x, view μ y with
    | some d, some e => match ixF d e with
      | some r => some (.val r, μ)
      | none => none
    | _, _ => none
theorem q_ixB {a b : RE} : mIx a b ρ μ = (a ρ μ).bind fun p => (b ρ p.2).bind fun q => ixW q.2 p.1 q.1 := by
  unfold mIx
  cases a ρ μ with
  | none => rfl
  | some p =>
    dsimp only [Option.bind]
    cases b ρ p.2 with
    | none => rfl
    | some q => rfl
theorem ixW_val {d e : D} : ixW μ (.val d) (.val e) = (ixF d e).bind fun r => some (.val r, μ) := by
  unfold ixW
  dsimp only [view]
  cases ixF d e <;> rfl
theorem ixF_l {xs : List D} {i : Int} : ixF (.lst xs) (.int i) = atI xs i := rfl
theorem ixF_t {xs : List D} {i : Int} : ixF (.tup xs) (.int i) = atI xs i := rfl
def fldW (c f : Str) (μ : Mu) : W → Option (W × Mu)
  | .val (.obj c' ns ds) => if c' = c then match ds[fpos f ns]? with
    | some d => some (.val d, μ)
    | none => none
    else none
  | .loc j => match μ[j]? with
    | some (.ins c' fs) => if c' = c then match fs.lookup f with
      | some w => some (w, μ)
      | none => none
      else none
    | _ => none
  | _ => none
theorem q_fld {c f : Str} {o : RE} : mFld c f o ρ μ = (o ρ μ).bind fun p => fldW c f p.2 p.1 := by
  unfold mFld
  cases o ρ μ with
  | none => rfl
  | some p =>
    obtain ⟨w, μ1⟩ := p
    cases w with
    | loc j => rfl
    | val d => cases d <;> rfl
theorem fld_row_word {r : RowM} : fldW "Row" "word" μ (.val r.d) = some (.val (.str r.word), μ) := by
  unfold fldW RowM.d
  rfl
theorem fld_row_tests {r : RowM} : fldW "Row" "tests" μ (.val r.d) = some (.val (.tup (r.tests.map D.str)), μ) := rfl
theorem fld_row_deeds {r : RowM} : fldW "Row" "deeds" μ (.val r.d) = some (.val (.tup (r.deeds.map D.str)), μ) := rfl
theorem fld_row_opens {r : RowM} : fldW "Row" "opens" μ (.val r.d) = some (.val (.bl r.opens), μ) := rfl
theorem fld_tool_window {T : ToolM} : fldW "Tool" "window" μ (.val T.d) = some (.val (.int T.window), μ) := rfl
theorem fld_tool_rows {T : ToolM} : fldW "Tool" "rows" μ (.val T.d) = some (.val (.tup (T.rows.map RowM.d)), μ) := rfl
theorem fld_tool_marks {T : ToolM} : fldW "Tool" "marks" μ (.val T.d) = some (.val (.tup ((namesM T.rows).map D.str)), μ) := rfl
theorem recv_row {m : Str} {r : RowM} : recvOk "Row" m μ (.val r.d) = !rowNs.contains m := rfl
theorem recv_tool {m : Str} {T : ToolM} : recvOk "Tool" m μ (.val T.d) = !toolNs.contains m := rfl
def bodyE (fz : Bool) (n : Nat) : Out → Option (W × Mu)
  | .rt w μ1 => exitF fz n w μ1
  | .nx _ μ1 => exitF fz n (.val .non) μ1
  | _ => none
theorem q_body {fz : Bool} {k n : Nat} {m : RS} {ws : List W} : bodyF fz k n m ws μ = if ws.length = k then (m (start n ws) μ).bind (bodyE fz μ.length) else none := by
  unfold bodyF
  cases m (start n ws) μ with
  | none => rfl
  | some o => cases o <;> rfl
theorem bodyE_rt {fz : Bool} {n : Nat} {w : W} : bodyE fz n (.rt w μ) = exitF fz n w μ := rfl
theorem bodyE_nx {fz : Bool} {n : Nat} : bodyE fz n (.nx ρ μ) = exitF fz n (.val .non) μ := rfl
theorem exit_any {fz : Bool} {d : D} : exitF fz 0 (.val d) μ = some (.val d, []) := by
  cases fz <;> simp [exitF, frzRet, W.below]
theorem exit_dst {fz : Bool} {v : D} {xs : List D} {m : D} : exitF fz 2 (.val v) (.lst xs :: .lsW [.loc 0, .val m] :: μ) = some (.val v, [.lst xs, .lsW [.loc 0, .val m]]) := by
  cases fz <;> simp [exitF, frzRet, W.below, MO.below]
theorem negF_int {i : Int} : negF (.int i) = some (.int (-i)) := rfl
theorem plusF_int {i j : Int} : plusF (.int i) (.int j) = some (.int (i + j)) := rfl
theorem minusF_int {i j : Int} : minusF (.int i) (.int j) = some (.int (i - j)) := rfl
theorem ltF_int {i j : Int} : ltF (.int i) (.int j) = some (.bl (decide (i < j))) := rfl
theorem leF_int {i j : Int} : leF (.int i) (.int j) = some (.bl (decide (i ≤ j))) := rfl
theorem gtF_int {i j : Int} : gtF (.int i) (.int j) = some (.bl (decide (j < i))) := rfl
theorem geF_int {i j : Int} : geF (.int i) (.int j) = some (.bl (decide (j ≤ i))) := rfl
theorem eqF_int {n : Bool} {i j : Int} : eqF n (.int i) (.int j) = some (.bl (n ^^ decide (i = j))) := rfl
theorem eqF_str {n : Bool} {i j : Str} : eqF n (.str i) (.str j) = some (.bl (n ^^ decide (i = j))) := rfl
theorem eqF_bl {n : Bool} {i j : Bool} : eqF n (.bl i) (.bl j) = some (.bl (n ^^ decide (i = j))) := rfl
theorem intF_int {i : Int} : intF (.int i) = some (.int i) := rfl
theorem maxF_int {i j : Int} : maxF (.int i) (.int j) = some (.int (max i j)) := rfl
theorem minF_int {i j : Int} : minF (.int i) (.int j) = some (.int (min i j)) := rfl
theorem lenF_l {xs : List D} : lenF (.lst xs) = some (.int xs.length) := rfl
theorem lenF_t {xs : List D} : lenF (.tup xs) = some (.int xs.length) := rfl
theorem lenF_s {s : Str} : lenF (.str s) = some (.int s.length) := rfl
theorem tupF_l {xs : List D} : tupF (.lst xs) = some (.tup xs) := rfl
theorem tupF_t {xs : List D} : tupF (.tup xs) = some (.tup xs) := rfl
theorem lstF_l {xs : List D} : lstF (.lst xs) = some (.lst xs) := rfl
theorem lstF_t {xs : List D} : lstF (.tup xs) = some (.lst xs) := rfl
theorem strF_s {s : Str} : strF (.str s) = some (.str s) := rfl
theorem seqOf_t {xs : List D} : seqOf μ (.val (.tup xs)) = some xs := rfl
theorem seqOf_l {xs : List D} : seqOf μ (.val (.lst xs)) = some xs := rfl
theorem guard_val {d : D} {xs : List D} : guardOf (.val d) xs = none := rfl
theorem guard_loc {j : Nat} {xs : List D} : guardOf (.loc j) xs = some (j, xs) := rfl
theorem isNW_val {neg : Bool} {d : D} : isNW neg (.val d) = (neg ^^ isNon d) := rfl
theorem isNW_loc {neg : Bool} {j : Nat} : isNW neg (.loc j) = neg := rfl
def enumW : List W × Mu → Option (List D × Option (Nat × List D) × Mu)
  | ([w], μ1) => (seqOf μ1 w).bind fun xs => some (enumD 0 xs, guardOf w xs, μ1)
  | _ => none
theorem q_enum {r : RA} : kEnum r ρ μ = (r ρ μ).bind enumW := by
  unfold kEnum
  cases r ρ μ with
  | none => rfl
  | some p =>
    obtain ⟨ws, μ1⟩ := p
    match ws with
    | [] => rfl
    | [w] => dsimp only [Option.bind, enumW]; cases seqOf μ1 w <;> rfl
    | _ :: _ :: _ => rfl
theorem enumW_1 {w : W} : enumW ([w], μ) = (seqOf μ w).bind fun xs => some (enumD 0 xs, guardOf w xs, μ) := rfl
def parW (i j : Nat) (ρ : Env') : List W × Mu → Option Out
  | ([v, w], μ1) => some (.nx ((ρ.set i (some v)).set j (some w)) μ1)
  | _ => none
theorem q_par {i j : Nat} {r : RA} : mPar i j r ρ μ = (r ρ μ).bind (parW i j ρ) := by
  unfold mPar
  cases r ρ μ with
  | none => rfl
  | some p =>
    obtain ⟨ws, μ1⟩ := p
    match ws with
    | [] => rfl
    | [w] => rfl
    | [v, w] => rfl
    | _ :: _ :: _ :: _ => rfl
theorem parW_2 {i j : Nat} {v w : W} : parW i j ρ ([v, w], μ) = some (.nx ((ρ.set i (some v)).set j (some w)) μ) := rfl
theorem tup_set {n : Nat} {r : RGs} {ds : List D} : hTup n r (.val (.tup ds)) ρ = if ds.length = n then r ds ρ else none := rfl
theorem cons_set {g : RG} {r : RGs} {d : D} {t : List D} : hCons g r (d :: t) ρ = (g (.val d) ρ).bind fun ρ1 => r t ρ1 := by
  show (match g (.val d) ρ with
    | some ρ1 => r t ρ1
    | none => none) = _
  cases g (.val d) ρ <;> rfl
theorem nil_set : hNil [] ρ = some ρ := rfl
theorem frzL_nil : frzL μ [] = some ([], μ) := rfl
theorem frzL_cons {w : W} {ws : List W} : frzL μ (w :: ws) = (frz1 μ w).bind fun p => (frzL p.2 ws).bind fun q => some (p.1 :: q.1, q.2) := by
  show (match frz1 μ w with
    | some (d, μ1) => match frzL μ1 ws with
      | some (ds, μ2) => some (d :: ds, μ2)
      | none => none
    | none => none) = _
  cases frz1 μ w with
  | none => rfl
  | some p =>
    dsimp only [Option.bind]
    cases frzL p.2 ws <;> rfl
def frzM (μ : Mu) (j : Nat) : Option MO → Option (D × Mu)
  | some (.lst xs) => some (.lst xs, μ.set j (.frz xs))
  | some (.frz xs) => some (.lst xs, μ)
  | _ => none
theorem frz1_loc {j : Nat} : frz1 μ (.loc j) = frzM μ j μ[j]? := by
  unfold frz1 frzM
  try dsimp only
  all_goals (cases μ[j]? with
  | none => rfl
  | some m => cases m <;> rfl)
theorem frzM_lst {j : Nat} {xs : List D} : frzM μ j (some (.lst xs)) = some (.lst xs, μ.set j (.frz xs)) := rfl
theorem frzM_frz {j : Nat} {xs : List D} : frzM μ j (some (.frz xs)) = some (.lst xs, μ) := rfl
theorem map_inj {α β : Type} {f : α → β} (hf : ∀ a b, f a = f b → a = b) : ∀ {l m : List α}, l.map f = m.map f → l = m
  | [], [], _ => rfl
  | [], _ :: _, h => by simp at h
  | _ :: _, [], h => by simp at h
  | a :: l, b :: m, h => by
    simp only [List.map_cons, List.cons.injEq] at h
    rw [hf a b h.1, map_inj hf h.2]
theorem ofS {a b : String} : (Str.ofString a = Str.ofString b) = (a = b) := by
  apply propext
  constructor
  · intro h
    rw [Str.ofString_eq_toList, Str.ofString_eq_toList] at h
    have h2 : a.toList.map Char.toNat = b.toList.map Char.toNat := by
      have := congrArg (fun s : Str => s.cps.toList) h
      simpa using this
    have h3 := map_inj (fun x y e => Char.ext (UInt32.toNat_inj.mp e)) h2
    exact String.toList_inj.mp h3
  · intro h
    rw [h]
def fldSW (c f : Str) (ρ : Env') (w : W) (μ : Mu) : W → Option Out
  | .loc j => match μ[j]? with
    | some (.ins c' fs) => if c' = c ∧ fs.length < 100 ∧ w.below μ.length = true then some (.nx ρ (μ.set j (.ins c (putW f w fs)))) else none
    | _ => none
  | _ => none
theorem q_fldS {c f : Str} {o e : RE} : mFldS c f o e ρ μ = (e ρ μ).bind fun p => (o ρ p.2).bind fun q => fldSW c f ρ p.1 q.2 q.1 := by
  unfold mFldS
  cases e ρ μ with
  | none => rfl
  | some p =>
    dsimp only [Option.bind]
    cases o ρ p.2 with
    | none => rfl
    | some q =>
      obtain ⟨w, μ2⟩ := q
      cases w <;> rfl
theorem isNon_int {i : Int} : DK.isNon (.int i) = false := rfl
theorem isNon_non : DK.isNon .non = true := rfl
theorem isNon_bl {b : Bool} : DK.isNon (.bl b) = false := rfl
theorem isNon_str {b : Str} : DK.isNon (.str b) = false := rfl
theorem isNon_tup {b : List D} : DK.isNon (.tup b) = false := rfl
theorem isNon_lst {b : List D} : DK.isNon (.lst b) = false := rfl
theorem q_lcM {i : RI} {g : RG} {t : RB} {e : RE} {vs : List Nat} : mLcM i g t e vs ρ μ = (i ρ μ).bind fun p => if p.1.length ≤ LB then (lcR g t e p.2.1 (wipeE ρ vs) p.1 p.2.2).bind fun q => some (.loc q.2.length, q.2 ++ [.lst q.1]) else none := by
  unfold mLcM
  cases i ρ μ with
  | none => rfl
  | some p =>
    obtain ⟨xs, c, μ1⟩ := p
    dsimp only [Option.bind]
    split
    · cases lcR g t e c (wipeE ρ vs) xs μ1 <;> rfl
    · rfl
def setIW (ρ : Env') (μ : Mu) : W → W → W → Option Out
  | w, .loc j, .val (.int n) => match μ[j]? with
    | some (.lst xs) => match ixN xs.length n with
      | some k => match w with
        | .val d => some (.nx ρ (μ.set j (.lst (xs.set k d))))
        | _ => none
      | none => none
    | some (.lsW ws) => match ixN ws.length n with
      | some k => if w.below μ.length = true then some (.nx ρ (μ.set j (.lsW (ws.set k w)))) else none
      | none => none
    | _ => none
  | _, _, _ => none
theorem q_setI {e a b : RE} : mSetI e a b ρ μ = (e ρ μ).bind fun p => (a ρ p.2).bind fun q => (b ρ q.2).bind fun s => setIW ρ s.2 p.1 q.1 s.1 := by
  unfold mSetI
  cases e ρ μ with
  | none => rfl
  | some p =>
    dsimp only [Option.bind]
    cases a ρ p.2 with
    | none => rfl
    | some q =>
      obtain ⟨w, μ2⟩ := q
      cases w with
      | val d =>
        dsimp only
        cases b ρ μ2 <;> rfl
      | loc j =>
        dsimp only
        cases b ρ μ2 with
        | none => rfl
        | some s =>
          obtain ⟨v, μ3⟩ := s
          cases v with
          | loc i => rfl
          | val d => cases d <;> rfl
def addW (μ : Mu) (x y : W) : Option (W × Mu) := match view μ x, view μ y with
  | some (.lst d), some (.lst e) => if d.length + e.length ≤ LB then some (.loc μ.length, μ ++ [.lst (d ++ e)]) else none
  | _, _ => none
theorem q_addM {a b : RE} : mAddM a b ρ μ = (a ρ μ).bind fun p => (b ρ p.2).bind fun q => addW q.2 p.1 q.1 := by
  unfold mAddM
  cases a ρ μ with
  | none => rfl
  | some p =>
    dsimp only [Option.bind]
    cases b ρ p.2 with
    | none => rfl
    | some q => rfl
theorem addW_val {a b : List D} : addW μ (.val (.lst a)) (.val (.lst b)) = if a.length + b.length ≤ LB then some (.loc μ.length, μ ++ [.lst (a ++ b)]) else none := rfl
def seqM : Option MO → Option (List D)
  | some (.lst xs) => some xs
  | some (.frz xs) => some xs
  | _ => none
theorem seqOf_loc {j : Nat} : seqOf μ (.loc j) = seqM μ[j]? := by
  unfold seqOf
  rw [view_loc]
  unfold viewM seqM
  cases μ[j]? with
  | none => rfl
  | some m => cases m <;> rfl
theorem seqM_lst {xs : List D} : seqM (some (.lst xs)) = some xs := rfl
theorem seqM_frz {xs : List D} : seqM (some (.frz xs)) = some xs := rfl
def ixM (μ : Mu) : Option MO → Int → Option (W × Mu)
  | some (.lsW ws), n => (atI ws n).bind fun w => some (w, μ)
  | some (.lst xs), n => (atI xs n).bind fun r => some (.val r, μ)
  | some (.frz xs), n => (atI xs n).bind fun r => some (.val r, μ)
  | _, _ => none
theorem ixW_loc {j : Nat} {n : Int} : ixW μ (.loc j) (.val (.int n)) = ixM μ μ[j]? n := by
  unfold ixW
  rw [view_loc]
  dsimp only
  unfold ixM
  cases μ[j]? with
  | none => rfl
  | some m =>
    cases m with
    | lsW ws => dsimp only; cases atI ws n <;> rfl
    | lst xs => dsimp only [viewM, view, ixF]; cases atI xs n <;> rfl
    | frz xs => dsimp only [viewM, view, ixF]; cases atI xs n <;> rfl
    | _ => rfl
theorem ixM_lsW {ws : List W} {n : Int} : ixM μ (some (.lsW ws)) n = (atI ws n).bind fun w => some (w, μ) := rfl
theorem ixM_lst {ws : List D} {n : Int} : ixM μ (some (.lst ws)) n = (atI ws n).bind fun w => some (.val w, μ) := rfl
theorem ixM_frz {ws : List D} {n : Int} : ixM μ (some (.frz ws)) n = (atI ws n).bind fun w => some (.val w, μ) := rfl
def setIM (ρ : Env') (μ : Mu) (j : Nat) (d : D) (n : Int) : Option MO → Option Out
  | some (.lst xs) => (ixN xs.length n).bind fun k => some (.nx ρ (μ.set j (.lst (xs.set k d))))
  | some (.lsW ws) => (ixN ws.length n).bind fun k => some (.nx ρ (μ.set j (.lsW (ws.set k (.val d)))))
  | _ => none
theorem setIW_loc {j : Nat} {d : D} {n : Int} : setIW ρ μ (.val d) (.loc j) (.val (.int n)) = setIM ρ μ j d n μ[j]? := by
  unfold setIW setIM
  dsimp only
  cases μ[j]? with
  | none => rfl
  | some m =>
    cases m with
    | lsW ws =>
      dsimp only
      cases ixN ws.length n with
      | none => rfl
      | some k => rfl
    | lst xs => dsimp only; cases ixN xs.length n <;> rfl
    | _ => rfl
theorem setIM_lst {j : Nat} {d : D} {n : Int} {xs : List D} : setIM ρ μ j d n (some (.lst xs)) = (ixN xs.length n).bind fun k => some (.nx ρ (μ.set j (.lst (xs.set k d)))) := rfl
def exitV (n : Nat) (w : W) (μ : Mu) : Option (W × Mu) := if n ≤ μ.length then
    if (μ.take n).all (MO.below n) = true then some (w, μ.take n)
    else if μ.all (MO.below μ.length) = true then some (w, μ) else none
  else none
theorem exit_val {fz : Bool} {n : Nat} {d : D} : exitF fz n (.val d) μ = exitV n (.val d) μ := by
  unfold exitF exitV frzRet
  cases fz <;> simp [W.below]
def exitM (n j : Nat) (μ : Mu) : Option MO → Option (W × Mu)
  | some (.lst xs) => exitV n (.val (.lst xs)) (μ.set j (.frz xs))
  | some (.frz xs) => exitV n (.val (.lst xs)) μ
  | _ => exitF true n (.loc j) μ
theorem exit_loc {n j : Nat} : exitF true n (.loc j) μ = if j < n then exitF false n (.loc j) μ else exitM n j μ μ[j]? := by
  by_cases h : j < n
  · rw [if_pos h]
    simp [exitF, frzRet, h]
  · rw [if_neg h]
    unfold exitM exitV
    cases e : μ[j]? with
    | none => rfl
    | some m => cases m <;> first | rfl | simp [exitF, frzRet, frz1, W.below, e, h]
theorem exitV_if {n : Nat} {w : W} : exitV n w μ = if n ≤ μ.length then
    if (μ.take n).all (MO.below n) = true then some (w, μ.take n)
    else if μ.all (MO.below μ.length) = true then some (w, μ) else none
  else none := rfl
theorem exitM_lst {n j : Nat} {xs : List D} : exitM n j μ (some (.lst xs)) = exitV n (.val (.lst xs)) (μ.set j (.frz xs)) := rfl
theorem exitM_frz {n j : Nat} {xs : List D} : exitM n j μ (some (.frz xs)) = exitV n (.val (.lst xs)) μ := rfl
theorem exitV_eq {n : Nat} {w : W} (h : n ≤ μ.length) (b : (μ.take n).all (MO.below n) = true) : exitV n w μ = some (w, μ.take n) := by
  unfold exitV
  rw [if_pos h, if_pos b]
theorem below_lst {n : Nat} {xs : List D} : MO.below n (.lst xs) = true := rfl
theorem below_frz {n : Nat} {xs : List D} : MO.below n (.frz xs) = true := rfl
theorem below_dK {n : Nat} {xs : List (Key × D)} : MO.below n (.dK xs) = true := rfl
theorem below_scr {n : Nat} {xs : List Int} : MO.below n (.scr xs) = true := rfl
theorem below_lsW {n : Nat} {ws : List W} : MO.below n (.lsW ws) = ws.all (W.below n) := rfl
theorem below_ins {n : Nat} {c : Str} {fs : List (Str × W)} : MO.below n (.ins c fs) = fs.all fun p => p.2.below n := rfl
theorem below_dW {n : Nat} {fs : List (Str × W)} : MO.below n (.dW fs) = fs.all fun p => p.2.below n := rfl
theorem wbelow_val {n : Nat} {d : D} : W.below n (.val d) = true := rfl
theorem wbelow_loc {n j : Nat} : W.below n (.loc j) = decide (j < n) := rfl
def appW (μ0 : Mu) (j : Nat) : List D × Mu → Option (W × Mu)
  | ([d], μ2) => match μ2[j]? with
    | some (.lst xs) => if xs.length < LB then some (.val .non, μ2.set j (.lst (xs ++ [d]))) else none
    | _ => none
  | _ => none
def appA (r : RA) (ρ : Env') : W × Mu → Option (W × Mu)
  | (.loc j, μ1) => (view μ1 (.loc j)).bind fun _ => (dat r ρ μ1).bind (appW μ1 j)
  | _ => none
theorem q_append {a : RE} {r : RA} : mAppend a r ρ μ = (a ρ μ).bind (appA r ρ) := by
  unfold mAppend
  cases a ρ μ with
  | none => rfl
  | some p =>
    obtain ⟨w, μ1⟩ := p
    cases w with
    | val d => rfl
    | loc j =>
      dsimp only [Option.bind, appA]
      cases view μ1 (.loc j) with
      | none => rfl
      | some v =>
        dsimp only
        cases dat r ρ μ1 with
        | none => rfl
        | some q =>
          obtain ⟨ds, μ2⟩ := q
          match ds with
          | [] => rfl
          | [d] => rfl
          | _ :: _ :: _ => rfl
theorem appA_loc {r : RA} {j : Nat} : appA r ρ (.loc j, μ) = (viewM μ[j]?).bind fun _ => (dat r ρ μ).bind (appW μ j) := by
  show (view μ (.loc j)).bind _ = _
  rw [view_loc]
def appM (μ : Mu) (j : Nat) (d : D) : Option MO → Option (W × Mu)
  | some (.lst xs) => if xs.length < LB then some (.val .non, μ.set j (.lst (xs ++ [d]))) else none
  | _ => none
theorem appW_1 {μ0 : Mu} {j : Nat} {d : D} : appW μ0 j ([d], μ) = appM μ j d μ[j]? := by
  show (match μ[j]? with
    | some (.lst xs) => if xs.length < LB then some (W.val .non, μ.set j (.lst (xs ++ [d]))) else none
    | _ => none) = _
  unfold appM
  cases μ[j]? with
  | none => rfl
  | some m => cases m <;> rfl
theorem appM_lst {j : Nat} {d : D} {xs : List D} : appM μ j d (some (.lst xs)) = if xs.length < LB then some (.val .non, μ.set j (.lst (xs ++ [d]))) else none := rfl
def lstM (μ : Mu) : D → Option (W × Mu)
  | .lst xs => some (.loc μ.length, μ ++ [.lst xs])
  | _ => none
theorem q_lstOfM {a : RE} : mLstOfM a ρ μ = (a ρ μ).bind fun p => (view p.2 p.1).bind fun d => (lstF d).bind (lstM p.2) := by
  unfold mLstOfM
  cases a ρ μ with
  | none => rfl
  | some p =>
    obtain ⟨x, μ1⟩ := p
    dsimp only [Option.bind]
    cases view μ1 x with
    | none => rfl
    | some d =>
      dsimp only
      cases lstF d with
      | none => rfl
      | some e => cases e <;> rfl
theorem lstM_lst {xs : List D} : lstM μ (.lst xs) = some (.loc μ.length, μ ++ [.lst xs]) := rfl
def rngW : List D × Mu → Option (List D × Option (Nat × List D) × Mu)
  | ([.int n], μ1) => if rngB n = true then some (rangeD 0 n.toNat, none, μ1) else none
  | _ => none
theorem q_rng1 {r : RA} : kRng1 r ρ μ = (dat r ρ μ).bind rngW := by
  unfold kRng1
  cases dat r ρ μ with
  | none => rfl
  | some p =>
    obtain ⟨ds, μ1⟩ := p
    match ds with
    | [] => rfl
    | [d] => cases d <;> rfl
    | a :: _ :: _ => cases a <;> rfl
theorem rngW_int {n : Int} : rngW ([.int n], μ) = if rngB n = true then some (rangeD 0 n.toNat, none, μ) else none := rfl
theorem rng_ok {k : Int} (h0 : 0 ≤ k) (h1 : k < 1000000) : rngW ([.int k], μ) = some (rangeD 0 k.toNat, none, μ) := by
  rw [rngW_int, if_pos]
  exact Nat.ble_eq_true_of_le (by omega)
mutual
theorem beqD_refl : ∀ a : D, beqD a a = true
  | .non => rfl
  | .bl a => by simp [beqD]
  | .int a => by simp [beqD]
  | .str a => by simp [beqD]
  | .tup a => by rw [beqD]; exact beqL_refl a
  | .lst a => by rw [beqD]; exact beqL_refl a
  | .obj c ns a => by
    rw [beqD, beqL_refl a]
    simp
  | .ty a => by simp [beqD]
  | .cls a => by simp [beqD]
  | .scr a => by simp [beqD]
theorem beqL_refl : ∀ a : List D, beqL a a = true
  | [] => rfl
  | a :: as => by rw [beqL, beqD_refl a, beqL_refl as]; rfl
end
def standM (xs : List D) : Option MO → Bool
  | some (.lst ys) => beqL ys xs
  | some (.frz ys) => beqL ys xs
  | _ => false
theorem standB_none : standB none μ = true := rfl
theorem standB_some {j : Nat} {xs : List D} : standB (some (j, xs)) μ = standM xs μ[j]? := by
  unfold standB standM
  try dsimp only
  all_goals (cases μ[j]? with
  | none => rfl
  | some m => cases m <;> rfl)
theorem standM_lst {xs : List D} : standM xs (some (.lst xs)) = true := beqL_refl xs
theorem standM_frz {xs : List D} : standM xs (some (.frz xs)) = true := beqL_refl xs
def joinA (b : RE) (ρ : Env') : W × Mu → Option (W × Mu)
  | (.val (.str y), μ1) => (b ρ μ1).bind fun q => (seqOf q.2 q.1).bind fun xs => (sOf xs).bind fun ps => if (ps.map (·.length)).sum + ps.length * y.length ≤ SB then some (.val (.str (Txt.join y ps)), q.2) else none
  | _ => none
theorem q_join {a b : RE} : mJoin a b ρ μ = (a ρ μ).bind (joinA b ρ) := by
  unfold mJoin
  cases a ρ μ with
  | none => rfl
  | some p =>
    obtain ⟨w, μ1⟩ := p
    cases w with
    | loc j => rfl
    | val d =>
      cases d with
      | str y =>
        dsimp only [Option.bind, joinA]
        cases b ρ μ1 with
        | none => rfl
        | some q =>
          dsimp only
          cases seqOf q.2 q.1 with
          | none => rfl
          | some xs =>
            dsimp only
            cases sOf xs <;> rfl
      | _ => rfl
theorem joinA_str {b : RE} {y : Str} : joinA b ρ (.val (.str y), μ) = (b ρ μ).bind fun q => (seqOf q.2 q.1).bind fun xs => (sOf xs).bind fun ps => if (ps.map (·.length)).sum + ps.length * y.length ≤ SB then some (.val (.str (Txt.join y ps)), q.2) else none := rfl
theorem q_joined {r : RJ} : mJoined r ρ μ = (r Str.empty ρ μ).bind fun p => some (.val (.str p.1), p.2) := by
  unfold mJoined
  cases r Str.empty ρ μ <;> rfl
theorem q_jNil {acc : Str} : jNil acc ρ μ = some (acc, μ) := rfl
def jW (r : RJ) (acc : Str) (ρ : Env') : W × Mu → Option (Str × Mu)
  | (.val (.str y), μ1) => if (acc ++ y).length ≤ SB ∧ sOkB y = true then r (acc ++ y) ρ μ1 else none
  | _ => none
theorem q_jCons {a : RE} {r : RJ} {acc : Str} : jCons a r acc ρ μ = (a ρ μ).bind (jW r acc ρ) := by
  unfold jCons
  cases a ρ μ with
  | none => rfl
  | some p =>
    obtain ⟨w, μ1⟩ := p
    cases w with
    | loc j => rfl
    | val d => cases d <;> rfl
theorem jW_str {r : RJ} {acc y : Str} : jW r acc ρ (.val (.str y), μ) = if (acc ++ y).length ≤ SB ∧ sOkB y = true then r (acc ++ y) ρ μ else none := rfl
theorem q_star {a : RE} {r : RA} : mStar a r ρ μ = (a ρ μ).bind fun p => (seqOf p.2 p.1).bind fun xs => (r ρ p.2).bind fun q => some (xs.map W.val ++ q.1, q.2) := by
  unfold mStar
  cases a ρ μ with
  | none => rfl
  | some p =>
    dsimp only [Option.bind]
    cases seqOf p.2 p.1 with
    | none => rfl
    | some xs =>
      dsimp only
      cases r ρ p.2 <;> rfl
def ownW (ok : D → Bool) : W × Mu → Option (W × Mu)
  | (.val d, μ2) => if ok d = true then some (.val d, μ2) else none
  | _ => none
theorem q_own1 {c : Str} {ok : D → Bool} {f : FX} {a : RE} : mOwn1 c ok f a ρ μ = (a ρ μ).bind fun p => if isIns c p.2 p.1 = true then (callX f [p.1] p.2).bind (ownW ok) else none := by
  unfold mOwn1
  cases a ρ μ with
  | none => rfl
  | some p =>
    dsimp only [Option.bind]
    split
    · cases callX f [p.1] p.2 with
      | none => rfl
      | some q =>
        obtain ⟨w, μ2⟩ := q
        cases w <;> rfl
    · rfl
theorem ownW_val {ok : D → Bool} {d : D} : ownW ok (.val d, μ) = if ok d = true then some (.val d, μ) else none := rfl
theorem okStr_str {s : Str} : okStr (.str s) = true := rfl
theorem isIns_row {r : RowM} : isIns "Row" μ (.val r.d) = true := by
  show decide (("Row" : Str) = "Row") = true
  simp
theorem isIns_tool {T : ToolM} : isIns "Tool" μ (.val T.d) = true := by
  show decide (("Tool" : Str) = "Tool") = true
  simp
def kgetW (kvs : List (Str × D)) : W × Mu → Option (W × Mu)
  | (.val (.str z), μ1) => some (.val ((kvs.lookup z).getD .non), μ1)
  | _ => none
theorem q_kget {kvs : List (Str × D)} {a : RE} : mKGet kvs a ρ μ = (a ρ μ).bind (kgetW kvs) := by
  unfold mKGet
  cases a ρ μ with
  | none => rfl
  | some p =>
    obtain ⟨w, μ1⟩ := p
    cases w with
    | loc j => rfl
    | val d => cases d <;> rfl
theorem kgetW_str {kvs : List (Str × D)} {z : Str} : kgetW kvs (.val (.str z), μ) = some (.val ((kvs.lookup z).getD .non), μ) := rfl
def indexW (s : Str) (μ : Mu) : D → Option (W × Mu)
  | .lst xs => (sOf xs).bind fun ss => if s ∈ ss then some (.val (.int (ss.idxOf s : Nat)), μ) else none
  | _ => none
theorem q_indexC {a : RE} {s : Str} : mIndex a (mC (.str s)) ρ μ = (a ρ μ).bind fun p => (view p.2 p.1).bind (indexW s p.2) := by
  unfold mIndex
  cases a ρ μ with
  | none => rfl
  | some p =>
    have e : pv1 (mC (.str s)) ρ = some (.str s) := rfl
    dsimp only [Option.bind]
    rw [e]
    dsimp only
    cases view p.2 p.1 with
    | none => rfl
    | some d =>
      cases d with
      | lst xs => dsimp only [indexW]; cases sOf xs <;> rfl
      | _ => rfl
theorem indexW_lst {s : Str} {ss : List Str} : indexW s μ (.lst (ss.map D.str)) = if s ∈ ss then some (.val (.int (ss.idxOf s : Nat)), μ) else none := by
  show (sOf (ss.map D.str)).bind _ = _
  rw [sOf_map]
  rfl
def mkL (c : Str) (m : RE) (ρ : Env') (μ : Mu) : Option (Option W) → Option (W × Mu)
  | some (some (.val (.cls c'))) => if c' = c then m ρ μ else none
  | _ => none
theorem q_makeL {i : Nat} {c : Str} {m : RE} : mMakeL i c m ρ μ = mkL c m ρ μ ρ[i]? := by
  unfold mMakeL mkL
  cases ρ[i]? with
  | none => rfl
  | some o =>
    cases o with
    | none => rfl
    | some w =>
      cases w with
      | loc j => rfl
      | val d => cases d <;> rfl
theorem mkL_cls {c : Str} {m : RE} : mkL c m ρ μ (some (some (.val (.cls c)))) = m ρ μ := by
  show (if c = c then m ρ μ else none) = _
  rw [if_pos rfl]
def cmW (c : Str) (f : FX) (dds : List D) (a : RA) (ρ : Env') : W × Mu → Option (W × Mu)
  | (.val (.cls c'), μ1) => if c' = c then (a ρ μ1).bind fun p => callX f (.val (.cls c) :: (p.1 ++ dds.map W.val)) p.2 else none
  | _ => none
theorem q_cmeth {c : Str} {f : FX} {dds : List D} {o : RE} {a : RA} : mCMeth c f dds o a ρ μ = (o ρ μ).bind (cmW c f dds a ρ) := by
  unfold mCMeth
  cases o ρ μ with
  | none => rfl
  | some p =>
    obtain ⟨w, μ1⟩ := p
    cases w with
    | loc j => rfl
    | val d =>
      cases d with
      | cls c' =>
        dsimp only [Option.bind, cmW]
        split
        · cases a ρ μ1 <;> rfl
        · rfl
      | _ => rfl
theorem cmW_cls {c : Str} {f : FX} {dds : List D} {a : RA} : cmW c f dds a ρ (.val (.cls c), μ) = (a ρ μ).bind fun p => callX f (.val (.cls c) :: (p.1 ++ dds.map W.val)) p.2 := by
  show (if c = c then _ else none) = _
  rw [if_pos rfl]
def star1W (i j : Nat) (ρ : Env') (μ : Mu) : D → Option Out
  | .lst (d :: ds) => some (.nx ((ρ.set i (some (.val d))).set j (some (.val (.lst ds)))) μ)
  | _ => none
theorem q_star1 {i j : Nat} {a : RE} : mStar1 i j a ρ μ = (a ρ μ).bind fun p => (view p.2 p.1).bind (star1W i j ρ p.2) := by
  unfold mStar1
  cases a ρ μ with
  | none => rfl
  | some p =>
    dsimp only [Option.bind]
    cases view p.2 p.1 with
    | none => rfl
    | some d =>
      cases d with
      | lst xs => cases xs <;> rfl
      | _ => rfl
theorem star1W_cons {i j : Nat} {d : D} {ds : List D} : star1W i j ρ μ (.lst (d :: ds)) = some (.nx ((ρ.set i (some (.val d))).set j (some (.val (.lst ds)))) μ) := rfl
def chainE (μ : Mu) : D → Option (W × Mu)
  | .bl l => some (.val (.bl l), μ)
  | _ => none
def chainW (g : D → D → Option D) (c : RE) (ρ : Env') (y : D) (μ : Mu) : D → Option (W × Mu)
  | .bl b => if b = true then (dat1 c ρ μ).bind fun s => (g y s.1).bind (chainE s.2) else some (.val (.bl false), μ)
  | _ => none
theorem q_chain {f g : D → D → Option D} {a b c : RE} : mChain f g a b c ρ μ = (dat1 a ρ μ).bind fun p => (dat1 b ρ p.2).bind fun q => (f p.1 q.1).bind (chainW g c ρ q.1 q.2) := by
  unfold mChain
  cases dat1 a ρ μ with
  | none => rfl
  | some p =>
    dsimp only [Option.bind]
    cases dat1 b ρ p.2 with
    | none => rfl
    | some q =>
      dsimp only
      cases f p.1 q.1 with
      | none => rfl
      | some r =>
        cases r with
        | bl k =>
          cases k with
          | false => rfl
          | true =>
            dsimp only [chainW]
            rw [if_pos rfl]
            cases dat1 c ρ q.2 with
            | none => rfl
            | some s =>
              dsimp only [Option.bind]
              cases g q.1 s.1 with
              | none => rfl
              | some t => cases t <;> rfl
        | _ => rfl
theorem chainW_bl {g : D → D → Option D} {c : RE} {y : D} {b : Bool} : chainW g c ρ y μ (.bl b) = if b = true then (dat1 c ρ μ).bind fun s => (g y s.1).bind (chainE s.2) else some (.val (.bl false), μ) := rfl
theorem chainE_bl {b : Bool} : chainE μ (.bl b) = some (.val (.bl b), μ) := rfl
theorem q_eqOwn {c : Str} {f : FX} {a b : RE} : mEqOwn c f a b ρ μ = (a ρ μ).bind fun p => (b ρ p.2).bind fun q => if isIns c q.2 p.1 = true ∧ isIns c q.2 q.1 = true then callX f [p.1, q.1] q.2 else none := by
  unfold mEqOwn
  cases a ρ μ with
  | none => rfl
  | some p =>
    dsimp only [Option.bind]
    cases b ρ p.2 <;> rfl
theorem fmtF_s {s : Str} : fmtF (.str s) = some (.str s) := rfl
def augM (i : Nat) (ρ : Env') : Option (Option W) → W × Mu → Option Out
  | some (some (.val (.int m))), (.val (.int n), μ1) => some (.nx (ρ.set i (some (.val (.int (m + n))))) μ1)
  | _, _ => none
theorem q_aug {i : Nat} {a : RE} : mAug i a ρ μ = (a ρ μ).bind (augM i ρ ρ[i]?) := by
  unfold mAug
  cases a ρ μ with
  | none =>
    cases ρ[i]? with
    | none => rfl
    | some o =>
      cases o with
      | none => rfl
      | some w =>
        cases w with
        | loc j => rfl
        | val d => cases d <;> rfl
  | some p =>
    obtain ⟨w, μ1⟩ := p
    cases ρ[i]? with
    | none => rfl
    | some o =>
      cases o with
      | none => rfl
      | some v =>
        cases v with
        | loc j => rfl
        | val d =>
          cases d with
          | int m =>
            cases w with
            | loc j => rfl
            | val e => cases e <;> rfl
          | _ => rfl
theorem augM_int {i : Nat} {m n : Int} : augM i ρ (some (some (.val (.int m)))) (.val (.int n), μ) = some (.nx (ρ.set i (some (.val (.int (m + n))))) μ) := rfl
theorem q_parN {is : List Nat} {r : RA} : mParN is r ρ μ = (r ρ μ).bind fun p => if is.length = p.1.length ∧ p.1.length ≤ LB then some (.nx (setAll is p.1 ρ) p.2) else none := by
  unfold mParN
  cases r ρ μ <;> rfl
theorem setAll_cons {i : Nat} {is : List Nat} {w : W} {ws : List W} : setAll (i :: is) (w :: ws) ρ = setAll is ws (ρ.set i (some w)) := rfl
theorem setAll_nil {ws : List W} : setAll [] ws ρ = ρ := by cases ws <;> rfl
theorem q_never : mNever ρ μ = none := rfl
theorem intF_bl {b : Bool} : intF (.bl b) = some (.int (if b = true then 1 else 0)) := by cases b <;> rfl
def extM (μ : Mu) (j : Nat) (ys : List D) : Option MO → Option (W × Mu)
  | some (.lst xs) => if xs.length + ys.length ≤ LB then some (.val .non, μ.set j (.lst (xs ++ ys))) else none
  | _ => none
def extD (μ : Mu) (j : Nat) : D → Option (W × Mu)
  | .lst ys => extM μ j ys μ[j]?
  | _ => none
def extW (j : Nat) : List W × Mu → Option (W × Mu)
  | ([w], μ2) => (view μ2 w).bind (extD μ2 j)
  | _ => none
def extA (r : RA) (ρ : Env') : W × Mu → Option (W × Mu)
  | (.loc j, μ1) => (view μ1 (.loc j)).bind fun _ => (r ρ μ1).bind (extW j)
  | _ => none
theorem q_extend {a : RE} {r : RA} : mExtend a r ρ μ = (a ρ μ).bind (extA r ρ) := by
  unfold mExtend
  cases a ρ μ with
  | none => rfl
  | some p =>
    obtain ⟨w, μ1⟩ := p
    cases w with
    | val d => rfl
    | loc j =>
      dsimp only [Option.bind, extA]
      cases view μ1 (.loc j) with
      | none => rfl
      | some v =>
        dsimp only
        cases r ρ μ1 with
        | none => rfl
        | some q =>
          obtain ⟨ws, μ2⟩ := q
          match ws with
          | [] => rfl
          | [w] =>
            dsimp only [Option.bind, extW]
            cases e : view μ2 w with
            | none =>
              dsimp only
              cases μ2[j]? with
              | none => rfl
              | some m => cases m <;> rfl
            | some d =>
              dsimp only
              cases d with
              | lst ys =>
                dsimp only [extD]
                unfold extM
                cases μ2[j]? with
                | none => rfl
                | some m => cases m <;> rfl
              | _ =>
                dsimp only [extD]
                cases μ2[j]? with
                | none => rfl
                | some m => cases m <;> rfl
          | _ :: _ :: _ => rfl
theorem extA_loc {r : RA} {j : Nat} : extA r ρ (.loc j, μ) = (viewM μ[j]?).bind fun _ => (r ρ μ).bind (extW j) := by
  show (view μ (.loc j)).bind _ = _
  rw [view_loc]
theorem extW_1 {j : Nat} {w : W} : extW j ([w], μ) = (view μ w).bind (extD μ j) := rfl
theorem extD_lst {j : Nat} {ys : List D} : extD μ j (.lst ys) = extM μ j ys μ[j]? := rfl
theorem extM_lst {j : Nat} {xs ys : List D} : extM μ j ys (some (.lst xs)) = if xs.length + ys.length ≤ LB then some (.val .non, μ.set j (.lst (xs ++ ys))) else none := rfl
theorem q_asgT {a : RE} {g : RT} : mAsgT a g ρ μ = (a ρ μ).bind fun p => (g p.1 ρ p.2).bind fun q => some (.nx q.1 q.2) := by
  unfold mAsgT
  cases a ρ μ with
  | none => rfl
  | some p =>
    dsimp only [Option.bind]
    cases g p.1 ρ p.2 <;> rfl
theorem uTup_tup {n : Nat} {r : RTs} {ds : List D} : uTup n r (.val (.tup ds)) ρ μ = if ds.length = n then r ds ρ μ else none := rfl
theorem uCons_cons {g : RT} {r : RTs} {d : D} {t : List D} : uCons g r (d :: t) ρ μ = (g (.val d) ρ μ).bind fun p => r t p.1 p.2 := by
  show (match g (.val d) ρ μ with
    | some (ρ1, μ1) => r t ρ1 μ1
    | none => none) = _
  cases g (.val d) ρ μ <;> rfl
theorem uNil_nil : uNil [] ρ μ = some (ρ, μ) := rfl
theorem uName_eq {i : Nat} {w : W} : uName i w ρ μ = some (ρ.set i (some w), μ) := rfl
def ufM (c f : Str) (ρ : Env') (μ : Mu) (j : Nat) (w : W) : Option MO → Option (Env' × Mu)
  | some (.ins c' fs) => if c' = c ∧ fs.length < 100 ∧ w.below μ.length = true then some (ρ, μ.set j (.ins c (putW f w fs))) else none
  | _ => none
def ufW (c f : Str) (ρ : Env') (w : W) : W × Mu → Option (Env' × Mu)
  | (.loc j, μ1) => ufM c f ρ μ1 j w μ1[j]?
  | _ => none
theorem uFld_eq {c f : Str} {o : RE} {w : W} : uFld c f o w ρ μ = (o ρ μ).bind (ufW c f ρ w) := by
  unfold uFld
  cases o ρ μ with
  | none => rfl
  | some p =>
    obtain ⟨v, μ1⟩ := p
    cases v with
    | val d => rfl
    | loc j =>
      dsimp only [Option.bind, ufW]
      unfold ufM
      cases μ1[j]? with
      | none => rfl
      | some m => cases m <;> rfl
theorem ufW_loc {c f : Str} {j : Nat} {w : W} : ufW c f ρ w (.loc j, μ) = ufM c f ρ μ j w μ[j]? := rfl
theorem ufM_ins {c f : Str} {j : Nat} {d : D} {fs : List (Str × W)} : ufM c f ρ μ j (.val d) (some (.ins c fs)) = if fs.length < 100 then some (ρ, μ.set j (.ins c (putW f (.val d) fs))) else none := by
  show (if c = c ∧ fs.length < 100 ∧ W.below μ.length (.val d) = true then _ else none) = _
  by_cases h : fs.length < 100
  · rw [if_pos h, if_pos ⟨rfl, h, rfl⟩]
  · rw [if_neg h, if_neg fun z => h z.2.1]
def fldSM (c f : Str) (ρ : Env') (μ : Mu) (j : Nat) (w : W) : Option MO → Option Out
  | some (.ins c' fs) => if c' = c ∧ fs.length < 100 ∧ w.below μ.length = true then some (.nx ρ (μ.set j (.ins c (putW f w fs)))) else none
  | _ => none
theorem fldSW_loc {c f : Str} {j : Nat} {w : W} : fldSW c f ρ w μ (.loc j) = fldSM c f ρ μ j w μ[j]? := by
  unfold fldSW fldSM
  try dsimp only
  all_goals (cases μ[j]? with
  | none => rfl
  | some m => cases m <;> rfl)
theorem fldSM_ins {c f : Str} {j : Nat} {d : D} {fs : List (Str × W)} : fldSM c f ρ μ j (.val d) (some (.ins c fs)) = if fs.length < 100 then some (.nx ρ (μ.set j (.ins c (putW f (.val d) fs)))) else none := by
  show (if c = c ∧ fs.length < 100 ∧ W.below μ.length (.val d) = true then _ else none) = _
  by_cases h : fs.length < 100
  · rw [if_pos h, if_pos ⟨rfl, h, rfl⟩]
  · rw [if_neg h, if_neg fun z => h z.2.1]
def fldM (c f : Str) (μ : Mu) : Option MO → Option (W × Mu)
  | some (.ins c' fs) => if c' = c then (fs.lookup f).bind fun w => some (w, μ) else none
  | _ => none
theorem fldW_loc {c f : Str} {j : Nat} : fldW c f μ (.loc j) = fldM c f μ μ[j]? := by
  show (match μ[j]? with
    | some (.ins c' fs) => if c' = c then match fs.lookup f with
      | some w => some (w, μ)
      | none => none
      else none
    | _ => none) = _
  unfold fldM
  cases μ[j]? with
  | none => rfl
  | some m =>
    cases m with
    | ins c' fs =>
      dsimp only
      split
      · cases fs.lookup f <;> rfl
      · rfl
    | _ => rfl
theorem fldM_ins {c f : Str} {fs : List (Str × W)} : fldM c f μ (some (.ins c fs)) = (fs.lookup f).bind fun w => some (w, μ) := by
  show (if c = c then _ else none) = _
  rw [if_pos rfl]
theorem look_cons {α : Type} {s g : Str} {w : α} {r : List (Str × α)} : List.lookup s ((g, w) :: r) = if s = g then some w else List.lookup s r := by
  rw [List.lookup_cons]
  by_cases h : s = g
  · rw [if_pos h, h, beq_self_eq_true]
  · rw [if_neg h, beq_false_of_ne h]
theorem putW_cons {f g : Str} {w x : W} {r : List (Str × W)} : putW f w ((g, x) :: r) = if g = f then (g, w) :: r else (g, x) :: putW f w r := rfl
theorem putW_nil {f : Str} {w : W} : putW f w [] = [(f, w)] := rfl
theorem at0 {α : Type} {a : α} {l : List α} : atI (a :: l) 0 = some a := L2.atI_nat (j := 0) rfl
theorem at1 {α : Type} {a b : α} {l : List α} : atI (a :: b :: l) 1 = some b := L2.atI_nat (j := 1) rfl
theorem at2 {α : Type} {a b c : α} {l : List α} : atI (a :: b :: c :: l) 2 = some c := L2.atI_nat (j := 2) rfl
theorem at3 {α : Type} {a b c d : α} {l : List α} : atI (a :: b :: c :: d :: l) 3 = some d := L2.atI_nat (j := 3) rfl
end DX
namespace DX
open PySem PySem.Spec L2 DK
def m_law_deeds_1 : RS :=
  (mSeq (mIfS (mTest (mOp (eqF false) (mVar 6) (mC (.str "learn")))) (mSeq (mAsg (mVar 4) (hName 2))
      (mCont)) mNext)
      (mSeq (mAsg (mIx (mOp splitF (mVar 6) (mC (.str " "))) (mC (.int 1))) (hName 7))
      (mAsg (mOp plusF (mLc (kSeq (mVar 5)) (hName 8) (mTest (mOp (eqF true) (mVar 8) (mVar 7))) (mVar 8) [8]) (mIf (mTest (mOp (eqF false) (mSl (mVar 6) mNoPart (mPart (mC (.int 4)))) (mC (.str "mark")))) (mLst (mCons (mVar 7) mNil)) (mLst mNil))) (hName 5))))
def m_law_deeds : RS :=
  (mSeq (mAsg (mUn lstF (mVar 3)) (hName 5))
      (mSeq (mFor (kSeq (mIf (mTest (mIsN true (mVar 1))) (mIx (mIx (mIx (mVar 0) (mC (.int 1))) (mVar 1)) (mC (.int 2))) (mLst mNil))) (hName 6) m_law_deeds_1)
      (mRet (mTup (mCons (mVar 2) (mCons (mUn tupF (mUn sortF (mLc (kSeq (mVar 5)) (hName 8) mYes (mUn strF (mVar 8)) [8]))) mNil))))))
def f_law_deeds : FX := bodyF true 5 9 m_law_deeds
def m_law_word : RS :=
  (mSeq (mAsg (mOp minusF (mVar 2) (mVar 1)) (hName 3))
      (mSeq (mIfS (mTest (mOp ltF (mVar 3) (mC (.int 2)))) (mRet (mIf (mTest (mOp ltF (mVar 3) (mOp minusF (mC (.int 0)) (mC (.int 1))))) (mC (.str "elder")) (mIf (mTest (mOp ltF (mVar 3) (mC (.int 0)))) (mC (.str "last")) (mIf (mTest (mOp (eqF false) (mVar 3) (mC (.int 1)))) (mC (.str "next")) (mC (.str "same")))))) mNext)
      (mRet (mIf (mTest (mOp leF (mVar 3) (mIx (mVar 0) (mC (.int 0))))) (mC (.str "near")) (mC (.str "far"))))))
def f_law_word : FX := bodyF true 3 4 m_law_word
def m_law_row_done_1 : RS :=
  (mSeq (mAsg (mLc (kSeq (mIx (mVar 4) (mC (.int 1)))) (hName 5) (mTest (mOp (eqF false) (mOp (eqF false) (mSl (mVar 5) mNoPart (mPart (mC (.int 4)))) (mC (.str "not "))) (mOp (inF false) (mIx (mOp splitF (mVar 5) (mC (.str " "))) (mUn negF (mC (.int 1)))) (mVar 2)))) (mVar 5) [5]) (hName 6))
      (mIfS (mAnd (mTest (mOp (eqF false) (mIx (mVar 4) (mC (.int 0))) (mVar 1))) (mTest (mOp (eqF false) (mVar 6) (mLst mNil)))) (mRet (mVar 3)) mNext))
def m_law_row_done : RS :=
  (mSeq (mFor (kEnum (mCons (mIx (mVar 0) (mC (.int 1))) mNil)) (hTup 2 (hCons (hName 3) (hCons (hName 4) hNil))) m_law_row_done_1)
      (mRet (mC .non)))
def f_law_row_done : FX := bodyF true 3 7 m_law_row_done
def m_law_answer : RS :=
  (mSeq (mAsg (mCall f_law_row_done [] (mCons (mVar 0) (mCons (mCall f_law_word [] (mCons (mVar 0) (mCons (mVar 1) (mCons (mVar 3) mNil)))) (mCons (mVar 2) mNil)))) (hName 4))
      (mSeq (mAsg (mCall f_law_deeds [] (mCons (mVar 0) (mCons (mVar 4) (mCons (mVar 1) (mCons (mVar 2) (mCons (mVar 3) mNil)))))) (hTup 2 (hCons (hName 5) (hCons (hName 6) hNil))))
      (mRet (mTup (mCons (mAndV (mIsN true (mVar 4)) (mIx (mIx (mIx (mVar 0) (mC (.int 1))) (mVar 4)) (mC (.int 3)))) (mCons (mVar 5) (mCons (mVar 6) (mCons (mVar 4) mNil))))))))
def f_law_answer : FX := bodyF true 4 7 m_law_answer
end DX
namespace DX
open PySem PySem.Spec L2 DK
local macro_rules
  | `(tactic| push_cast [$ts,*]) => `(tactic| simp only [q_seq, q_ifS, q_if, q_and, q_or, q_not, q_andV, q_orV, q_notV, q_test, q_op, q_un, q_asg, q_ret, q_drop, q_cons, q_dat, q_dat1, q_tup, q_lst, q_call, q_meth, q_for, q_lc, q_seqI, q_sl, q_var, q_c, q_nil, q_next, q_cont, q_break, q_retN, q_yes, q_noPart, q_partB, q_isN, q_ixB, q_fld, q_enum, q_par, q_body, varW_some, view_val, view_loc, viewM_lst, viewM_frz, isBl_bl, partW_int, name_set, ixW_val, ixF_l, ixF_t, fld_row_word, fld_row_tests, fld_row_deeds, fld_row_opens, fld_tool_window, fld_tool_rows, fld_tool_marks, recv_row, recv_tool, bodyE_rt, bodyE_nx, exit_any, exit_dst, negF_int, plusF_int, minusF_int, ltF_int, leF_int, gtF_int, geF_int, eqF_int, eqF_str, eqF_bl, intF_int, maxF_int, minF_int, lenF_l, lenF_t, lenF_s, tupF_l, tupF_t, lstF_l, lstF_t, strF_s, seqOf_t, seqOf_l, guard_val, guard_loc, isNW_val, isNW_loc, enumW_1, parW_2, tup_set, cons_set, nil_set, frzL_nil, frzL_cons, frz1_val, frz1_loc, frzM_lst, frzM_frz, ofS, ite_bind, Option.bind_some, then_nx, then_rt, then_ct, then_bk, start, List.length_cons, List.length_nil, List.map_cons, List.map_nil, List.replicate, List.cons_append, List.nil_append, List.append_nil, List.getElem?_cons_succ, List.getElem?_cons_zero, List.set_cons_succ, List.set_cons_zero, Nat.sub_self, Nat.reduceSub, Nat.reduceAdd, Nat.reduceEqDiff, if_true, if_false, reduceIte, decide_eq_true_eq, decide_true, decide_false, Bool.false_xor, Bool.true_xor, Nat.zero_add, eq_self, String.reduceEq, Bool.false_eq_true, wipeE, List.foldl_cons, List.foldl_nil, Bool.not_true, Bool.not_false, inF_strsT, inF_strsL, q_fldS, q_make, isNon_int, isNon_non, isNon_bl, isNon_str, isNon_tup, isNon_lst, q_lcM, q_setI, q_addM, addW_val, seqOf_loc, seqM_lst, seqM_frz, ixW_loc, ixM_lsW, ixM_lst, ixM_frz, setIW_loc, setIM_lst, exit_val, exit_loc, exitV_if, List.take_succ_cons, List.take_zero, List.take_nil, List.all_cons, List.all_nil, Bool.and_true, Bool.true_and, Bool.and_self, Nat.reduceLT, Nat.reduceLeDiff, Nat.zero_le, Nat.lt_add_one, exitM_lst, exitM_frz, below_lst, below_frz, below_dK, below_scr, below_lsW, below_ins, below_dW, wbelow_val, wbelow_loc, q_append, appA_loc, appW_1, appM_lst, q_lstOfM, lstM_lst, q_lstM, q_rng1, standB_none, standB_some, standM_lst, standM_frz, q_join, joinA_str, q_joined, q_jNil, q_jCons, jW_str, q_star, q_own1, ownW_val, okStr_str, isIns_row, isIns_tool, q_kget, kgetW_str, q_indexC, indexW_lst, q_makeL, mkL_cls, q_cmeth, cmW_cls, q_star1, star1W_cons, q_chain, chainW_bl, chainE_bl, q_eqOwn, fmtF_s, and_self, q_aug, augM_int, q_parN, setAll_cons, setAll_nil, q_never, intF_bl, q_extend, extA_loc, extW_1, extD_lst, extM_lst, q_asgT, uTup_tup, uCons_cons, uNil_nil, uName_eq, uFld_eq, ufW_loc, ufM_ins, fldSW_loc, fldSM_ins, fldW_loc, fldM_ins, look_cons, putW_nil, putW_cons, $ts,*])
variable {μ : Mu}
structure Txt where
  ts : List Str
  ds : List Str
def Txt.okB (X : Txt) : Bool := (X.ts.all fun s => match f_is_test [.val (.str s)] [] with
    | some (.val (.bl true), []) => true
    | _ => false) && X.ds.all fun s => match f_is_deed [.val (.str s)] [] with
    | some (.val (.bl true), []) => true
    | _ => false
structure RowOk (X : Txt) (r : RowM) : Prop where
  w : r.word ∈ cc_WORDS
  ts : ∀ s ∈ r.tests, s ∈ X.ts
  zt : r.tests.length ≤ 1000
  ds : ∀ s ∈ r.deeds, s ∈ X.ds
  zd : r.deeds.length ≤ 1000
  l : r.deeds = [] ∨ r.word ∈ cc_LEARNING ∧ ("learn" : Str) ∈ r.deeds
  o : r.opens = true ∨ r.word ≠ "house"
theorem atL_wds {s : Str} : atI ((wds s).map D.str) (-1) = some (.str (lst (wds s))) := at_map (at_lst (wds_ne s))
theorem at1_of {l : List Str} {x : Str} (h : l[1]? = some x) : atI (l.map D.str) 1 = some (.str x) := by
  match l, h with
  | a :: b :: t, h =>
    have : b = x := by simpa using h
    subst this
    exact at_map (atI_nat (k := 1) rfl)
def deedOk (s : Str) : Bool := (decide (fst (wds s) ≠ "mark") && decide (fst (wds s) ≠ "clear")) || (match (wds s)[1]? with
  | some x => sOkB x
  | none => false)
theorem addK_lenF : ∀ {ms ks : List Str}, (ms.foldl addK ks).length ≤ ks.length + ms.length
  | [], ks => by simp
  | m :: ms, ks => by
    have := addK_lenF (ms := ms) (ks := addK ks m)
    have h := addK_len (ks := ks) (s := m)
    rw [List.foldl_cons, List.length_cons]
    omega
theorem deedM_lenF : ∀ {ms ks : List Str}, (ms.foldl deedM ks).length ≤ ks.length + ms.length
  | [], ks => by simp
  | m :: ms, ks => by
    have := deedM_lenF (ms := ms) (ks := deedM ks m)
    have h := deedM_len (ks := ks) (s := m)
    rw [List.foldl_cons, List.length_cons]
    omega
theorem sortF_map {l : List Str} (h : l.length < 64) : sortF (.lst (l.map D.str)) = some (.lst ((srt l).map D.str)) := by
  unfold sortF
  dsimp only
  rw [sOf_map]
  dsimp only
  rw [if_pos h]
structure ToolOk (X : Txt) (T : ToolM) : Prop where
  win : 1 ≤ T.window
  txt : (textsM T.rows).length < 64
  len : T.rows.length ≤ 1000
  row : ∀ r ∈ T.rows, r.tests.length + r.deeds.length < 32
  ok : ∀ r ∈ T.rows, RowOk X r
theorem e_strs {ρ : Env'} {i : Nat} {marks : List Str} (hi : i < ρ.length) : lcR (hName i) mYes (mUn strF (mVar i)) none ρ (marks.map D.str) [] = some (marks.map D.str, []) := lc_map1 (h := D.str) rfl (fun s hs => ⟨_, rfl, by
  push_cast [eq_self]
  rw [List.getElem?_set_self hi]
  push_cast [eq_self]⟩)
structure TxtOk (X : Txt) : Prop where
  ok : X.okB = true
  de : ∀ s ∈ X.ds, deedOk s = true
theorem addK_mems : ∀ {ms ks : List Str} {s : Str}, s ∈ ms.foldl addK ks → s ∈ ks ∨ s ∈ ms
  | [], ks, s, h => .inl h
  | m :: ms, ks, s, h => by
    rcases addK_mems (ms := ms) (ks := addK ks m) h with h | h
    · rcases addK_mem h with h | h
      · exact .inl h
      · exact .inr (by rw [h]; simp)
    · exact .inr (List.mem_cons_of_mem _ h)
theorem deedM_mems : ∀ {ds ks : List Str} {s : Str}, s ∈ ds.foldl deedM ks → s ∈ ks ∨ ∃ d ∈ ds, s = (wds d).getD 1 ""
  | [], ks, s, h => .inl h
  | d :: ds, ks, s, h => by
    rcases deedM_mems (ds := ds) (ks := deedM ks d) h with h | ⟨e, he, h⟩
    · unfold deedM at h
      split at h
      · rcases addK_mem h with h | h
        · exact .inl h
        · exact .inr ⟨d, by simp, h⟩
      · split at h
        · exact .inl (List.mem_filter.mp h).1
        · exact .inl h
    · exact .inr ⟨e, List.mem_cons_of_mem _ he, h⟩
theorem behind_mem {ds ms : List Str} {s : Str} (h : s ∈ behindM ds ms) : s ∈ ms ∨ ∃ d ∈ ds, s = (wds d).getD 1 "" := by
  unfold behindM at h
  rcases deedM_mems ((srt_perm _).mem_iff.mp h) with h | h
  · rcases addK_mems h with h | h
    · cases h
    · exact .inl h
  · exact .inr h
theorem behind_len {ds ms : List Str} : (behindM ds ms).length ≤ ms.length + ds.length := by
  unfold behindM
  rw [(srt_perm _).length_eq]
  have h1 := deedM_lenF (ms := ds) (ks := ms.foldl addK [])
  have h2 := addK_lenF (ms := ms) (ks := [])
  rw [List.length_nil] at h2
  omega
theorem addK_nd : ∀ {ms ks : List Str}, (ks ++ ms).Nodup → ms.foldl addK ks = ks ++ ms
  | [], ks, _ => by simp
  | m :: ms, ks, h => by
    have hm : m ∉ ks := fun z => by
      rw [List.nodup_append] at h
      exact h.2.2 m z m (by simp) rfl
    rw [List.foldl_cons, addK, if_neg hm, addK_nd (by rw [List.append_assoc]; exact h), List.append_assoc]
    rfl
end DX
namespace DX
open PySem PySem.Spec L2 DK
local macro_rules
  | `(tactic| push_cast [$ts,*]) => `(tactic| simp only [q_seq, q_ifS, q_if, q_and, q_or, q_not, q_andV, q_orV, q_notV, q_test, q_op, q_un, q_asg, q_ret, q_drop, q_cons, q_dat, q_dat1, q_tup, q_lst, q_call, q_meth, q_for, q_lc, q_seqI, q_sl, q_var, q_c, q_nil, q_next, q_cont, q_break, q_retN, q_yes, q_noPart, q_partB, q_isN, q_ixB, q_fld, q_enum, q_par, q_body, varW_some, view_val, view_loc, viewM_lst, viewM_frz, isBl_bl, partW_int, name_set, ixW_val, ixF_l, ixF_t, fld_row_word, fld_row_tests, fld_row_deeds, fld_row_opens, fld_tool_window, fld_tool_rows, fld_tool_marks, recv_row, recv_tool, bodyE_rt, bodyE_nx, exit_any, exit_dst, negF_int, plusF_int, minusF_int, ltF_int, leF_int, gtF_int, geF_int, eqF_int, eqF_str, eqF_bl, intF_int, maxF_int, minF_int, lenF_l, lenF_t, lenF_s, tupF_l, tupF_t, lstF_l, lstF_t, strF_s, seqOf_t, seqOf_l, guard_val, guard_loc, isNW_val, isNW_loc, enumW_1, parW_2, tup_set, cons_set, nil_set, frzL_nil, frzL_cons, frz1_val, frz1_loc, frzM_lst, frzM_frz, ofS, ite_bind, Option.bind_some, then_nx, then_rt, then_ct, then_bk, start, List.length_cons, List.length_nil, List.map_cons, List.map_nil, List.replicate, List.cons_append, List.nil_append, List.append_nil, List.getElem?_cons_succ, List.getElem?_cons_zero, List.set_cons_succ, List.set_cons_zero, Nat.sub_self, Nat.reduceSub, Nat.reduceAdd, Nat.reduceEqDiff, if_true, if_false, reduceIte, decide_eq_true_eq, decide_true, decide_false, Bool.false_xor, Bool.true_xor, Nat.zero_add, eq_self, String.reduceEq, Bool.false_eq_true, wipeE, List.foldl_cons, List.foldl_nil, Bool.not_true, Bool.not_false, inF_strsT, inF_strsL, q_fldS, q_make, isNon_int, isNon_non, isNon_bl, isNon_str, isNon_tup, isNon_lst, q_lcM, q_setI, q_addM, addW_val, seqOf_loc, seqM_lst, seqM_frz, ixW_loc, ixM_lsW, ixM_lst, ixM_frz, setIW_loc, setIM_lst, exit_val, exit_loc, exitV_if, List.take_succ_cons, List.take_zero, List.take_nil, List.all_cons, List.all_nil, Bool.and_true, Bool.true_and, Bool.and_self, Nat.reduceLT, Nat.reduceLeDiff, Nat.zero_le, Nat.lt_add_one, exitM_lst, exitM_frz, below_lst, below_frz, below_dK, below_scr, below_lsW, below_ins, below_dW, wbelow_val, wbelow_loc, q_append, appA_loc, appW_1, appM_lst, q_lstOfM, lstM_lst, q_lstM, q_rng1, standB_none, standB_some, standM_lst, standM_frz, q_join, joinA_str, q_joined, q_jNil, q_jCons, jW_str, q_star, q_own1, ownW_val, okStr_str, isIns_row, isIns_tool, q_kget, kgetW_str, q_indexC, indexW_lst, q_makeL, mkL_cls, q_cmeth, cmW_cls, q_star1, star1W_cons, q_chain, chainW_bl, chainE_bl, q_eqOwn, fmtF_s, and_self, q_aug, augM_int, q_parN, setAll_cons, setAll_nil, q_never, intF_bl, q_extend, extA_loc, extW_1, extD_lst, extM_lst, q_asgT, uTup_tup, uCons_cons, uNil_nil, uName_eq, uFld_eq, ufW_loc, ufM_ins, fldSW_loc, fldSM_ins, fldW_loc, fldM_ins, look_cons, putW_nil, putW_cons, $ts,*])
variable {μ : Mu}
def rowT (r : RowM) : D := .tup [.str r.word, .lst (r.tests.map D.str), .lst (r.deeds.map D.str), .bl r.opens]
def toolT (T : ToolM) : D := .tup [.int T.window, .lst (T.rows.map rowT)]
theorem ix_tool {T : ToolM} {i : Int} : ixF (toolT T) (.int i) = atI [.int T.window, .lst (T.rows.map rowT)] i := rfl
theorem ix_row {r : RowM} {i : Int} : ixF (rowT r) (.int i) = atI [.str r.word, .lst (r.tests.map D.str), .lst (r.deeds.map D.str), .bl r.opens] i := rfl
theorem e_lword {T : ToolM} {n c : Int} : callX f_law_word [.val (toolT T), .val (.int n), .val (.int c)] μ = some (.val (.str (wordM T.window (c - n))), μ) := by
  refine callX_pure rfl ?_
  unfold f_law_word m_law_word wordM
  push_cast [ix_tool, at0]
  repeat' split
  all_goals first | rfl | omega
theorem eqF_strsL {neg : Bool} {a b : List Str} : eqF neg (.lst (a.map D.str)) (.lst (b.map D.str)) = some (.bl (neg ^^ decide (a = b))) := by
  have e : eqP (.lst (a.map D.str)) (.lst (b.map D.str)) = decide (a = b) := by
    show PyData.eqvAll (toPyL (a.map D.str)) (toPyL (b.map D.str)) = _
    induction a generalizing b with
    | nil => cases b <;> simp [toPyL, toPy, PyData.eqvAll]
    | cons x a ih =>
      cases b with
      | nil => simp [toPyL, toPy, PyData.eqvAll]
      | cons y b =>
        simp only [List.map_cons, toPyL, toPy, PyData.eqvAll, PyData.eqv, ih]
        by_cases h : x = y <;> simp [h]
  unfold eqF
  dsimp only
  rw [if_pos ⟨pyOkL_strs, pyOkL_strs, depth_strs, depth_strs⟩, e]
theorem eqF_nilS {neg : Bool} {a : List Str} : eqF neg (.lst (a.map D.str)) (.lst []) = some (.bl (neg ^^ decide (a = []))) := eqF_strsL (b := [])
def testOk (t : Str) : Bool := decide (decide (cutS t none (some 4) = "not ") = decide (fst (wds t) = "not"))
theorem slF_s {lo hi : Option Int} {s : Str} : slF lo hi (.str s) = some (.str (cutS s lo hi)) := rfl
theorem enumR_t : ∀ (n : Nat) (rs : List RowM), enumD n (rs.map rowT) = (enumR n rs).map fun p => D.tup [.int (p.1 : Nat), rowT p.2]
  | _, [] => rfl
  | n, x :: xs => by rw [List.map_cons, enumD, enumR, List.map_cons, enumR_t]
theorem filter_fits {marks : List Str} {ts : List Str} (h : ∀ t ∈ ts, testOk t = true) : decide (ts.filter (fun t => decide (decide (cutS t none (some 4) = "not ") = decide (lst (wds t) ∈ marks))) = []) = fitsM ts marks := by
  have e : ts.filter (fun t => decide (decide (cutS t none (some 4) = "not ") = decide (lst (wds t) ∈ marks))) = ts.filter (fits1 marks) := by
    refine List.filter_congr fun t ht => ?_
    have := of_decide_eq_true (h t ht)
    unfold fits1
    rw [this]
    rw [decide_eq_decide]
    exact eq_comm
  rw [e]
  unfold fitsM
  cases q : ts.any (fits1 marks) with
  | true =>
    obtain ⟨x, h1, h2⟩ := List.any_eq_true.mp q
    refine decide_eq_false fun z => ?_
    have := List.mem_filter.mpr ⟨h1, h2⟩
    rw [z] at this
    cases this
  | false =>
    refine decide_eq_true (List.filter_eq_nil_iff.mpr fun x hx hp => ?_)
    exact absurd (List.any_eq_true.mpr ⟨x, hx, hp⟩) (by rw [q]; exact Bool.false_ne_true)
theorem e_lrow_done {T : ToolM} {w : Str} {m : D} {marks : List Str} (hm : seqD m = some (marks.map D.str)) (ht : ∀ r ∈ T.rows, r.tests.length ≤ 1000 ∧ ∀ t ∈ r.tests, testOk t = true) : callX f_law_row_done [.val (toolT T), .val (.str w), .val m] μ = some (.val (atD (rowForM T.rows w marks)), μ) := by
  refine callX_pure rfl ?_
  have hlb : LB = 100000 := rfl
  unfold f_law_row_done m_law_row_done
  push_cast [ix_tool, at1]
  rw [enumR_t]
  have step : ∀ (x : Nat × RowM) (ρ : Env'), x ∈ enumR 0 T.rows → (∃ a b c d, ρ = [some (.val (toolT T)), some (.val (.str w)), some (.val m), a, b, c, d]) → ∃ ρ1, hTup 2 (hCons (hName 3) (hCons (hName 4) hNil)) (.val (D.tup [.int (x.1 : Nat), rowT x.2])) ρ = some ρ1 ∧ (fitP w marks x = true → m_law_row_done_1 ρ1 [] = some (.rt (.val (.int (x.1 : Nat))) [])) ∧ (fitP w marks x = false → ∃ ρ2, (∃ a b c d, ρ2 = [some (.val (toolT T)), some (.val (.str w)), some (.val m), a, b, c, d]) ∧ (m_law_row_done_1 ρ1 [] = some (.nx ρ2 []) ∨ m_law_row_done_1 ρ1 [] = some (.ct ρ2 []))) := by
    rintro x ρ hx ⟨a, b, c, d, rfl⟩
    have hmem : x.2 ∈ T.rows := List.mem_of_getElem? (enumR_at hx).2
    obtain ⟨hz, hts⟩ := ht _ hmem
    have hl : (x.2.tests.map D.str).length ≤ LB := by rw [List.length_map]; omega
    have key : ∃ y, m_law_row_done_1 [some (.val (toolT T)), some (.val (.str w)), some (.val m), some (.val (.int (x.1 : Nat))), some (.val (rowT x.2)), c, d] [] = if fitP w marks x = true then some (.rt (.val (.int (x.1 : Nat))) []) else some (.nx [some (.val (toolT T)), some (.val (.str w)), some (.val m), some (.val (.int (x.1 : Nat))), some (.val (rowT x.2)), c, y] []) := by
      refine ⟨some (.val (.lst ((x.2.tests.filter fun t => decide (decide (cutS t none (some 4) = "not ") = decide (lst (wds t) ∈ marks))).map D.str))), ?_⟩
      unfold m_law_row_done_1 fitP
      push_cast [ix_row, at1, hl]
      rw [lc_map (h := D.str) (p := fun t => decide (decide (cutS t none (some 4) = "not ") = decide (lst (wds t) ∈ marks))) rfl (fun t htt => ⟨_, rfl, by
        push_cast [slF_s, splitF_sp, atL_wds, inF_seqS hm], fun _ => by push_cast [eq_self]⟩)]
      rw [← filter_fits hts]
      push_cast [ix_row, at0, eqF_nilS, Bool.and_eq_true]
      by_cases h1 : x.2.word = w
      · simp [h1]
      · simp [h1]
    obtain ⟨y, key⟩ := key
    refine ⟨_, rfl, ?_, ?_⟩
    · intro h
      exact key.trans (if_pos h)
    · intro h
      exact ⟨_, ⟨_, _, _, _, rfl⟩, .inl (key.trans (if_neg (by rw [h]; exact Bool.false_ne_true)))⟩
  obtain ⟨h1, h2⟩ := loop_find (μ := []) (c := none) rfl (f := fun p : Nat × RowM => D.tup [.int (p.1 : Nat), rowT p.2]) (w := fun x => .val (.int (x.1 : Nat))) step ⟨none, none, none, none, rfl⟩
  unfold rowForM
  cases e : (enumR 0 T.rows).find? (fitP w marks) with
  | some x =>
    push_cast [h1 x e]
    rfl
  | none =>
    obtain ⟨ρ2, _, h3⟩ := h2 e
    push_cast [h3]
    rfl
def keptM (ks : List Str) (deed : Str) : List Str := if deed = "learn" then ks else ks.filter (fun m => !decide (m = (wds deed).getD 1 "")) ++ (if cutS deed none (some 4) = "mark" then [(wds deed).getD 1 ""] else [])
def deedOk2 (s : Str) : Bool := if s = "learn" then decide (fst (wds s) ≠ "mark") && decide (fst (wds s) ≠ "clear") else decide ((wds s).length = 2) && (if cutS s none (some 4) = "mark" then decide (fst (wds s) = "mark") else decide (fst (wds s) = "clear"))
theorem kept_perm {ks ls : List Str} {s : Str} (h : deedOk2 s = true) (p : ks.Perm ls) (nk : ks.Nodup) : (keptM ks s).Perm (deedM ls s) ∧ (keptM ks s).Nodup := by
  unfold deedOk2 at h
  unfold keptM deedM
  by_cases h1 : s = "learn"
  · rw [if_pos h1] at h ⊢
    simp only [Bool.and_eq_true, decide_eq_true_eq] at h
    rw [if_neg h.1, if_neg h.2]
    exact ⟨p, nk⟩
  · rw [if_neg h1] at h ⊢
    generalize (wds s).getD 1 "" = x
    have nf : (ks.filter fun m => !decide (m = x)).Nodup := nk.filter _
    by_cases h2 : cutS s none (some 4) = "mark"
    · rw [if_pos h2] at h ⊢
      simp only [Bool.and_eq_true, decide_eq_true_eq] at h
      rw [if_pos h.2]
      have nx : x ∉ ks.filter fun m => !decide (m = x) := by simp
      have nd : ((ks.filter fun m => !decide (m = x)) ++ [x]).Nodup := by
        rw [List.nodup_append]
        refine ⟨nf, by simp, ?_⟩
        intro a ha b hb
        rw [List.mem_singleton] at hb
        subst hb
        rintro rfl
        exact nx ha
      refine ⟨?_, nd⟩
      have nl : (addK ls x).Nodup := by
        unfold addK
        split
        · exact p.nodup_iff.mp nk
        · rename_i q
          rw [List.nodup_append]
          refine ⟨p.nodup_iff.mp nk, by simp, ?_⟩
          intro a ha b hb
          rw [List.mem_singleton] at hb
          subst hb
          rintro rfl
          exact q ha
      rw [List.perm_ext_iff_of_nodup nd nl]
      intro a
      have hm := p.mem_iff (a := a)
      unfold addK
      by_cases hx : x ∈ ls
      · rw [if_pos hx]
        simp only [List.mem_append, List.mem_filter, List.mem_singleton]
        by_cases ha : a = x
        · subst ha; simp [hx]
        · simp [ha, hm]
      · rw [if_neg hx]
        simp only [List.mem_append, List.mem_filter, List.mem_singleton]
        by_cases ha : a = x
        · subst ha; simp
        · simp [ha, hm]
    · rw [if_neg h2] at h ⊢
      simp only [Bool.and_eq_true, decide_eq_true_eq] at h
      have h3 : fst (wds s) ≠ "mark" := by rw [h.2]; simp [ofS]
      rw [if_neg h3, if_pos h.2, List.append_nil]
      exact ⟨p.filter _, nf⟩
theorem kept_all {ds : List Str} : ∀ {ks ls : List Str}, (∀ s ∈ ds, deedOk2 s = true) → ks.Perm ls → ks.Nodup → (ds.foldl keptM ks).Perm (ds.foldl deedM ls) := by
  induction ds with
  | nil => exact fun _ p _ => p
  | cons d ds ih =>
    intro ks ls h p nk
    obtain ⟨p2, n2⟩ := kept_perm (h d (by simp)) p nk
    exact ih (fun s hs => h s (List.mem_cons_of_mem _ hs)) p2 n2
theorem kept_behind {ds ms : List Str} (h : ∀ s ∈ ds, deedOk2 s = true) (n : ms.Nodup) : srt (ds.foldl keptM ms) = behindM ds ms := by
  unfold behindM
  rw [addK_nd (ks := []) (by simpa using n), List.nil_append]
  exact srt_uniq (srt_srt _) (srt_srt _) ((srt_perm _).trans ((kept_all h (List.Perm.refl _) n).trans (srt_perm _).symm))
theorem plusF_l {a b : List D} : plusF (.lst a) (.lst b) = if a.length + b.length ≤ LB then some (.lst (a ++ b)) else none := rfl
theorem wd1 {s : Str} (h : (wds s).length = 2) : (wds s)[1]? = some ((wds s).getD 1 "") := by
  rw [List.getD_eq_getElem?_getD]
  have : 1 < (wds s).length := by omega
  rw [List.getElem?_eq_getElem this]
  rfl
theorem keptM_len {ks : List Str} {s : Str} : (keptM ks s).length ≤ ks.length + 1 := by
  unfold keptM
  generalize (wds s).getD 1 "" = x
  split
  · omega
  · have := List.length_filter_le (fun m => !decide (m = x)) ks
    rw [List.length_append]
    split
    · rw [List.length_singleton]; omega
    · rw [List.length_nil]; omega
theorem e_ldeed {a b m c n x7 x8 : Option W} {k : Str} {ks : List Str} {cd : W} (hk : deedOk2 k = true) (hz : ks.length < 1000) : ∃ y7 y8, m_law_deeds_1 [a, b, n, m, some cd, some (.val (.lst (ks.map D.str))), some (.val (.str k)), x7, x8] [] = (if k = "learn" then some (.ct [a, b, some cd, m, some cd, some (.val (.lst ((keptM ks k).map D.str))), some (.val (.str k)), y7, y8] []) else some (.nx [a, b, n, m, some cd, some (.val (.lst ((keptM ks k).map D.str))), some (.val (.str k)), y7, y8] [])) := by
  have hlb : LB = 100000 := rfl
  by_cases h1 : k = "learn"
  · refine ⟨x7, x8, ?_⟩
    unfold m_law_deeds_1 keptM
    rw [if_pos h1, if_pos h1]
    push_cast [h1]
  · unfold deedOk2 at hk
    rw [if_neg h1] at hk
    simp only [Bool.and_eq_true, decide_eq_true_eq] at hk
    refine ⟨some (.val (.str ((wds k).getD 1 ""))), x8, ?_⟩
    unfold m_law_deeds_1 keptM
    rw [if_neg h1, if_neg h1]
    have hl : (ks.map D.str).length ≤ LB := by rw [List.length_map]; omega
    push_cast [h1, splitF_sp, at1_of (wd1 hk.1), hl]
    rw [lc_map (h := D.str) (p := fun t => !decide (t = (wds k).getD 1 "")) rfl (fun t htt => ⟨_, rfl, by
        push_cast [eq_self], fun _ => by push_cast [eq_self]⟩)]
    push_cast [slF_s]
    have hf := List.length_filter_le (fun t => !decide (t = (wds k).getD 1 "")) ks
    by_cases h2 : cutS k none (some 4) = "mark"
    · push_cast [h2, plusF_l]
      rw [if_pos (by omega), if_pos (by rw [List.length_map]; omega), List.map_append]
      rfl
    · push_cast [h2, plusF_l]
      rw [if_pos (by rw [List.length_map]; omega)]
theorem e_ldeeds_loop {a b m : Option W} {cd : Int} : ∀ {ds ks : List Str} {n : Int} {x6 x7 x8 : Option W}, (∀ s ∈ ds, deedOk2 s = true) → ks.length + ds.length < 1000 → ∃ y6 y7 y8, loopR (hName 6) m_law_deeds_1 none (ds.map D.str) [a, b, some (.val (.int n)), m, some (.val (.int cd)), some (.val (.lst (ks.map D.str))), x6, x7, x8] [] = some (.nx [a, b, some (.val (.int (if ("learn" : Str) ∈ ds then cd else n))), m, some (.val (.int cd)), some (.val (.lst ((ds.foldl keptM ks).map D.str))), y6, y7, y8] [])
  | [], ks, n, x6, x7, x8, _, _ => ⟨x6, x7, x8, rfl⟩
  | s :: ds, ks, n, x6, x7, x8, ho, hz => by
    rw [List.length_cons] at hz
    obtain ⟨y7, y8, he⟩ := e_ldeed (a := a) (b := b) (m := m) (c := none) (n := some (.val (.int n))) (x7 := x7) (x8 := x8) (k := s) (ks := ks) (cd := .val (.int cd)) (ho s (by simp)) (by omega)
    have hl := keptM_len (ks := ks) (s := s)
    rw [List.map_cons, loop_cons]
    simp only [name_set, Option.bind_some, List.set_cons_succ, List.set_cons_zero]
    rw [he]
    by_cases h1 : s = "learn"
    · obtain ⟨z6, z7, z8, hx⟩ := e_ldeeds_loop (a := a) (b := b) (m := m) (cd := cd) (ds := ds) (ks := keptM ks s) (n := cd) (x6 := some (.val (.str s))) (x7 := y7) (x8 := y8) (fun t ht => ho t (List.mem_cons_of_mem _ ht)) (by omega)
      refine ⟨z6, z7, z8, ?_⟩
      rw [if_pos h1]
      simp only [Option.bind_some, standB, if_true]
      rw [hx, if_pos (show ("learn" : Str) ∈ s :: ds by rw [h1]; simp), ite_self]
      rfl
    · obtain ⟨z6, z7, z8, hx⟩ := e_ldeeds_loop (a := a) (b := b) (m := m) (cd := cd) (ds := ds) (ks := keptM ks s) (n := n) (x6 := some (.val (.str s))) (x7 := y7) (x8 := y8) (fun t ht => ho t (List.mem_cons_of_mem _ ht)) (by omega)
      refine ⟨z6, z7, z8, ?_⟩
      rw [if_neg h1]
      simp only [Option.bind_some, standB, if_true]
      have hi : (("learn" : Str) ∈ s :: ds) = (("learn" : Str) ∈ ds) := by
        rw [List.mem_cons]
        exact propext ⟨fun h => h.resolve_left fun e => h1 e.symm, .inr⟩
      rw [hx]
      simp only [hi, List.foldl_cons]
def lateP (c n : Int) : Option (Nat × RowM) → Int
  | some q => if ("learn" : Str) ∈ q.2.deeds then c else n
  | none => n
def keptP (marks : List Str) : Option (Nat × RowM) → List Str
  | some q => behindM q.2.deeds marks
  | none => srt marks
theorem e_ldeeds {T : ToolM} {n c : Int} {m : D} {marks : List Str} {p : Option (Nat × RowM)} (hm : lstF m = some (.lst (marks.map D.str))) (hp : ∀ q, p = some q → T.rows[q.1]? = some q.2) (hd : ∀ r ∈ T.rows, ∀ s ∈ r.deeds, deedOk2 s = true) (hr : ∀ r ∈ T.rows, r.tests.length + r.deeds.length < 32) (hz : marks.length < 32) (hn : marks.Nodup) : callX f_law_deeds [.val (toolT T), .val (atD p), .val (.int n), .val m, .val (.int c)] μ = some (.val (.tup [.int (lateP c n p), .tup ((keptP marks p).map D.str)]), μ) := by
  refine callX_pure rfl ?_
  have hlb : LB = 100000 := rfl
  unfold f_law_deeds m_law_deeds
  have h2 : (2 ≤ LB) = True := eq_true (by omega)
  have h0 : (0 ≤ LB) = True := eq_true (by omega)
  cases p with
  | none =>
    have hl : (marks.map D.str).length ≤ LB := by rw [List.length_map]; omega
    push_cast [hm, atD, h0, h2, loop_nil, hl]
    rw [e_strs (by simp)]
    push_cast [sortF_map (l := marks) (by omega), h2]
    rfl
  | some q =>
    have hq := hp q rfl
    have hmem : q.2 ∈ T.rows := List.mem_of_getElem? hq
    have hat : atI (T.rows.map rowT) ((q.1 : Nat) : Int) = some (rowT q.2) := at_map (L2.atI_nat hq)
    have hb := hr _ hmem
    obtain ⟨y6, y7, y8, hx⟩ := e_ldeeds_loop (a := some (.val (toolT T))) (b := some (.val (.int (q.1 : Nat)))) (m := some (.val m)) (cd := c) (ds := q.2.deeds) (ks := marks) (n := n) (x6 := none) (x7 := none) (x8 := none) (hd _ hmem) (by omega)
    have hkl : ∀ {ds ks : List Str}, (ds.foldl keptM ks).length ≤ ks.length + ds.length := fun {ds} => by
      induction ds with
      | nil => intro ks; simp
      | cons d ds ih =>
        intro ks
        have := ih (ks := keptM ks d)
        have := keptM_len (ks := ks) (s := d)
        rw [List.foldl_cons, List.length_cons]
        omega
    have hk2 := hkl (ds := q.2.deeds) (ks := marks)
    have hl : ((q.2.deeds.foldl keptM marks).map D.str).length ≤ LB := by rw [List.length_map]; omega
    push_cast [hm, atD, h2, ix_tool, at1, hat, ix_row, at2, hx, hl]
    rw [e_strs (by simp)]
    push_cast [sortF_map (l := q.2.deeds.foldl keptM marks) (by omega), h2]
    rw [kept_behind (hd _ hmem) hn]
    rfl
end DX
namespace DX
open PySem PySem.Spec L2 DK
local macro_rules
  | `(tactic| push_cast [$ts,*]) => `(tactic| simp only [q_seq, q_ifS, q_if, q_and, q_or, q_not, q_andV, q_orV, q_notV, q_test, q_op, q_un, q_asg, q_ret, q_drop, q_cons, q_dat, q_dat1, q_tup, q_lst, q_call, q_meth, q_for, q_lc, q_seqI, q_sl, q_var, q_c, q_nil, q_next, q_cont, q_break, q_retN, q_yes, q_noPart, q_partB, q_isN, q_ixB, q_fld, q_enum, q_par, q_body, varW_some, view_val, view_loc, viewM_lst, viewM_frz, isBl_bl, partW_int, name_set, ixW_val, ixF_l, ixF_t, fld_row_word, fld_row_tests, fld_row_deeds, fld_row_opens, fld_tool_window, fld_tool_rows, fld_tool_marks, recv_row, recv_tool, bodyE_rt, bodyE_nx, exit_any, exit_dst, negF_int, plusF_int, minusF_int, ltF_int, leF_int, gtF_int, geF_int, eqF_int, eqF_str, eqF_bl, intF_int, maxF_int, minF_int, lenF_l, lenF_t, lenF_s, tupF_l, tupF_t, lstF_l, lstF_t, strF_s, seqOf_t, seqOf_l, guard_val, guard_loc, isNW_val, isNW_loc, enumW_1, parW_2, tup_set, cons_set, nil_set, frzL_nil, frzL_cons, frz1_val, frz1_loc, frzM_lst, frzM_frz, ofS, ite_bind, Option.bind_some, then_nx, then_rt, then_ct, then_bk, start, List.length_cons, List.length_nil, List.map_cons, List.map_nil, List.replicate, List.cons_append, List.nil_append, List.append_nil, List.getElem?_cons_succ, List.getElem?_cons_zero, List.set_cons_succ, List.set_cons_zero, Nat.sub_self, Nat.reduceSub, Nat.reduceAdd, Nat.reduceEqDiff, if_true, if_false, reduceIte, decide_eq_true_eq, decide_true, decide_false, Bool.false_xor, Bool.true_xor, Nat.zero_add, eq_self, String.reduceEq, Bool.false_eq_true, wipeE, List.foldl_cons, List.foldl_nil, Bool.not_true, Bool.not_false, inF_strsT, inF_strsL, q_fldS, q_make, isNon_int, isNon_non, isNon_bl, isNon_str, isNon_tup, isNon_lst, q_lcM, q_setI, q_addM, addW_val, seqOf_loc, seqM_lst, seqM_frz, ixW_loc, ixM_lsW, ixM_lst, ixM_frz, setIW_loc, setIM_lst, exit_val, exit_loc, exitV_if, List.take_succ_cons, List.take_zero, List.take_nil, List.all_cons, List.all_nil, Bool.and_true, Bool.true_and, Bool.and_self, Nat.reduceLT, Nat.reduceLeDiff, Nat.zero_le, Nat.lt_add_one, exitM_lst, exitM_frz, below_lst, below_frz, below_dK, below_scr, below_lsW, below_ins, below_dW, wbelow_val, wbelow_loc, q_append, appA_loc, appW_1, appM_lst, q_lstOfM, lstM_lst, q_lstM, q_rng1, standB_none, standB_some, standM_lst, standM_frz, q_join, joinA_str, q_joined, q_jNil, q_jCons, jW_str, q_star, q_own1, ownW_val, okStr_str, isIns_row, isIns_tool, q_kget, kgetW_str, q_indexC, indexW_lst, q_makeL, mkL_cls, q_cmeth, cmW_cls, q_star1, star1W_cons, q_chain, chainW_bl, chainE_bl, q_eqOwn, fmtF_s, and_self, q_aug, augM_int, q_parN, setAll_cons, setAll_nil, q_never, intF_bl, q_extend, extA_loc, extW_1, extD_lst, extM_lst, q_asgT, uTup_tup, uCons_cons, uNil_nil, uName_eq, uFld_eq, ufW_loc, ufM_ins, fldSW_loc, fldSM_ins, fldW_loc, fldM_ins, look_cons, putW_nil, putW_cons, $ts,*])
variable {μ : Mu}
theorem draw_ex (d : Dl) (many : Int) (hd : d.1.length ≤ 1000) (h0 : 0 < many) (h1 : many < 1000) : ∃ (k : Int) (d' : Dl), 0 ≤ k ∧ k < many ∧ d'.1.length ≤ 1000 ∧ ∀ t, callX f_law_draw [.loc 1, .val (.int many)] (.lst (d.1.map D.int) :: .lsW [.loc 0, .val (.int d.2)] :: t) = some (.val (.int k), .lst (d'.1.map D.int) :: .lsW [.loc 0, .val (.int d'.2)] :: t) := by
  have hlb : LB = 100000 := rfl
  have k2 := drawM_len (many := many) (d := d)
  refine ⟨_, _, drawM_lo (d := d) h0, drawM_hi (d := d) h0, Nat.le_trans k2 hd, fun t => ?_⟩
  exact callX_dst (f := f_law_draw) (ws := [.loc 1, .val (.int many)]) (rest := t) (by kernel_rfl) (e_draw (d := d) (many := many) (by omega) h0 (by omega))
theorem callX_deal {f : FX} {ws : List W} {t : Mu} {w : W} {d d' : Dl} (ht : locTop ws = 2) (h : f ws [.lst (d.1.map D.int), .lsW [.loc 0, .val (.int d.2)]] = some (w, [.lst (d'.1.map D.int), .lsW [.loc 0, .val (.int d'.2)]])) : callX f ws (.lst (d.1.map D.int) :: .lsW [.loc 0, .val (.int d.2)] :: t) = some (w, .lst (d'.1.map D.int) :: .lsW [.loc 0, .val (.int d'.2)] :: t) := callX_dst (d := d) (d' := d') ht h
theorem at_some {α : Type} {l : List α} {k : Int} (h0 : 0 ≤ k) (h1 : k < l.length) : ∃ x, x ∈ l ∧ atI l k = some x := by
  obtain ⟨j, rfl⟩ := Int.eq_ofNat_of_zero_le h0
  have hj : j < l.length := by omega
  exact ⟨l[j], List.getElem_mem hj, L2.atI_nat (List.getElem?_eq_getElem hj)⟩
theorem pick_ex (d : Dl) (xs : List D) (hd : d.1.length ≤ 1000) (h0 : xs ≠ []) (h1 : xs.length < 1000) : ∃ (x : D) (d' : Dl), x ∈ xs ∧ d'.1.length ≤ 1000 ∧ ∀ t, callX f_law_pick [.loc 1, .val (.lst xs)] (.lst (d.1.map D.int) :: .lsW [.loc 0, .val (.int d.2)] :: t) = some (.val x, .lst (d'.1.map D.int) :: .lsW [.loc 0, .val (.int d'.2)] :: t) := by
  have hp : 0 < xs.length := List.length_pos_iff.mpr h0
  obtain ⟨k, d', k0, k1, k2, h⟩ := draw_ex d xs.length hd (by omega) (by omega)
  obtain ⟨x, hx, hat⟩ := at_some k0 k1
  refine ⟨x, d', hx, k2, fun t => callX_deal rfl ?_⟩
  unfold f_law_pick m_law_pick
  push_cast [h, hat]
def XT : Txt := ⟨["marked k", "not marked k"], ["learn", "mark k", "clear k"]⟩
theorem XT_de : ∀ s ∈ XT.ds, deedOk s = true ∧ deedOk2 s = true := by
  have : (XT.ds.all fun s => deedOk s && deedOk2 s) = true := by kernel_rfl
  exact fun s hs => Bool.and_eq_true_iff.mp (List.all_eq_true.mp this s hs)
theorem XT_te : ∀ s ∈ XT.ts, testOk s = true := by
  have : (XT.ts.all testOk) = true := by kernel_rfl
  exact fun s hs => List.all_eq_true.mp this s hs
structure RW (r : RowM) : Prop where
  ok : RowOk XT r
  t2 : r.tests.length ≤ 2
  d3 : r.deeds.length ≤ 3
end DX
namespace DX
open PySem PySem.Spec L2 DK
local macro_rules
  | `(tactic| push_cast [$ts,*]) => `(tactic| simp only [q_seq, q_ifS, q_if, q_and, q_or, q_not, q_andV, q_orV, q_notV, q_test, q_op, q_un, q_asg, q_ret, q_drop, q_cons, q_dat, q_dat1, q_tup, q_lst, q_call, q_meth, q_for, q_lc, q_seqI, q_sl, q_var, q_c, q_nil, q_next, q_cont, q_break, q_retN, q_yes, q_noPart, q_partB, q_isN, q_ixB, q_fld, q_enum, q_par, q_body, varW_some, view_val, view_loc, viewM_lst, viewM_frz, isBl_bl, partW_int, name_set, ixW_val, ixF_l, ixF_t, fld_row_word, fld_row_tests, fld_row_deeds, fld_row_opens, fld_tool_window, fld_tool_rows, fld_tool_marks, recv_row, recv_tool, bodyE_rt, bodyE_nx, exit_any, exit_dst, negF_int, plusF_int, minusF_int, ltF_int, leF_int, gtF_int, geF_int, eqF_int, eqF_str, eqF_bl, intF_int, maxF_int, minF_int, lenF_l, lenF_t, lenF_s, tupF_l, tupF_t, lstF_l, lstF_t, strF_s, seqOf_t, seqOf_l, guard_val, guard_loc, isNW_val, isNW_loc, enumW_1, parW_2, tup_set, cons_set, nil_set, frzL_nil, frzL_cons, frz1_val, frz1_loc, frzM_lst, frzM_frz, ofS, ite_bind, Option.bind_some, then_nx, then_rt, then_ct, then_bk, start, List.length_cons, List.length_nil, List.map_cons, List.map_nil, List.replicate, List.cons_append, List.nil_append, List.append_nil, List.getElem?_cons_succ, List.getElem?_cons_zero, List.set_cons_succ, List.set_cons_zero, Nat.sub_self, Nat.reduceSub, Nat.reduceAdd, Nat.reduceEqDiff, if_true, if_false, reduceIte, decide_eq_true_eq, decide_true, decide_false, Bool.false_xor, Bool.true_xor, Nat.zero_add, eq_self, String.reduceEq, Bool.false_eq_true, wipeE, List.foldl_cons, List.foldl_nil, Bool.not_true, Bool.not_false, inF_strsT, inF_strsL, q_fldS, q_make, isNon_int, isNon_non, isNon_bl, isNon_str, isNon_tup, isNon_lst, q_lcM, q_setI, q_addM, addW_val, seqOf_loc, seqM_lst, seqM_frz, ixW_loc, ixM_lsW, ixM_lst, ixM_frz, setIW_loc, setIM_lst, exit_val, exit_loc, exitV_if, List.take_succ_cons, List.take_zero, List.take_nil, List.all_cons, List.all_nil, Bool.and_true, Bool.true_and, Bool.and_self, Nat.reduceLT, Nat.reduceLeDiff, Nat.zero_le, Nat.lt_add_one, exitM_lst, exitM_frz, below_lst, below_frz, below_dK, below_scr, below_lsW, below_ins, below_dW, wbelow_val, wbelow_loc, q_append, appA_loc, appW_1, appM_lst, q_lstOfM, lstM_lst, q_lstM, q_rng1, standB_none, standB_some, standM_lst, standM_frz, q_join, joinA_str, q_joined, q_jNil, q_jCons, jW_str, q_star, q_own1, ownW_val, okStr_str, isIns_row, isIns_tool, q_kget, kgetW_str, q_indexC, indexW_lst, q_makeL, mkL_cls, q_cmeth, cmW_cls, q_star1, star1W_cons, q_chain, chainW_bl, chainE_bl, q_eqOwn, fmtF_s, and_self, q_aug, augM_int, q_parN, setAll_cons, setAll_nil, q_never, intF_bl, q_extend, extA_loc, extW_1, extD_lst, extM_lst, q_asgT, uTup_tup, uCons_cons, uNil_nil, uName_eq, uFld_eq, ufW_loc, ufM_ins, fldSW_loc, fldSM_ins, fldW_loc, fldM_ins, look_cons, putW_nil, putW_cons, $ts,*])
variable {μ : Mu}
theorem RW.bare {r : RowM} (h : RW r) : RW ⟨r.word, r.tests, [], r.opens⟩ := ⟨⟨h.ok.w, h.ok.ts, h.ok.zt, by simp, by simp, .inl rfl, h.ok.o⟩, h.t2, by simp⟩
end DX
namespace DX
open PySem PySem.Spec L2 DK
local macro_rules
  | `(tactic| push_cast [$ts,*]) => `(tactic| simp only [q_seq, q_ifS, q_if, q_and, q_or, q_not, q_andV, q_orV, q_notV, q_test, q_op, q_un, q_asg, q_ret, q_drop, q_cons, q_dat, q_dat1, q_tup, q_lst, q_call, q_meth, q_for, q_lc, q_seqI, q_sl, q_var, q_c, q_nil, q_next, q_cont, q_break, q_retN, q_yes, q_noPart, q_partB, q_isN, q_ixB, q_fld, q_enum, q_par, q_body, varW_some, view_val, view_loc, viewM_lst, viewM_frz, isBl_bl, partW_int, name_set, ixW_val, ixF_l, ixF_t, fld_row_word, fld_row_tests, fld_row_deeds, fld_row_opens, fld_tool_window, fld_tool_rows, fld_tool_marks, recv_row, recv_tool, bodyE_rt, bodyE_nx, exit_any, exit_dst, negF_int, plusF_int, minusF_int, ltF_int, leF_int, gtF_int, geF_int, eqF_int, eqF_str, eqF_bl, intF_int, maxF_int, minF_int, lenF_l, lenF_t, lenF_s, tupF_l, tupF_t, lstF_l, lstF_t, strF_s, seqOf_t, seqOf_l, guard_val, guard_loc, isNW_val, isNW_loc, enumW_1, parW_2, tup_set, cons_set, nil_set, frzL_nil, frzL_cons, frz1_val, frz1_loc, frzM_lst, frzM_frz, ofS, ite_bind, Option.bind_some, then_nx, then_rt, then_ct, then_bk, start, List.length_cons, List.length_nil, List.map_cons, List.map_nil, List.replicate, List.cons_append, List.nil_append, List.append_nil, List.getElem?_cons_succ, List.getElem?_cons_zero, List.set_cons_succ, List.set_cons_zero, Nat.sub_self, Nat.reduceSub, Nat.reduceAdd, Nat.reduceEqDiff, if_true, if_false, reduceIte, decide_eq_true_eq, decide_true, decide_false, Bool.false_xor, Bool.true_xor, Nat.zero_add, eq_self, String.reduceEq, Bool.false_eq_true, wipeE, List.foldl_cons, List.foldl_nil, Bool.not_true, Bool.not_false, inF_strsT, inF_strsL, q_fldS, q_make, isNon_int, isNon_non, isNon_bl, isNon_str, isNon_tup, isNon_lst, q_lcM, q_setI, q_addM, addW_val, seqOf_loc, seqM_lst, seqM_frz, ixW_loc, ixM_lsW, ixM_lst, ixM_frz, setIW_loc, setIM_lst, exit_val, exit_loc, exitV_if, List.take_succ_cons, List.take_zero, List.take_nil, List.all_cons, List.all_nil, Bool.and_true, Bool.true_and, Bool.and_self, Nat.reduceLT, Nat.reduceLeDiff, Nat.zero_le, Nat.lt_add_one, exitM_lst, exitM_frz, below_lst, below_frz, below_dK, below_scr, below_lsW, below_ins, below_dW, wbelow_val, wbelow_loc, q_append, appA_loc, appW_1, appM_lst, q_lstOfM, lstM_lst, q_lstM, q_rng1, standB_none, standB_some, standM_lst, standM_frz, q_join, joinA_str, q_joined, q_jNil, q_jCons, jW_str, q_star, q_own1, ownW_val, okStr_str, isIns_row, isIns_tool, q_kget, kgetW_str, q_indexC, indexW_lst, q_makeL, mkL_cls, q_cmeth, cmW_cls, q_star1, star1W_cons, q_chain, chainW_bl, chainE_bl, q_eqOwn, fmtF_s, and_self, q_aug, augM_int, q_parN, setAll_cons, setAll_nil, q_never, intF_bl, q_extend, extA_loc, extW_1, extD_lst, extM_lst, q_asgT, uTup_tup, uCons_cons, uNil_nil, uName_eq, uFld_eq, ufW_loc, ufM_ins, fldSW_loc, fldSM_ins, fldW_loc, fldM_ins, look_cons, putW_nil, putW_cons, $ts,*])
variable {μ : Mu}
end DX
namespace DX
open PySem PySem.Spec L2 DK
local macro_rules
  | `(tactic| push_cast [$ts,*]) => `(tactic| simp only [q_seq, q_ifS, q_if, q_and, q_or, q_not, q_andV, q_orV, q_notV, q_test, q_op, q_un, q_asg, q_ret, q_drop, q_cons, q_dat, q_dat1, q_tup, q_lst, q_call, q_meth, q_for, q_lc, q_seqI, q_sl, q_var, q_c, q_nil, q_next, q_cont, q_break, q_retN, q_yes, q_noPart, q_partB, q_isN, q_ixB, q_fld, q_enum, q_par, q_body, varW_some, view_val, view_loc, viewM_lst, viewM_frz, isBl_bl, partW_int, name_set, ixW_val, ixF_l, ixF_t, fld_row_word, fld_row_tests, fld_row_deeds, fld_row_opens, fld_tool_window, fld_tool_rows, fld_tool_marks, recv_row, recv_tool, bodyE_rt, bodyE_nx, exit_any, exit_dst, negF_int, plusF_int, minusF_int, ltF_int, leF_int, gtF_int, geF_int, eqF_int, eqF_str, eqF_bl, intF_int, maxF_int, minF_int, lenF_l, lenF_t, lenF_s, tupF_l, tupF_t, lstF_l, lstF_t, strF_s, seqOf_t, seqOf_l, guard_val, guard_loc, isNW_val, isNW_loc, enumW_1, parW_2, tup_set, cons_set, nil_set, frzL_nil, frzL_cons, frz1_val, frz1_loc, frzM_lst, frzM_frz, ofS, ite_bind, Option.bind_some, then_nx, then_rt, then_ct, then_bk, start, List.length_cons, List.length_nil, List.map_cons, List.map_nil, List.replicate, List.cons_append, List.nil_append, List.append_nil, List.getElem?_cons_succ, List.getElem?_cons_zero, List.set_cons_succ, List.set_cons_zero, Nat.sub_self, Nat.reduceSub, Nat.reduceAdd, Nat.reduceEqDiff, if_true, if_false, reduceIte, decide_eq_true_eq, decide_true, decide_false, Bool.false_xor, Bool.true_xor, Nat.zero_add, eq_self, String.reduceEq, Bool.false_eq_true, wipeE, List.foldl_cons, List.foldl_nil, Bool.not_true, Bool.not_false, inF_strsT, inF_strsL, q_fldS, q_make, isNon_int, isNon_non, isNon_bl, isNon_str, isNon_tup, isNon_lst, q_lcM, q_setI, q_addM, addW_val, seqOf_loc, seqM_lst, seqM_frz, ixW_loc, ixM_lsW, ixM_lst, ixM_frz, setIW_loc, setIM_lst, exit_val, exit_loc, exitV_if, List.take_succ_cons, List.take_zero, List.take_nil, List.all_cons, List.all_nil, Bool.and_true, Bool.true_and, Bool.and_self, Nat.reduceLT, Nat.reduceLeDiff, Nat.zero_le, Nat.lt_add_one, exitM_lst, exitM_frz, below_lst, below_frz, below_dK, below_scr, below_lsW, below_ins, below_dW, wbelow_val, wbelow_loc, q_append, appA_loc, appW_1, appM_lst, q_lstOfM, lstM_lst, q_lstM, q_rng1, standB_none, standB_some, standM_lst, standM_frz, q_join, joinA_str, q_joined, q_jNil, q_jCons, jW_str, q_star, q_own1, ownW_val, okStr_str, isIns_row, isIns_tool, q_kget, kgetW_str, q_indexC, indexW_lst, q_makeL, mkL_cls, q_cmeth, cmW_cls, q_star1, star1W_cons, q_chain, chainW_bl, chainE_bl, q_eqOwn, fmtF_s, and_self, q_aug, augM_int, q_parN, setAll_cons, setAll_nil, q_never, intF_bl, q_extend, extA_loc, extW_1, extD_lst, extM_lst, q_asgT, uTup_tup, uCons_cons, uNil_nil, uName_eq, uFld_eq, ufW_loc, ufM_ins, fldSW_loc, fldSM_ins, fldW_loc, fldM_ins, look_cons, putW_nil, putW_cons, $ts,*])
variable {μ : Mu}
theorem loop_all {g : RG} {b : RS} {c : Option (Nat × List D)} {I : Env' → Mu → Prop} : ∀ {xs : List D} {ρ : Env'} {μ : Mu}, (∀ x ρ μ, x ∈ xs → I ρ μ → ∃ ρ1 ρ2 μ2, g (.val x) ρ = some ρ1 ∧ (b ρ1 μ = some (.nx ρ2 μ2) ∨ b ρ1 μ = some (.ct ρ2 μ2)) ∧ standB c μ2 = true ∧ I ρ2 μ2) → I ρ μ → ∃ ρ2 μ2, loopR g b c xs ρ μ = some (.nx ρ2 μ2) ∧ I ρ2 μ2
  | [], ρ, μ, _, h => ⟨ρ, μ, rfl, h⟩
  | x :: xs, ρ, μ, hs, h => by
    obtain ⟨ρ1, ρ2, μ2, e1, e2, e3, e4⟩ := hs x ρ μ (by simp) h
    obtain ⟨ρ3, μ3, e5, e6⟩ := loop_all (xs := xs) (fun y ρ μ hy => hs y ρ μ (List.mem_cons_of_mem _ hy)) e4
    refine ⟨ρ3, μ3, ?_, e6⟩
    rw [loop_cons, e1]
    rcases e2 with e2 | e2 <;> simp only [Option.bind_some, e2, e3, if_true, e5]
structure Good (k : Nat) (rows : List RowM) : Prop where
  rw : ∀ r ∈ rows, RW r
  ne : rows ≠ []
  le : rows.length ≤ k
theorem Good.app {k : Nat} {rows : List RowM} {r : RowM} (h : Good k rows) (hr : RW r) : Good (k + 1) (rows ++ [r]) := ⟨fun x hx => by
  rcases List.mem_append.mp hx with z | z
  · exact h.rw x z
  · rw [List.mem_singleton.mp z]; exact hr, by simp, by rw [List.length_append, List.length_singleton]; have := h.le; omega⟩
theorem Good.mono {k l : Nat} {rows : List RowM} (h : Good k rows) (hl : k ≤ l) : Good l rows := ⟨h.rw, h.ne, Nat.le_trans h.le hl⟩
end DX
namespace DX
open PySem PySem.Spec L2 DK
structure Sh (c n : Nat) (d : D) : Prop where
  py : pyOk d = true
  sh : (toPy d).showable = true
  dp : (toPy d).depth ≤ n
  st : strsIn d = true
  co : showCost d ≤ c
theorem Sh.b {c n : Nat} {d : D} (h : Sh c n d) (hn : n ≤ 60) (hc : c ≤ SB) : showsB d = true := by
  unfold showsB
  rw [h.py, h.sh, h.st, decide_eq_true (Nat.le_trans h.dp hn), decide_eq_true (Nat.le_trans h.co hc)]
  rfl
theorem Sh.mono {c n c' n' : Nat} {d : D} (h : Sh c n d) (hc : c ≤ c') (hn : n ≤ n') : Sh c' n' d := ⟨h.py, h.sh, Nat.le_trans h.dp hn, h.st, Nat.le_trans h.co hc⟩
theorem sh_non : Sh 5 1 .non := ⟨rfl, rfl, by decide, rfl, by decide⟩
theorem sh_bl {b : Bool} : Sh 5 1 (.bl b) := ⟨rfl, rfl, by cases b <;> decide, rfl, by cases b <;> decide⟩
theorem sh_int {i : Int} (h : i.natAbs < 1000000) : Sh 8 1 (.int i) := by
  refine ⟨rfl, ?_, by show 0 ≤ 1; decide, rfl, ?_⟩
  · show decide (i.natAbs.log2 < 1920) = true
    apply decide_eq_true
    by_cases h0 : i.natAbs = 0
    · rw [h0]; decide
    · rw [Nat.log2_lt h0]
      exact Nat.lt_of_lt_of_le h (Nat.le_trans (by decide : 1000000 ≤ 2 ^ 20) (Nat.pow_le_pow_right (by decide) (by decide)))
  · show (if Nat.blt i.natAbs 1000000 = true then 8 else if Nat.blt i.natAbs 1000000000000000000000000 = true then 30 else 2000) ≤ 8
    rw [if_pos (by simp [Nat.blt]; omega)]
    exact Nat.le_refl 8
theorem sh_int2 {i : Int} (h : i.natAbs < 1000000000000000000000000) : Sh 30 1 (.int i) := by
  refine ⟨rfl, ?_, by show 0 ≤ 1; decide, rfl, ?_⟩
  · show decide (i.natAbs.log2 < 1920) = true
    apply decide_eq_true
    by_cases h0 : i.natAbs = 0
    · rw [h0]; decide
    · rw [Nat.log2_lt h0]
      exact Nat.lt_of_lt_of_le h (Nat.le_trans (by decide : 1000000000000000000000000 ≤ 2 ^ 100) (Nat.pow_le_pow_right (by decide) (by decide)))
  · show (if Nat.blt i.natAbs 1000000 = true then 8 else if Nat.blt i.natAbs 1000000000000000000000000 = true then 30 else 2000) ≤ 30
    split
    · decide
    · rw [if_pos (by simp [Nat.blt]; omega)]
      exact Nat.le_refl 30
theorem sh_str {s : Str} (h : s.cps.all (· < 0x110000) = true) : Sh (10 * s.length + 4) 1 (.str s) := ⟨rfl, rfl, by show 0 ≤ 1; decide, h, Nat.le_refl _⟩
theorem shL {c n : Nat} : ∀ {xs : List D}, (∀ x ∈ xs, Sh c n x) → pyOkL xs = true ∧ PyData.showableAll (toPyL xs) = true ∧ PyData.depthAll (toPyL xs) ≤ n ∧ strsInL xs = true ∧ showCostL xs ≤ (c + 2) * xs.length
  | [], _ => ⟨rfl, rfl, Nat.zero_le _, rfl, Nat.zero_le _⟩
  | x :: xs, h => by
    obtain ⟨h1, h2, h3, h4, h5⟩ := shL (xs := xs) (fun y hy => h y (List.mem_cons_of_mem _ hy))
    have hx := h x (by simp)
    refine ⟨by rw [pyOkL, hx.py, h1]; rfl, by rw [toPyL, PyData.showableAll, hx.sh, h2]; rfl, ?_, by rw [strsInL, hx.st, h4]; rfl, ?_⟩
    · rw [toPyL, PyData.depthAll]
      exact Nat.max_le.mpr ⟨hx.dp, h3⟩
    · rw [showCostL, List.length_cons, Nat.mul_succ]
      have := hx.co
      omega
theorem sh_tup {c n : Nat} {xs : List D} (h : ∀ x ∈ xs, Sh c n x) : Sh ((c + 2) * xs.length + 3) (n + 1) (.tup xs) := by
  obtain ⟨h1, h2, h3, h4, h5⟩ := shL h
  refine ⟨h1, h2, ?_, h4, ?_⟩
  · show PyData.depth (.tuple (toPyL xs)) ≤ n + 1
    rw [PyData.depth]
    omega
  · show showCostL xs + 3 ≤ _
    omega
theorem sh_lst {c n : Nat} {xs : List D} (h : ∀ x ∈ xs, Sh c n x) : Sh ((c + 2) * xs.length + 3) (n + 1) (.lst xs) := by
  obtain ⟨h1, h2, h3, h4, h5⟩ := shL h
  refine ⟨h1, h2, ?_, h4, ?_⟩
  · show PyData.depth (.list (toPyL xs)) ≤ n + 1
    rw [PyData.depth]
    omega
  · show showCostL xs + 3 ≤ _
    omega
end DX
namespace DX
open PySem PySem.Spec L2 DK
local macro_rules
  | `(tactic| push_cast [$ts,*]) => `(tactic| simp only [q_seq, q_ifS, q_if, q_and, q_or, q_not, q_andV, q_orV, q_notV, q_test, q_op, q_un, q_asg, q_ret, q_drop, q_cons, q_dat, q_dat1, q_tup, q_lst, q_call, q_meth, q_for, q_lc, q_seqI, q_sl, q_var, q_c, q_nil, q_next, q_cont, q_break, q_retN, q_yes, q_noPart, q_partB, q_isN, q_ixB, q_fld, q_enum, q_par, q_body, varW_some, view_val, view_loc, viewM_lst, viewM_frz, isBl_bl, partW_int, name_set, ixW_val, ixF_l, ixF_t, fld_row_word, fld_row_tests, fld_row_deeds, fld_row_opens, fld_tool_window, fld_tool_rows, fld_tool_marks, recv_row, recv_tool, bodyE_rt, bodyE_nx, exit_any, exit_dst, negF_int, plusF_int, minusF_int, ltF_int, leF_int, gtF_int, geF_int, eqF_int, eqF_str, eqF_bl, intF_int, maxF_int, minF_int, lenF_l, lenF_t, lenF_s, tupF_l, tupF_t, lstF_l, lstF_t, strF_s, seqOf_t, seqOf_l, guard_val, guard_loc, isNW_val, isNW_loc, enumW_1, parW_2, tup_set, cons_set, nil_set, frzL_nil, frzL_cons, frz1_val, frz1_loc, frzM_lst, frzM_frz, ofS, ite_bind, Option.bind_some, then_nx, then_rt, then_ct, then_bk, start, List.length_cons, List.length_nil, List.map_cons, List.map_nil, List.replicate, List.cons_append, List.nil_append, List.append_nil, List.getElem?_cons_succ, List.getElem?_cons_zero, List.set_cons_succ, List.set_cons_zero, Nat.sub_self, Nat.reduceSub, Nat.reduceAdd, Nat.reduceEqDiff, if_true, if_false, reduceIte, decide_eq_true_eq, decide_true, decide_false, Bool.false_xor, Bool.true_xor, Nat.zero_add, eq_self, String.reduceEq, Bool.false_eq_true, wipeE, List.foldl_cons, List.foldl_nil, Bool.not_true, Bool.not_false, inF_strsT, inF_strsL, q_fldS, q_make, isNon_int, isNon_non, isNon_bl, isNon_str, isNon_tup, isNon_lst, q_lcM, q_setI, q_addM, addW_val, seqOf_loc, seqM_lst, seqM_frz, ixW_loc, ixM_lsW, ixM_lst, ixM_frz, setIW_loc, setIM_lst, exit_val, exit_loc, exitV_if, List.take_succ_cons, List.take_zero, List.take_nil, List.all_cons, List.all_nil, Bool.and_true, Bool.true_and, Bool.and_self, Nat.reduceLT, Nat.reduceLeDiff, Nat.zero_le, Nat.lt_add_one, exitM_lst, exitM_frz, below_lst, below_frz, below_dK, below_scr, below_lsW, below_ins, below_dW, wbelow_val, wbelow_loc, q_append, appA_loc, appW_1, appM_lst, q_lstOfM, lstM_lst, q_lstM, q_rng1, standB_none, standB_some, standM_lst, standM_frz, q_join, joinA_str, q_joined, q_jNil, q_jCons, jW_str, q_star, q_own1, ownW_val, okStr_str, isIns_row, isIns_tool, q_kget, kgetW_str, q_indexC, indexW_lst, q_makeL, mkL_cls, q_cmeth, cmW_cls, q_star1, star1W_cons, q_chain, chainW_bl, chainE_bl, q_eqOwn, fmtF_s, and_self, q_aug, augM_int, q_parN, setAll_cons, setAll_nil, q_never, intF_bl, q_extend, extA_loc, extW_1, extD_lst, extM_lst, q_asgT, uTup_tup, uCons_cons, uNil_nil, uName_eq, uFld_eq, ufW_loc, ufM_ins, fldSW_loc, fldSM_ins, fldW_loc, fldM_ins, look_cons, putW_nil, putW_cons, $ts,*])
variable {ρ : Env'} {μ : Mu}
theorem fits1_mem {a b : List Str} (h : ∀ s, s ∈ a ↔ s ∈ b) {t : Str} : fits1 a t = fits1 b t := by
  unfold fits1
  rw [show decide (lst (wds t) ∈ a) = decide (lst (wds t) ∈ b) from decide_eq_decide.mpr (h _)]
theorem fitsM_mem {a b : List Str} (h : ∀ s, s ∈ a ↔ s ∈ b) {ts : List Str} : fitsM ts a = fitsM ts b := by
  unfold fitsM
  rw [show fits1 a = fits1 b from funext fun t => fits1_mem h]
theorem rowForM_mem {a b : List Str} (h : ∀ s, s ∈ a ↔ s ∈ b) {rs : List RowM} {w : Str} : rowForM rs w a = rowForM rs w b := by
  unfold rowForM
  rw [show fitP w a = fitP w b from funext fun p => by unfold fitP; rw [fitsM_mem h]]
theorem rowForM_srt {ms : List Str} {rs : List RowM} {w : Str} : rowForM rs w (srt ms) = rowForM rs w ms := rowForM_mem fun s => (srt_perm ms).mem_iff
theorem behind_srt {ds ms : List Str} (h : ∀ s ∈ ds, deedOk2 s = true) (n : ms.Nodup) : behindM ds (srt ms) = behindM ds ms := by
  have n2 : (srt ms).Nodup := (srt_perm ms).nodup_iff.mpr n
  rw [← kept_behind h n2, ← kept_behind h n]
  refine srt_uniq (srt_srt _) (srt_srt _) ((srt_perm _).trans (List.Perm.trans ?_ (srt_perm _).symm))
  exact (kept_all h (List.Perm.refl _) n2).trans (kept_all h (srt_perm ms).symm n).symm
theorem e_lanswerU {T : ToolM} {n c : Int} {m : D} {marks : List Str} (hm : m = .tup (marks.map D.str)) (ht : ∀ r ∈ T.rows, r.tests.length ≤ 1000 ∧ ∀ t ∈ r.tests, testOk t = true) (hd : ∀ r ∈ T.rows, ∀ s ∈ r.deeds, deedOk2 s = true) (hr : ∀ r ∈ T.rows, r.tests.length + r.deeds.length < 32) (hz : marks.length < 32) (hn : marks.Nodup) : callX f_law_answer [.val (toolT T), .val (.int n), .val m, .val (.int c)] μ = some (.val (answerM T n marks c), μ) := by
  refine callX_pure rfl ?_
  subst hm
  have hlb : LB = 100000 := rfl
  have h4 : (4 ≤ LB) = True := eq_true (by omega)
  unfold f_law_answer m_law_answer
  push_cast [e_lword]
  rw [e_lrow_done (marks := marks) rfl ht]
  unfold answerM
  rw [rowForM_srt]
  have hp : ∀ q, rowForM T.rows (wordM T.window (c - n)) marks = some q → T.rows[q.1]? = some q.2 := fun q e => by
    have := (enumR_at (List.mem_of_find?_eq_some e)).2
    simpa using this
  have hdd := fun μ => e_ldeeds (μ := μ) (T := T) (n := n) (c := c) (m := .tup (marks.map D.str)) (marks := marks) (p := rowForM T.rows (wordM T.window (c - n)) marks) rfl hp hd hr hz hn
  push_cast [hdd]
  cases e : rowForM T.rows (wordM T.window (c - n)) marks with
  | none => push_cast [atD, h4, keptP, lateP]
  | some q =>
    have hat : atI (T.rows.map rowT) ((q.1 : Nat) : Int) = some (rowT q.2) := at_map (L2.atI_nat (hp q e))
    have hmem : q.2 ∈ T.rows := List.mem_of_getElem? (hp q e)
    have hb := behind_srt (hd _ hmem) hn
    push_cast [atD, h4, ix_tool, at1, hat, ix_row, at3, keptP, lateP, hb]
theorem texts_len {k : Nat} : ∀ {rows : List RowM}, (∀ r ∈ rows, r.tests.length + r.deeds.length ≤ k) → (textsM rows).length ≤ k * rows.length
  | [], _ => by simp [textsM]
  | r :: rows, h => by
    have ih := texts_len (rows := rows) fun x hx => h x (List.mem_cons_of_mem _ hx)
    have h1 := h r (by simp)
    unfold textsM at ih ⊢
    rw [List.flatMap_cons, List.length_append, List.length_cons, Nat.mul_succ]
    have h2 := List.length_filter_le hasSp (r.tests ++ r.deeds)
    rw [List.length_append] at h2
    omega
theorem Good.tool {rows : List RowM} {w : Int} (h : Good 12 rows) (hw : 1 ≤ w) : ToolOk XT ⟨w, rows⟩ := ⟨hw, by
    have := texts_len (k := 5) (rows := rows) fun r hr => by have := (h.rw r hr).t2; have := (h.rw r hr).d3; omega
    have := h.le
    show (textsM rows).length < 64
    omega, by have := h.le; show rows.length ≤ 1000; omega, fun r hr => by have := (h.rw r hr).t2; have := (h.rw r hr).d3; omega, fun r hr => (h.rw r hr).ok⟩
theorem Good.ans {rows : List RowM} {w n c : Int} {marks : List Str} (h : Good 12 rows) (hz : marks.length < 32) (hn : marks.Nodup) : callX f_law_answer [.val (toolT ⟨w, rows⟩), .val (.int n), .val (.tup (marks.map D.str)), .val (.int c)] μ = some (.val (answerM ⟨w, rows⟩ n marks c), μ) :=
  e_lanswerU rfl (fun r hr => ⟨(h.rw r hr).ok.zt, fun t ht => XT_te t ((h.rw r hr).ok.ts t ht)⟩) (fun r hr s hs => (XT_de s ((h.rw r hr).ok.ds s hs)).2) (fun r hr => by have := (h.rw r hr).t2; have := (h.rw r hr).d3; omega) hz hn
def shortB (s : Str) : Bool := decide (s.length ≤ 20) && s.cps.all (· < 0x110000)
theorem shortB_sh {s : Str} (h : shortB s = true) : Sh 204 1 (.str s) := by
  unfold shortB at h
  rw [Bool.and_eq_true] at h
  have := of_decide_eq_true h.1
  exact (sh_str h.2).mono (by omega) (Nat.le_refl _)
theorem XT_names : ∀ s ∈ XT.ds, shortB ((wds s).getD 1 "") = true := by
  have : (XT.ds.all fun s => shortB ((wds s).getD 1 "")) = true := by kernel_rfl
  exact fun s hs => List.all_eq_true.mp this s hs
theorem marks_sh {ms : List Str} (h : ∀ s ∈ ms, shortB s = true) (hl : ms.length ≤ 40) : Sh 8243 2 (.tup (ms.map D.str)) := by
  refine (sh_tup (c := 204) (n := 1) fun x hx => ?_).mono ?_ (Nat.le_refl _)
  · obtain ⟨s, hs, rfl⟩ := List.mem_map.mp hx
    exact shortB_sh (h s hs)
  · rw [List.length_map]
    omega
theorem enumR_lt {rs : List RowM} {p : Nat × RowM} (h : p ∈ enumR 0 rs) : p.1 < rs.length := by
  have := (List.getElem?_eq_some_iff.mp (enumR_at h).2).1
  simpa using this
theorem Good.rowAt {rows : List RowM} {w : Str} {marks : List Str} {p : Nat × RowM} (e : rowForM rows w marks = some p) : p.1 < rows.length ∧ p.2 ∈ rows := by
  have hm := List.mem_of_find?_eq_some e
  exact ⟨enumR_lt hm, List.mem_of_getElem? (enumR_at hm).2⟩
theorem Good.sh {rows : List RowM} {w n c : Int} {marks : List Str} (h : Good 12 rows) (hs : ∀ s ∈ marks, shortB s = true) (hz : marks.length ≤ 20) (hn : n.natAbs < 1000000) (hc : c.natAbs < 1000000) : Sh 32983 3 (answerM ⟨w, rows⟩ n marks c) := by
  have hss : ∀ s ∈ srt marks, shortB s = true := fun s q => hs s ((srt_perm marks).mem_iff.mp q)
  have hsl : (srt marks).length = marks.length := (srt_perm marks).length_eq
  unfold answerM
  cases e : rowForM rows (wordM w (c - n)) (srt marks) with
  | none =>
    refine (sh_tup (c := 8243) (n := 2) fun x hx => ?_).mono (by simp) (Nat.le_refl _)
    simp only [List.mem_cons, List.not_mem_nil, or_false] at hx
    rcases hx with rfl | rfl | rfl | rfl
    · exact sh_bl.mono (by omega) (by omega)
    · exact (sh_int hn).mono (by omega) (by omega)
    · exact marks_sh hss (by omega)
    · exact sh_non.mono (by omega) (by omega)
  | some p =>
    obtain ⟨hp1, hp2⟩ := Good.rowAt e
    have hle := h.le
    have hrw := h.rw _ hp2
    refine (sh_tup (c := 8243) (n := 2) fun x hx => ?_).mono (by simp) (Nat.le_refl _)
    simp only [List.mem_cons, List.not_mem_nil, or_false] at hx
    rcases hx with rfl | rfl | rfl | rfl
    · exact sh_bl.mono (by omega) (by omega)
    · split
      · exact (sh_int hc).mono (by omega) (by omega)
      · exact (sh_int hn).mono (by omega) (by omega)
    · refine marks_sh (fun s q => ?_) ?_
      · rcases behind_mem q with q | ⟨d, hd, q⟩
        · exact hss s q
        · rw [q]; exact XT_names d (hrw.ok.ds d hd)
      · have := behind_len (ds := p.2.deeds) (ms := srt marks)
        have := hrw.d3
        omega
    · exact (sh_int (by omega)).mono (by omega) (by omega)
theorem q_reprC {neg : Bool} {a b : RE} : mReprC neg a b ρ μ = (a ρ μ).bind fun p => (view p.2 p.1).bind fun d => if showsB d = true then (b ρ p.2).bind fun q => (view q.2 q.1).bind fun e => if showsB e = true then some (.val (.bl (neg ^^ decide ((toPy d).shown = (toPy e).shown))), q.2) else none else none := by
  unfold mReprC
  cases a ρ μ with
  | none => rfl
  | some p =>
    dsimp only [Option.bind]
    cases view p.2 p.1 with
    | none => rfl
    | some d =>
      dsimp only
      split
      · cases b ρ p.2 with
        | none => rfl
        | some q =>
          dsimp only
          cases view q.2 q.1 <;> rfl
      · rfl
theorem callX_nil {f : FX} {ws : List W} {w : W} {μ' : Mu} (ht : locTop ws = 0) (h : f ws [] = some (w, μ')) : callX f ws [] = some (w, μ') := by
  have e : preN ws [] = 0 := by
    unfold preN
    rw [ht]
    rfl
  unfold callX
  rw [e]
  show (match f ws [] with
    | some (w, μ') => if μ'.length = 0 then some (w, μ' ++ []) else f ws []
    | none => none) = _
  rw [h]
  dsimp only
  split
  · rw [List.append_nil]
  · rfl
end DX
namespace DX
open PySem PySem.Spec L2 DK
theorem cut_inj {α : Type} {c : α} : ∀ {p q a b : List α}, c ∉ p → c ∉ q → p ++ c :: a = q ++ c :: b → p = q ∧ a = b
  | [], [], a, b, _, _, h => by simpa using h
  | [], y :: q, a, b, _, hq, h => by
    simp only [List.nil_append, List.cons_append, List.cons.injEq] at h
    exact absurd (by rw [h.1]; simp) hq
  | x :: p, [], a, b, hp, _, h => by
    simp only [List.nil_append, List.cons_append, List.cons.injEq] at h
    exact absurd (by rw [← h.1]; simp) hp
  | x :: p, y :: q, a, b, hp, hq, h => by
    simp only [List.cons_append, List.cons.injEq] at h
    obtain ⟨h1, h2⟩ := cut_inj (p := p) (q := q) (fun z => hp (List.mem_cons_of_mem _ z)) (fun z => hq (List.mem_cons_of_mem _ z)) h.2
    exact ⟨by rw [h.1, h1], h2⟩
theorem app_list {a b : Str} : (a ++ b).cps.toList = a.cps.toList ++ b.cps.toList := by
  show (a.cps ++ b.cps).toList = _
  simp
theorem str_ext {a b : Str} (h : a.cps.toList = b.cps.toList) : a = b := by
  cases a; cases b
  congr 1
  exact Array.toList_inj.mp h
theorem app_assoc {a b c : Str} : a ++ b ++ c = a ++ (b ++ c) := str_ext (by simp only [app_list, List.append_assoc])
theorem join_cc {sep x y : Str} {r : List Str} : Str.join sep (x :: y :: r) = x ++ sep ++ Str.join sep (y :: r) := rfl
theorem join_list {c : Nat} {x y : Str} {r : List Str} : (Str.join ⟨#[c]⟩ (x :: y :: r)).cps.toList = x.cps.toList ++ c :: (Str.join ⟨#[c]⟩ (y :: r)).cps.toList := by
  rw [join_cc, app_list, app_list, List.append_assoc]
  rfl
theorem join_inj {c : Nat} : ∀ {ps qs : List Str}, ps ≠ [] → qs ≠ [] → (∀ p ∈ ps, c ∉ p.cps.toList) → (∀ q ∈ qs, c ∉ q.cps.toList) → Str.join ⟨#[c]⟩ ps = Str.join ⟨#[c]⟩ qs → ps = qs
  | [], _, h, _, _, _, _ => absurd rfl h
  | _ :: _, [], _, h, _, _, _ => absurd rfl h
  | [p], [q], _, _, _, _, h => by
    have : p = q := h
    rw [this]
  | [p], q :: q2 :: qs, _, _, hp, _, h => by
    have h2 := congrArg (fun s : Str => s.cps.toList) h
    rw [join_list] at h2
    have e : Str.join ⟨#[c]⟩ [p] = p := rfl
    rw [e] at h2
    exact absurd (by rw [h2]; simp) (hp p (by simp))
  | p :: p2 :: ps, [q], _, _, _, hq, h => by
    have h2 := congrArg (fun s : Str => s.cps.toList) h
    rw [join_list] at h2
    have e : Str.join ⟨#[c]⟩ [q] = q := rfl
    rw [e] at h2
    exact absurd (by rw [← h2]; simp) (hq q (by simp))
  | p :: p2 :: ps, q :: q2 :: qs, _, _, hp, hq, h => by
    have h2 := congrArg (fun s : Str => s.cps.toList) h
    rw [join_list, join_list] at h2
    obtain ⟨h3, h4⟩ := cut_inj (hp p (by simp)) (hq q (by simp)) h2
    rw [str_ext h3, join_inj (ps := p2 :: ps) (qs := q2 :: qs) (by simp) (by simp) (fun x hx => hp x (List.mem_cons_of_mem _ hx)) (fun x hx => hq x (List.mem_cons_of_mem _ hx)) (str_ext h4)]
theorem split_ne {x y : Str} : Txt.split x y ≠ [] := fun z => by
  have := PyProof.Rows.split_pos x y
  rw [z] at this
  simp at this
theorem split_join {c : Nat} {ps : List Str} (h0 : ps ≠ []) (h : ∀ p ∈ ps, c ∉ p.cps.toList) : Txt.split (Str.join ⟨#[c]⟩ ps) ⟨#[c]⟩ = ps :=
  join_inj split_ne h0 (StrLaws.split_free _ c) h (StrLaws.join_split _ _)
theorem join_app {sep : Str} : ∀ {as bs : List Str}, as ≠ [] → bs ≠ [] → Str.join sep (as ++ bs) = Str.join sep as ++ sep ++ Str.join sep bs
  | [], _, h, _ => absurd rfl h
  | [a], [], _, h => absurd rfl h
  | [a], b :: bs, _, _ => rfl
  | a :: a2 :: as, bs, _, hb => by
    have ih := join_app (sep := sep) (as := a2 :: as) (bs := bs) (by simp) hb
    rw [List.cons_append] at ih
    show Str.join sep (a :: a2 :: (as ++ bs)) = _
    rw [join_cc, ih, join_cc]
    simp only [app_assoc]
theorem join_flat {sep : Str} {f : Str → List Str} (hf : ∀ x, f x ≠ []) : ∀ {xs : List Str}, Str.join sep (xs.flatMap f) = Str.join sep (xs.map fun x => Str.join sep (f x))
  | [] => rfl
  | [x] => by
    rw [List.flatMap_cons, List.flatMap_nil, List.append_nil]
    rfl
  | x :: y :: r => by
    have ih := join_flat (sep := sep) hf (xs := y :: r)
    have hn : (y :: r).flatMap f ≠ [] := fun z => by
      rw [List.flatMap_cons] at z
      exact hf y (List.append_eq_nil_iff.mp z).1
    rw [List.flatMap_cons, join_app (hf x) hn, ih]
    rfl
theorem split_joinF {c : Nat} {xs : List Str} (h0 : xs ≠ []) : Txt.split (Str.join ⟨#[c]⟩ xs) ⟨#[c]⟩ = xs.flatMap fun x => Txt.split x ⟨#[c]⟩ := by
  refine join_inj split_ne ?_ (StrLaws.split_free _ c) (fun p hp => ?_) ?_
  · match xs, h0 with
    | x :: r, _ =>
      rw [List.flatMap_cons]
      exact fun z => split_ne (List.append_eq_nil_iff.mp z).1
  · obtain ⟨x, _, hx⟩ := List.mem_flatMap.mp hp
    exact StrLaws.split_free x c p hx
  · rw [StrLaws.join_split, join_flat fun x => split_ne]
    congr 1
    have : (fun x : Str => Str.join ⟨#[c]⟩ (Txt.split x ⟨#[c]⟩)) = id := funext fun x => StrLaws.join_split x _
    rw [this, List.map_id]
theorem sp_eq : (" " : Str) = ⟨#[32]⟩ := by decide +kernel
theorem tj_eq {sep : Str} {xs : List Str} : Txt.join sep xs = Str.join sep xs := StrLaws.glued_eq_join sep xs
theorem wds_join {xs : List Str} (h : xs ≠ []) : wds (Txt.join " " xs) = xs.flatMap wds := by
  unfold wds
  rw [tj_eq, sp_eq]
  exact split_joinF h
theorem wds_one {s : Str} (h : 32 ∉ s.cps.toList) : wds s = [s] := by
  unfold wds
  rw [sp_eq]
  exact split_join (ps := [s]) (by simp) (by simpa using h)
structure TOk (n : Nat) (s : Str) : Prop where
  len : s.length ≤ n
  cps : s.cps.all (· < 0x110000) = true
def tokB (n : Nat) (s : Str) : Bool := decide (s.length ≤ n) && s.cps.all (· < 0x110000)
theorem tokB_ok {n : Nat} {s : Str} (h : tokB n s = true) : TOk n s := by
  unfold tokB at h
  rw [Bool.and_eq_true, decide_eq_true_eq] at h
  exact ⟨h.1, h.2⟩
theorem TOk.mono {n m : Nat} {s : Str} (h : TOk n s) (hm : n ≤ m) : TOk m s := ⟨Nat.le_trans h.len hm, h.cps⟩
theorem TOk.app {n m : Nat} {s t : Str} (h : TOk n s) (k : TOk m t) : TOk (n + m) (s ++ t) := ⟨by
  rw [Str.length_append]
  have := h.len
  have := k.len
  omega, by
  have h1 := h.cps
  have h2 := k.cps
  show (s.cps ++ t.cps).all _ = true
  rw [Array.all_append, h1, h2]
  rfl⟩
theorem TOk.ok {n : Nat} {s : Str} (h : TOk n s) (hn : n ≤ SB) : sOkB s = true := by
  unfold sOkB
  rw [Bool.and_eq_true, decide_eq_true_eq]
  exact ⟨Nat.le_trans h.len hn, h.cps⟩
theorem TOk.join {n m : Nat} {sep : Str} (hs : TOk m sep) : ∀ {xs : List Str}, (∀ x ∈ xs, TOk n x) → TOk ((n + m) * xs.length) (Txt.join sep xs)
  | [], _ => by
    rw [tj_eq]
    exact ⟨Nat.zero_le _, show Str.empty.cps.all (· < 0x110000) = true by decide +kernel⟩
  | [x], h => by
    rw [tj_eq]
    exact (h x (by simp)).mono (by simp)
  | x :: y :: r, h => by
    have ih := TOk.join hs (xs := y :: r) fun z hz => h z (List.mem_cons_of_mem _ hz)
    rw [tj_eq] at ih ⊢
    rw [join_cc]
    refine (((h x (by simp)).app hs).app ih).mono ?_
    rw [List.length_cons (a := x), Nat.mul_succ]
    omega
end DX
namespace DX
open PySem PySem.Spec L2 DK
local macro_rules
  | `(tactic| push_cast [$ts,*]) => `(tactic| simp only [q_seq, q_ifS, q_if, q_and, q_or, q_not, q_andV, q_orV, q_notV, q_test, q_op, q_un, q_asg, q_ret, q_drop, q_cons, q_dat, q_dat1, q_tup, q_lst, q_call, q_meth, q_for, q_lc, q_seqI, q_sl, q_var, q_c, q_nil, q_next, q_cont, q_break, q_retN, q_yes, q_noPart, q_partB, q_isN, q_ixB, q_fld, q_enum, q_par, q_body, varW_some, view_val, view_loc, viewM_lst, viewM_frz, isBl_bl, partW_int, name_set, ixW_val, ixF_l, ixF_t, fld_row_word, fld_row_tests, fld_row_deeds, fld_row_opens, fld_tool_window, fld_tool_rows, fld_tool_marks, recv_row, recv_tool, bodyE_rt, bodyE_nx, exit_any, exit_dst, negF_int, plusF_int, minusF_int, ltF_int, leF_int, gtF_int, geF_int, eqF_int, eqF_str, eqF_bl, intF_int, maxF_int, minF_int, lenF_l, lenF_t, lenF_s, tupF_l, tupF_t, lstF_l, lstF_t, strF_s, seqOf_t, seqOf_l, guard_val, guard_loc, isNW_val, isNW_loc, enumW_1, parW_2, tup_set, cons_set, nil_set, frzL_nil, frzL_cons, frz1_val, frz1_loc, frzM_lst, frzM_frz, ofS, ite_bind, Option.bind_some, then_nx, then_rt, then_ct, then_bk, start, List.length_cons, List.length_nil, List.map_cons, List.map_nil, List.replicate, List.cons_append, List.nil_append, List.append_nil, List.getElem?_cons_succ, List.getElem?_cons_zero, List.set_cons_succ, List.set_cons_zero, Nat.sub_self, Nat.reduceSub, Nat.reduceAdd, Nat.reduceEqDiff, if_true, if_false, reduceIte, decide_eq_true_eq, decide_true, decide_false, Bool.false_xor, Bool.true_xor, Nat.zero_add, eq_self, String.reduceEq, Bool.false_eq_true, wipeE, List.foldl_cons, List.foldl_nil, Bool.not_true, Bool.not_false, inF_strsT, inF_strsL, q_fldS, q_make, isNon_int, isNon_non, isNon_bl, isNon_str, isNon_tup, isNon_lst, q_lcM, q_setI, q_addM, addW_val, seqOf_loc, seqM_lst, seqM_frz, ixW_loc, ixM_lsW, ixM_lst, ixM_frz, setIW_loc, setIM_lst, exit_val, exit_loc, exitV_if, List.take_succ_cons, List.take_zero, List.take_nil, List.all_cons, List.all_nil, Bool.and_true, Bool.true_and, Bool.and_self, Nat.reduceLT, Nat.reduceLeDiff, Nat.zero_le, Nat.lt_add_one, exitM_lst, exitM_frz, below_lst, below_frz, below_dK, below_scr, below_lsW, below_ins, below_dW, wbelow_val, wbelow_loc, q_append, appA_loc, appW_1, appM_lst, q_lstOfM, lstM_lst, q_lstM, q_rng1, standB_none, standB_some, standM_lst, standM_frz, q_join, joinA_str, q_joined, q_jNil, q_jCons, jW_str, q_star, q_own1, ownW_val, okStr_str, isIns_row, isIns_tool, q_kget, kgetW_str, q_indexC, indexW_lst, q_makeL, mkL_cls, q_cmeth, cmW_cls, q_star1, star1W_cons, q_chain, chainW_bl, chainE_bl, q_eqOwn, fmtF_s, and_self, q_aug, augM_int, q_parN, setAll_cons, setAll_nil, q_never, intF_bl, q_extend, extA_loc, extW_1, extD_lst, extM_lst, q_asgT, uTup_tup, uCons_cons, uNil_nil, uName_eq, uFld_eq, ufW_loc, ufM_ins, fldSW_loc, fldSM_ins, fldW_loc, fldM_ins, look_cons, putW_nil, putW_cons, $ts,*])
variable {μ : Mu}
def freeL (S p : List Nat) : Bool := (List.range p.length).all fun k => !TL.pre S ((p ++ S).drop k)
def freeB (sep s : Str) : Bool := freeL (TL.tl sep) (TL.tl s)
def joinN (S : List Nat) : List (List Nat) → List Nat
  | [] => []
  | [p] => p
  | p :: q :: r => p ++ (S ++ joinN S (q :: r))
theorem tl_joinN {sep : Str} : ∀ {xs : List Str}, TL.tl (Str.join sep xs) = joinN (TL.tl sep) (xs.map TL.tl)
  | [] => rfl
  | [x] => rfl
  | x :: y :: r => by
    have ih := tl_joinN (sep := sep) (xs := y :: r)
    rw [join_cc, TL.tl_append, TL.tl_append, ih, List.append_assoc]
    rfl
theorem pre_app {S p r : List Nat} {k : Nat} (hk : k ≤ p.length) : TL.pre S ((p ++ (S ++ r)).drop k) = TL.pre S ((p ++ S).drop k) := by
  unfold TL.pre
  rw [← List.append_assoc, List.drop_append_of_le_length (by rw [List.length_append]; omega)]
  rw [List.take_append_of_le_length (by rw [List.length_drop, List.length_append]; omega)]
theorem pre_end {S p : List Nat} {k : Nat} (hk : k < p.length) (h : TL.pre S ((p ++ S).drop k) = false) : TL.pre S (p.drop k) = false := by
  by_cases q : S.length ≤ (p.drop k).length
  · unfold TL.pre at h ⊢
    rw [List.drop_append_of_le_length (by omega), List.take_append_of_le_length q] at h
    exact h
  · unfold TL.pre
    have hl : ((p.drop k).take S.length).length ≠ S.length := by rw [List.length_take]; omega
    cases e : (List.take S.length (List.drop k p) == S) with
    | false => rfl
    | true => exact absurd (congrArg List.length (eq_of_beq e)) hl
theorem spl_joinN {S : List Nat} (hS : S ≠ []) : ∀ {ps : List (List Nat)}, ps ≠ [] → (∀ p ∈ ps, freeL S p = true) → TL.spl S 0 [] (joinN S ps) = ps
  | [], h, _ => absurd rfl h
  | [p], _, hf => by
    have h := hf p (by simp)
    unfold freeL at h
    have h2 := List.all_eq_true.mp h
    have run := TL.spl_run S p p.length 0 [] (by omega) (fun k _ hk => by
      have h3 := h2 k (List.mem_range.mpr (by omega))
      exact pre_end (by omega) (by simpa using h3))
    rw [List.drop_zero] at run
    show TL.spl S 0 [] p = _
    rw [run, List.take_length, List.nil_append, List.drop_eq_nil_of_le (by omega), TL.spl_nil]
  | p :: q :: r, _, hf => by
    have ih := spl_joinN hS (ps := q :: r) (by simp) fun x hx => hf x (List.mem_cons_of_mem _ hx)
    have h := hf p (by simp)
    unfold freeL at h
    have h2 := List.all_eq_true.mp h
    have run := TL.spl_run S (p ++ (S ++ joinN S (q :: r))) p.length 0 [] (by rw [List.length_append]; omega) (fun k _ hk => by
      have h3 := h2 k (List.mem_range.mpr (by omega))
      rw [pre_app (by omega)]
      simpa using h3)
    rw [List.drop_zero, List.take_left, List.nil_append, Nat.zero_add, List.drop_left] at run
    show TL.spl S 0 [] (p ++ (S ++ joinN S (q :: r))) = _
    rw [run]
    cases S with
    | nil => exact absurd rfl hS
    | cons s S' =>
      have hp := TL.pre_self (s :: S') (joinN (s :: S') (q :: r))
      rw [List.cons_append] at hp ⊢
      rw [TL.spl_hit hp, List.length_cons, Nat.add_sub_cancel, TL.spl_pass, List.drop_left, ih]
theorem split_joinL {sep : Str} {ps : List Str} (hs : TL.tl sep ≠ []) (hk : sep.cps.all (· < 256) = true) (h0 : ps ≠ []) (hf : ∀ p ∈ ps, freeB sep p = true) : Txt.split (Txt.join sep ps) sep = ps := by
  refine TL.map_tl_inj ?_
  rw [TL.split_spl _ _ hs (TL.kind_ok hk), tj_eq, tl_joinN, spl_joinN hs (by simpa using h0)]
  intro p hp
  obtain ⟨x, hx, rfl⟩ := List.mem_map.mp hp
  exact hf x hx
theorem join_two {a b : Str} : Txt.join " " [a, b] = a ++ " " ++ b := by rw [tj_eq]; rfl
theorem wds_two {a b : Str} : wds (a ++ " " ++ b) = wds a ++ wds b := by
  rw [← join_two, wds_join (by simp)]
  simp
theorem wds_link {lk sep : Str} (hl : 32 ∉ lk.cps.toList) (hsep : sep = (" " : Str) ++ lk ++ " ") : ∀ {ts : List Str}, ts ≠ [] → (∀ w ∈ wds (Txt.join sep ts), w = lk ∨ ∃ t ∈ ts, w ∈ wds t) ∧ (wds (Txt.join sep ts)).length + 1 = (ts.map fun t => (wds t).length + 1).sum
  | [], h => absurd rfl h
  | [t], _ => by
    rw [show Txt.join sep [t] = t from by rw [tj_eq]; rfl]
    exact ⟨fun w hw => .inr ⟨t, by simp, hw⟩, by simp⟩
  | t :: u :: r, _ => by
    obtain ⟨i1, i2⟩ := wds_link hl hsep (ts := u :: r) (by simp)
    have e : Txt.join sep (t :: u :: r) = t ++ " " ++ (lk ++ " " ++ Txt.join sep (u :: r)) := by
      rw [tj_eq, join_cc, hsep, ← hsep, tj_eq, hsep]
      simp only [app_assoc]
    rw [e, wds_two, wds_two, wds_one hl]
    refine ⟨fun w hw => ?_, ?_⟩
    · simp only [List.mem_append, List.mem_singleton] at hw
      rcases hw with hw | hw | hw
      · exact .inr ⟨t, by simp, hw⟩
      · exact .inl hw
      · rcases i1 w hw with q | ⟨x, hx, q⟩
        · exact .inl q
        · exact .inr ⟨x, List.mem_cons_of_mem _ hx, q⟩
    · rw [List.map_cons, List.sum_cons, ← i2]
      simp only [List.length_append, List.length_singleton]
      omega
def linkW (hd sep : Str) (ts : List Str) : List Str := if ts = [] then [] else wds (hd ++ " " ++ Txt.join sep ts)
theorem linkW_cons {hd sep : Str} {ts : List Str} (hh : 32 ∉ hd.cps.toList) (h0 : ts ≠ []) : linkW hd sep ts = hd :: wds (Txt.join sep ts) := by
  unfold linkW
  rw [if_neg h0, wds_two, wds_one hh]
  rfl
theorem wds_back {s : Str} : Txt.join " " (wds s) = s := by
  unfold wds
  rw [tj_eq, sp_eq]
  exact StrLaws.join_split _ _
theorem lensP {sep : Str} : ∀ {xs : List Str}, xs ≠ [] → (xs.map (·.length)).sum + xs.length * sep.length = (Txt.join sep xs).length + sep.length
  | [], h => absurd rfl h
  | [x], _ => by rw [tj_eq]; show [x.length].sum + 1 * sep.length = x.length + sep.length; simp
  | x :: y :: r, _ => by
    have ih := lensP (sep := sep) (xs := y :: r) (by simp)
    rw [tj_eq] at ih ⊢
    rw [join_cc, Str.length_append, Str.length_append, List.map_cons, List.sum_cons, List.length_cons (a := x), Nat.succ_mul]
    omega
theorem e_parts {hd lk sep : Str} {ts : List Str} (hh : 32 ∉ hd.cps.toList) (hho : sOkB hd = true) (hl : 32 ∉ lk.cps.toList) (hlo : TOk 10 lk) (hsep : sep = (" " : Str) ++ lk ++ " ") (hs : TL.tl sep ≠ []) (hk : sep.cps.all (· < 256) = true) (hf : ∀ t ∈ ts, freeB sep t = true) (hz : ts ≠ [] → (Txt.join sep ts).length ≤ 1000) :
    callX f_parts_between [.val (.lst ((linkW hd sep ts).map D.str)), .val (.str hd), .val (.str lk)] μ = some (.val (.lst (ts.map D.str)), μ) := by
  refine callX_pure rfl ?_
  have hlb : LB = 100000 := rfl
  have hsb : SB = 90000 := rfl
  have h1 : (1 ≤ LB) = True := eq_true (by omega)
  have h0 : (0 ≤ LB) = True := eq_true (by omega)
  by_cases q : ts = []
  · subst q
    have e : eqF false (.lst []) (.lst [.str hd]) = some (.bl false) := by kernel_rfl
    have c1 : slF none (some 1) (.lst []) = some (.lst []) := by kernel_rfl
    show f_parts_between [.val (.lst []), .val (.str hd), .val (.str lk)] [] = _
    unfold f_parts_between m_parts_between
    push_cast [c1, h1, h0, e]
  · rw [linkW_cons hh q]
    have e : eqF false (.lst [.str hd]) (.lst [.str hd]) = some (.bl true) := by
      show (if pyOk (.lst [.str hd]) = true ∧ pyOk (.lst [.str hd]) = true ∧ (toPy (.lst [.str hd])).depth ≤ 64 ∧ (toPy (.lst [.str hd])).depth ≤ 64 then some (D.bl (false ^^ eqP (.lst [.str hd]) (.lst [.str hd]))) else none) = _
      rw [if_pos ⟨rfl, rfl, by simp [toPy, toPyL, PyData.depth, PyData.depthAll], by simp [toPy, toPyL, PyData.depth, PyData.depthAll]⟩]
      unfold eqP
      simp [toPy, toPyL, PyData.eqv, PyData.eqvAll]
    have hn : (wds (Txt.join sep ts)) ≠ [] := wds_ne _
    have hw := lensP (sep := " ") hn
    have hsp : (" " : Str).length = 1 := by decide +kernel
    rw [wds_back, hsp] at hw
    have hz2 := hz q
    have hlen : ((wds (Txt.join sep ts)).map (·.length)).sum + (wds (Txt.join sep ts)).length * (" " : Str).length ≤ SB := by rw [hsp]; omega
    have c1 : slF none (some 1) (.lst (.str hd :: (wds (Txt.join sep ts)).map D.str)) = some (.lst [.str hd]) := by
      show some (D.lst (DK.cutD _ none (some 1))) = _
      unfold DK.cutD
      rw [HT.sIx_none, show (some (1 : Int)) = some ((1 : Nat) : Int) from rfl, HT.sIx_nat]
      simp
    have c2 : slF (some 1) none (.lst (.str hd :: (wds (Txt.join sep ts)).map D.str)) = some (.lst ((wds (Txt.join sep ts)).map D.str)) := by
      show some (D.lst (DK.cutD _ (some 1) none)) = _
      unfold DK.cutD
      rw [HT.sIx_none, show (some (1 : Int)) = some ((1 : Nat) : Int) from rfl, HT.sIx_nat]
      simp
      exact List.take_of_length_le (by simp)
    have lk1 := hlo.len
    have e0 : (Str.empty ++ " " : Str) = " " := by decide +kernel
    have j1 : ((Str.empty ++ (" " : Str)).length ≤ SB) = True := eq_true (by rw [e0, hsp]; omega)
    have j2 : ((Str.empty ++ (" " : Str) ++ lk).length ≤ SB) = True := eq_true (by rw [e0, Str.length_append, hsp]; omega)
    have j3 : ((Str.empty ++ (" " : Str) ++ lk ++ (" " : Str)).length ≤ SB) = True := eq_true (by rw [e0, Str.length_append, Str.length_append, hsp]; omega)
    have o1 : (sOkB (" " : Str) = true) = True := eq_true (by kernel_rfl)
    have o2 : (sOkB lk = true) = True := eq_true (hlo.ok (by omega))
    have hsp2 : splitF (.str (Txt.join sep ts)) (.str (Str.empty ++ (" " : Str) ++ lk ++ (" " : Str))) = some (.lst (ts.map D.str)) := by
      rw [e0, ← hsep]
      show (if TL.tl sep ≠ [] ∧ sep.cps.all (· < 256) = true then some (D.lst ((Txt.split (Txt.join sep ts) sep).map D.str)) else none) = _
      rw [if_pos ⟨hs, hk⟩, split_joinL hs hk q hf]
    unfold f_parts_between m_parts_between
    push_cast [c1, c2, h1, e, sOf_map, hlen, wds_back, j1, j2, j3, o1, o2, hsp2]
end DX
namespace DX
open PySem PySem.Spec L2 DK
local macro_rules
  | `(tactic| push_cast [$ts,*]) => `(tactic| simp only [q_seq, q_ifS, q_if, q_and, q_or, q_not, q_andV, q_orV, q_notV, q_test, q_op, q_un, q_asg, q_ret, q_drop, q_cons, q_dat, q_dat1, q_tup, q_lst, q_call, q_meth, q_for, q_lc, q_seqI, q_sl, q_var, q_c, q_nil, q_next, q_cont, q_break, q_retN, q_yes, q_noPart, q_partB, q_isN, q_ixB, q_fld, q_enum, q_par, q_body, varW_some, view_val, view_loc, viewM_lst, viewM_frz, isBl_bl, partW_int, name_set, ixW_val, ixF_l, ixF_t, fld_row_word, fld_row_tests, fld_row_deeds, fld_row_opens, fld_tool_window, fld_tool_rows, fld_tool_marks, recv_row, recv_tool, bodyE_rt, bodyE_nx, exit_any, exit_dst, negF_int, plusF_int, minusF_int, ltF_int, leF_int, gtF_int, geF_int, eqF_int, eqF_str, eqF_bl, intF_int, maxF_int, minF_int, lenF_l, lenF_t, lenF_s, tupF_l, tupF_t, lstF_l, lstF_t, strF_s, seqOf_t, seqOf_l, guard_val, guard_loc, isNW_val, isNW_loc, enumW_1, parW_2, tup_set, cons_set, nil_set, frzL_nil, frzL_cons, frz1_val, frz1_loc, frzM_lst, frzM_frz, ofS, ite_bind, Option.bind_some, then_nx, then_rt, then_ct, then_bk, start, List.length_cons, List.length_nil, List.map_cons, List.map_nil, List.replicate, List.cons_append, List.nil_append, List.append_nil, List.getElem?_cons_succ, List.getElem?_cons_zero, List.set_cons_succ, List.set_cons_zero, Nat.sub_self, Nat.reduceSub, Nat.reduceAdd, Nat.reduceEqDiff, if_true, if_false, reduceIte, decide_eq_true_eq, decide_true, decide_false, Bool.false_xor, Bool.true_xor, Nat.zero_add, eq_self, String.reduceEq, Bool.false_eq_true, wipeE, List.foldl_cons, List.foldl_nil, Bool.not_true, Bool.not_false, inF_strsT, inF_strsL, q_fldS, q_make, isNon_int, isNon_non, isNon_bl, isNon_str, isNon_tup, isNon_lst, q_lcM, q_setI, q_addM, addW_val, seqOf_loc, seqM_lst, seqM_frz, ixW_loc, ixM_lsW, ixM_lst, ixM_frz, setIW_loc, setIM_lst, exit_val, exit_loc, exitV_if, List.take_succ_cons, List.take_zero, List.take_nil, List.all_cons, List.all_nil, Bool.and_true, Bool.true_and, Bool.and_self, Nat.reduceLT, Nat.reduceLeDiff, Nat.zero_le, Nat.lt_add_one, exitM_lst, exitM_frz, below_lst, below_frz, below_dK, below_scr, below_lsW, below_ins, below_dW, wbelow_val, wbelow_loc, q_append, appA_loc, appW_1, appM_lst, q_lstOfM, lstM_lst, q_lstM, q_rng1, standB_none, standB_some, standM_lst, standM_frz, q_join, joinA_str, q_joined, q_jNil, q_jCons, jW_str, q_star, q_own1, ownW_val, okStr_str, isIns_row, isIns_tool, q_kget, kgetW_str, q_indexC, indexW_lst, q_makeL, mkL_cls, q_cmeth, cmW_cls, q_star1, star1W_cons, q_chain, chainW_bl, chainE_bl, q_eqOwn, fmtF_s, and_self, q_aug, augM_int, q_parN, setAll_cons, setAll_nil, q_never, intF_bl, q_extend, extA_loc, extW_1, extD_lst, extM_lst, q_asgT, uTup_tup, uCons_cons, uNil_nil, uName_eq, uFld_eq, ufW_loc, ufM_ins, fldSW_loc, fldSM_ins, fldW_loc, fldM_ins, look_cons, putW_nil, putW_cons, $ts,*])
variable {μ : Mu}
def ifT (ts : List Str) : List Str := if ts = [] then [] else [("if " : Str) ++ Txt.join " and " ts]
def doT (ds : List Str) : List Str := if ds = [] then [] else [("do " : Str) ++ Txt.join " then " ds]
def ifW (ts : List Str) : List Str := (ifT ts).flatMap wds
def doW (ds : List Str) : List Str := (doT ds).flatMap wds
def chkT1 (s : Str) : Bool := freeB " and " s && !decide (("do" : Str) ∈ wds s) && decide ((wds s).length ≤ 10) && tokB 20 s && !decide (10 ∈ s.cps.toList)
def chkD1 (s : Str) : Bool := freeB " then " s && decide ((wds s).length ≤ 10) && tokB 20 s && !decide (10 ∈ s.cps.toList)
def Txt.txB (X : Txt) : Bool := X.ts.all chkT1 && X.ds.all chkD1
structure TxtT (X : Txt) : Prop where
  ok : TxtOk X
  tx : X.txB = true
structure RWX (X : Txt) (r : RowM) : Prop where
  ok : RowOk X r
  t2 : r.tests.length ≤ 3
  d3 : r.deeds.length ≤ 3
section
variable {X : Txt} {r : RowM}
theorem TxtT.t1 (hX : TxtT X) {s : Str} (h : s ∈ X.ts) : freeB " and " s = true ∧ ("do" : Str) ∉ wds s ∧ (wds s).length ≤ 10 ∧ TOk 20 s ∧ 10 ∉ s.cps.toList := by
  have h1 := hX.tx
  unfold Txt.txB at h1
  rw [Bool.and_eq_true] at h1
  have h2 := List.all_eq_true.mp h1.1 s h
  unfold chkT1 at h2
  simp only [Bool.and_eq_true, Bool.not_eq_true', decide_eq_false_iff_not, decide_eq_true_eq] at h2
  exact ⟨h2.1.1.1.1, h2.1.1.1.2, h2.1.1.2, tokB_ok h2.1.2, h2.2⟩
theorem TxtT.d1 (hX : TxtT X) {s : Str} (h : s ∈ X.ds) : freeB " then " s = true ∧ (wds s).length ≤ 10 ∧ TOk 20 s ∧ 10 ∉ s.cps.toList := by
  have h1 := hX.tx
  unfold Txt.txB at h1
  rw [Bool.and_eq_true] at h1
  have h2 := List.all_eq_true.mp h1.2 s h
  unfold chkD1 at h2
  simp only [Bool.and_eq_true, Bool.not_eq_true', decide_eq_false_iff_not, decide_eq_true_eq] at h2
  exact ⟨h2.1.1.1, h2.1.1.2, tokB_ok h2.1.2, h2.2⟩
theorem TxtT.s (hX : TxtT X) {s : Str} (h : s ∈ X.ts ∨ s ∈ X.ds) : TOk 20 s ∧ 10 ∉ s.cps.toList := by
  rcases h with h | h
  · exact ⟨(hX.t1 h).2.2.2.1, (hX.t1 h).2.2.2.2⟩
  · exact ⟨(hX.d1 h).2.2.1, (hX.d1 h).2.2.2⟩
theorem ifW_eq {ts : List Str} : ifW ts = linkW "if" " and " ts := by
  unfold ifW ifT linkW
  have e : ("if " : Str) = "if" ++ " " := by decide +kernel
  split
  · rfl
  · rw [e]; simp
theorem doW_eq {ts : List Str} : doW ts = linkW "do" " then " ts := by
  unfold doW doT linkW
  have e : ("do " : Str) = "do" ++ " " := by decide +kernel
  split
  · rfl
  · rw [e]; simp
theorem wsum_le {k : Nat} : ∀ {ts : List Str}, (∀ t ∈ ts, (wds t).length ≤ k) → (ts.map fun t => (wds t).length + 1).sum ≤ (k + 1) * ts.length
  | [], _ => Nat.le_refl _
  | t :: r, h => by
    have ih := wsum_le (ts := r) fun x hx => h x (List.mem_cons_of_mem _ hx)
    have := h t (by simp)
    rw [List.map_cons, List.sum_cons, List.length_cons, Nat.mul_succ]
    omega
theorem TxtT.t (hX : TxtT X) (h : RWX X r) : ("do" : Str) ∉ ifW r.tests ∧ (ifW r.tests).length ≤ 1000 ∧ callX f_parts_between [.val (.lst ((ifW r.tests).map D.str)), .val (.str "if"), .val (.str "and")] μ = some (.val (.lst (r.tests.map D.str)), μ) := by
  have e1 : (32 : Nat) ∉ ("if" : Str).cps.toList := by decide +kernel
  have e2 : (32 : Nat) ∉ ("and" : Str).cps.toList := by decide +kernel
  have e3 : (" and " : Str) = (" " : Str) ++ "and" ++ " " := by decide +kernel
  have t2 := h.t2
  have hp := hX
  rw [ifW_eq]
  refine ⟨?_, ?_, e_parts e1 (by kernel_rfl) e2 (tokB_ok (by kernel_rfl)) e3 (by decide +kernel) (by decide +kernel) (fun t ht => (hX.t1 (h.ok.ts t ht)).1) fun _ => ?_⟩
  · by_cases q : r.tests = []
    · unfold linkW
      rw [if_pos q]
      simp
    · rw [linkW_cons e1 q]
      intro z
      rcases List.mem_cons.mp z with z | z
      · exact absurd z (by decide +kernel)
      · rcases (wds_link e2 e3 q).1 _ z with z | ⟨t, ht, z⟩
        · exact absurd z (by decide +kernel)
        · exact (hX.t1 (h.ok.ts t ht)).2.1 z
  · by_cases q : r.tests = []
    · unfold linkW
      rw [if_pos q]
      simp
    · rw [linkW_cons e1 q, List.length_cons]
      have := (wds_link e2 e3 q).2
      have := wsum_le (k := 10) (ts := r.tests) fun t ht => (hX.t1 (h.ok.ts t ht)).2.2.1
      omega
  · have := (TOk.join (n := 20) (m := 5) (sep := " and ") (tokB_ok (by kernel_rfl)) (xs := r.tests) fun t ht => (hX.t1 (h.ok.ts t ht)).2.2.2.1).len
    omega
theorem TxtT.d (hX : TxtT X) (h : RWX X r) : (r.deeds = [] ∨ (doW r.deeds)[0]? = some ("do" : Str)) ∧ (doW r.deeds).length ≤ 1000 ∧ callX f_parts_between [.val (.lst ((doW r.deeds).map D.str)), .val (.str "do"), .val (.str "then")] μ = some (.val (.lst (r.deeds.map D.str)), μ) := by
  have e1 : (32 : Nat) ∉ ("do" : Str).cps.toList := by decide +kernel
  have e2 : (32 : Nat) ∉ ("then" : Str).cps.toList := by decide +kernel
  have e3 : (" then " : Str) = (" " : Str) ++ "then" ++ " " := by decide +kernel
  have d3 := h.d3
  rw [doW_eq]
  refine ⟨?_, ?_, e_parts e1 (by kernel_rfl) e2 (tokB_ok (by kernel_rfl)) e3 (by decide +kernel) (by decide +kernel) (fun t ht => (hX.d1 (h.ok.ds t ht)).1) fun _ => ?_⟩
  · by_cases q : r.deeds = []
    · exact .inl q
    · exact .inr (by rw [linkW_cons e1 q]; rfl)
  · by_cases q : r.deeds = []
    · unfold linkW
      rw [if_pos q]
      simp
    · rw [linkW_cons e1 q, List.length_cons]
      have := (wds_link e2 e3 q).2
      have := wsum_le (k := 10) (ts := r.deeds) fun t ht => (hX.d1 (h.ok.ds t ht)).2.1
      omega
  · have := (TOk.join (n := 20) (m := 6) (sep := " then ") (tokB_ok (by kernel_rfl)) (xs := r.deeds) fun t ht => (hX.d1 (h.ok.ds t ht)).2.2.1).len
    omega
end
structure ToolX (X : Txt) (T : ToolM) : Prop where
  ok : ToolOk X T
  hi : T.window ≤ 64
  rw : ∀ r ∈ T.rows, RWX X r
  le : T.rows.length ≤ 20
end DX
namespace DX
open PySem PySem.Spec L2 DK
local macro_rules
  | `(tactic| push_cast [$ts,*]) => `(tactic| simp only [q_seq, q_ifS, q_if, q_and, q_or, q_not, q_andV, q_orV, q_notV, q_test, q_op, q_un, q_asg, q_ret, q_drop, q_cons, q_dat, q_dat1, q_tup, q_lst, q_call, q_meth, q_for, q_lc, q_seqI, q_sl, q_var, q_c, q_nil, q_next, q_cont, q_break, q_retN, q_yes, q_noPart, q_partB, q_isN, q_ixB, q_fld, q_enum, q_par, q_body, varW_some, view_val, view_loc, viewM_lst, viewM_frz, isBl_bl, partW_int, name_set, ixW_val, ixF_l, ixF_t, fld_row_word, fld_row_tests, fld_row_deeds, fld_row_opens, fld_tool_window, fld_tool_rows, fld_tool_marks, recv_row, recv_tool, bodyE_rt, bodyE_nx, exit_any, exit_dst, negF_int, plusF_int, minusF_int, ltF_int, leF_int, gtF_int, geF_int, eqF_int, eqF_str, eqF_bl, intF_int, maxF_int, minF_int, lenF_l, lenF_t, lenF_s, tupF_l, tupF_t, lstF_l, lstF_t, strF_s, seqOf_t, seqOf_l, guard_val, guard_loc, isNW_val, isNW_loc, enumW_1, parW_2, tup_set, cons_set, nil_set, frzL_nil, frzL_cons, frz1_val, frz1_loc, frzM_lst, frzM_frz, ofS, ite_bind, Option.bind_some, then_nx, then_rt, then_ct, then_bk, start, List.length_cons, List.length_nil, List.map_cons, List.map_nil, List.replicate, List.cons_append, List.nil_append, List.append_nil, List.getElem?_cons_succ, List.getElem?_cons_zero, List.set_cons_succ, List.set_cons_zero, Nat.sub_self, Nat.reduceSub, Nat.reduceAdd, Nat.reduceEqDiff, if_true, if_false, reduceIte, decide_eq_true_eq, decide_true, decide_false, Bool.false_xor, Bool.true_xor, Nat.zero_add, eq_self, String.reduceEq, Bool.false_eq_true, wipeE, List.foldl_cons, List.foldl_nil, Bool.not_true, Bool.not_false, inF_strsT, inF_strsL, q_fldS, q_make, isNon_int, isNon_non, isNon_bl, isNon_str, isNon_tup, isNon_lst, q_lcM, q_setI, q_addM, addW_val, seqOf_loc, seqM_lst, seqM_frz, ixW_loc, ixM_lsW, ixM_lst, ixM_frz, setIW_loc, setIM_lst, exit_val, exit_loc, exitV_if, List.take_succ_cons, List.take_zero, List.take_nil, List.all_cons, List.all_nil, Bool.and_true, Bool.true_and, Bool.and_self, Nat.reduceLT, Nat.reduceLeDiff, Nat.zero_le, Nat.lt_add_one, exitM_lst, exitM_frz, below_lst, below_frz, below_dK, below_scr, below_lsW, below_ins, below_dW, wbelow_val, wbelow_loc, q_append, appA_loc, appW_1, appM_lst, q_lstOfM, lstM_lst, q_lstM, q_rng1, standB_none, standB_some, standM_lst, standM_frz, q_join, joinA_str, q_joined, q_jNil, q_jCons, jW_str, q_star, q_own1, ownW_val, okStr_str, isIns_row, isIns_tool, q_kget, kgetW_str, q_indexC, indexW_lst, q_makeL, mkL_cls, q_cmeth, cmW_cls, q_star1, star1W_cons, q_chain, chainW_bl, chainE_bl, q_eqOwn, fmtF_s, and_self, q_aug, augM_int, q_parN, setAll_cons, setAll_nil, q_never, intF_bl, q_extend, extA_loc, extW_1, extD_lst, extM_lst, q_asgT, uTup_tup, uCons_cons, uNil_nil, uName_eq, uFld_eq, ufW_loc, ufM_ins, fldSW_loc, fldSM_ins, fldW_loc, fldM_ins, look_cons, putW_nil, putW_cons, $ts,*])
variable {μ : Mu}
inductive Evt where
  | give | house | tr (c : Nat)
  deriving DecidableEq
def EvOk : Evt → Prop
  | .tr c => 1 ≤ c ∧ c ≤ 64
  | _ => True
def posB (many : Nat) : Evt → Bool
  | .give => true
  | .house => decide (0 < many)
  | .tr c => decide (1 ≤ c ∧ c ≤ many)
def isGive : Evt → Bool
  | .give => true
  | _ => false
def giveN (m : Nat) (e : Evt) : Nat := if isGive e = true then m + 1 else m
def posAll : Nat → List Evt → Bool
  | _, [] => true
  | m, e :: es => posB m e && posAll (giveN m e) es
end DX
namespace DX
open PySem PySem.Spec L2 DK
local macro_rules
  | `(tactic| push_cast [$ts,*]) => `(tactic| simp only [q_seq, q_ifS, q_if, q_and, q_or, q_not, q_andV, q_orV, q_notV, q_test, q_op, q_un, q_asg, q_ret, q_drop, q_cons, q_dat, q_dat1, q_tup, q_lst, q_call, q_meth, q_for, q_lc, q_seqI, q_sl, q_var, q_c, q_nil, q_next, q_cont, q_break, q_retN, q_yes, q_noPart, q_partB, q_isN, q_ixB, q_fld, q_enum, q_par, q_body, varW_some, view_val, view_loc, viewM_lst, viewM_frz, isBl_bl, partW_int, name_set, ixW_val, ixF_l, ixF_t, fld_row_word, fld_row_tests, fld_row_deeds, fld_row_opens, fld_tool_window, fld_tool_rows, fld_tool_marks, recv_row, recv_tool, bodyE_rt, bodyE_nx, exit_any, exit_dst, negF_int, plusF_int, minusF_int, ltF_int, leF_int, gtF_int, geF_int, eqF_int, eqF_str, eqF_bl, intF_int, maxF_int, minF_int, lenF_l, lenF_t, lenF_s, tupF_l, tupF_t, lstF_l, lstF_t, strF_s, seqOf_t, seqOf_l, guard_val, guard_loc, isNW_val, isNW_loc, enumW_1, parW_2, tup_set, cons_set, nil_set, frzL_nil, frzL_cons, frz1_val, frz1_loc, frzM_lst, frzM_frz, ofS, ite_bind, Option.bind_some, then_nx, then_rt, then_ct, then_bk, start, List.length_cons, List.length_nil, List.map_cons, List.map_nil, List.replicate, List.cons_append, List.nil_append, List.append_nil, List.getElem?_cons_succ, List.getElem?_cons_zero, List.set_cons_succ, List.set_cons_zero, Nat.sub_self, Nat.reduceSub, Nat.reduceAdd, Nat.reduceEqDiff, if_true, if_false, reduceIte, decide_eq_true_eq, decide_true, decide_false, Bool.false_xor, Bool.true_xor, Nat.zero_add, eq_self, String.reduceEq, Bool.false_eq_true, wipeE, List.foldl_cons, List.foldl_nil, Bool.not_true, Bool.not_false, inF_strsT, inF_strsL, q_fldS, q_make, isNon_int, isNon_non, isNon_bl, isNon_str, isNon_tup, isNon_lst, q_lcM, q_setI, q_addM, addW_val, seqOf_loc, seqM_lst, seqM_frz, ixW_loc, ixM_lsW, ixM_lst, ixM_frz, setIW_loc, setIM_lst, exit_val, exit_loc, exitV_if, List.take_succ_cons, List.take_zero, List.take_nil, List.all_cons, List.all_nil, Bool.and_true, Bool.true_and, Bool.and_self, Nat.reduceLT, Nat.reduceLeDiff, Nat.zero_le, Nat.lt_add_one, exitM_lst, exitM_frz, below_lst, below_frz, below_dK, below_scr, below_lsW, below_ins, below_dW, wbelow_val, wbelow_loc, q_append, appA_loc, appW_1, appM_lst, q_lstOfM, lstM_lst, q_lstM, q_rng1, standB_none, standB_some, standM_lst, standM_frz, q_join, joinA_str, q_joined, q_jNil, q_jCons, jW_str, q_star, q_own1, ownW_val, okStr_str, isIns_row, isIns_tool, q_kget, kgetW_str, q_indexC, indexW_lst, q_makeL, mkL_cls, q_cmeth, cmW_cls, q_star1, star1W_cons, q_chain, chainW_bl, chainE_bl, q_eqOwn, fmtF_s, and_self, q_aug, augM_int, q_parN, setAll_cons, setAll_nil, q_never, intF_bl, q_extend, extA_loc, extW_1, extD_lst, extM_lst, q_asgT, uTup_tup, uCons_cons, uNil_nil, uName_eq, uFld_eq, ufW_loc, ufM_ins, fldSW_loc, fldSM_ins, fldW_loc, fldM_ins, look_cons, putW_nil, putW_cons, $ts,*])
variable {μ : Mu}
structure Ans where
  op : Bool
  n : Int
  ms : List Str
  row : Option Nat
def ansS (T : ToolM) (n : Int) (ms : List Str) (c : Int) : Ans := match rowForM T.rows (wordM T.window (c - n)) (srt ms) with
  | none => ⟨false, n, srt ms, none⟩
  | some p => ⟨p.2.opens, if ("learn" : Str) ∈ p.2.deeds then c else n, behindM p.2.deeds (srt ms), some p.1⟩
def hseS (T : ToolM) (n : Int) (ms : List Str) (top : Int) : Ans := match (if n < top then rowForM T.rows "house" (srt ms) else none) with
  | none => ⟨false, n, srt ms, none⟩
  | some p => ⟨false, if ("learn" : Str) ∈ p.2.deeds then top else n, behindM p.2.deeds (srt ms), some p.1⟩
def nmX (X : Txt) : List Str := X.ds.map fun d => (wds d).getD 1 ""
structure MkI (X : Txt) (ms : List Str) : Prop where
  nd : ms.Nodup
  mem : ∀ s ∈ ms, s ∈ nmX X
theorem nodup_len : ∀ {a b : List Str}, a.Nodup → (∀ s ∈ a, s ∈ b) → a.length ≤ b.length
  | [], _, _, _ => Nat.zero_le _
  | x :: a, b, hn, hs => by
    have hx : x ∈ b := hs x (by simp)
    have hn2 := List.nodup_cons.mp hn
    have ih := nodup_len (a := a) (b := b.erase x) hn2.2 fun s h => by
      have hne : s ≠ x := fun z => hn2.1 (z ▸ h)
      exact (List.mem_erase_of_ne hne).mpr (hs s (List.mem_cons_of_mem _ h))
    rw [List.length_erase_of_mem hx] at ih
    have : 0 < b.length := List.length_pos_of_mem hx
    rw [List.length_cons]
    omega
def nmB (X : Txt) : Bool := decide (X.ds.length ≤ 8) && (nmX X).all (fun s => tokB 20 s)
structure TxtN (X : Txt) : Prop where
  t : TxtT X
  n : nmB X = true
theorem TxtN.len {X : Txt} (hX : TxtN X) {ms : List Str} (h : MkI X ms) : ms.length ≤ 8 := by
  have h1 := nodup_len h.nd h.mem
  have h2 := hX.n
  unfold nmB at h2
  rw [Bool.and_eq_true, decide_eq_true_eq] at h2
  have h3 : (nmX X).length = X.ds.length := List.length_map _
  omega
theorem TxtN.tok {X : Txt} (hX : TxtN X) {ms : List Str} (h : MkI X ms) : ∀ s ∈ ms, TOk 20 s := fun s hs => by
  have h2 := hX.n
  unfold nmB at h2
  rw [Bool.and_eq_true] at h2
  exact tokB_ok (List.all_eq_true.mp h2.2 s (h.mem s hs))
theorem TxtN.ok {X : Txt} (hX : TxtN X) {ms : List Str} (h : MkI X ms) : ∀ s ∈ ms, sOkB s = true := fun s hs => (hX.tok h s hs).ok (by decide)
theorem MkI.srt {X : Txt} {ms : List Str} (h : MkI X ms) : MkI X (srt ms) := ⟨(srt_perm ms).nodup_iff.mpr h.nd, fun s hs => h.mem s ((srt_perm ms).mem_iff.mp hs)⟩
theorem MkI.nil {X : Txt} : MkI X [] := ⟨List.nodup_nil, fun _ h => by cases h⟩
theorem addK_nodup {ks : List Str} {s : Str} (h : ks.Nodup) : (addK ks s).Nodup := by
  unfold addK
  split
  · exact h
  · rename_i q
    rw [List.nodup_append]
    refine ⟨h, by simp, fun a ha b hb => ?_⟩
    rw [List.mem_singleton] at hb
    subst hb
    rintro rfl
    exact q ha
theorem addKs_nodup : ∀ {ms ks : List Str}, ks.Nodup → (ms.foldl addK ks).Nodup
  | [], _, h => h
  | m :: ms, ks, h => by
    rw [List.foldl_cons]
    exact addKs_nodup (addK_nodup h)
theorem deedMs_nodup : ∀ {ds ks : List Str}, ks.Nodup → (ds.foldl deedM ks).Nodup
  | [], _, h => h
  | d :: ds, ks, h => by
    rw [List.foldl_cons]
    refine deedMs_nodup ?_
    unfold deedM
    split
    · exact addK_nodup h
    · split
      · exact h.filter _
      · exact h
theorem MkI.behind {X : Txt} {ms ds : List Str} (h : MkI X ms) (hd : ∀ d ∈ ds, d ∈ X.ds) : MkI X (behindM ds ms) := by
  refine ⟨?_, fun s hs => ?_⟩
  · unfold behindM
    exact (srt_perm _).nodup_iff.mpr (deedMs_nodup (addKs_nodup List.nodup_nil))
  · unfold behindM at hs
    rcases deedM_mems ((srt_perm _).mem_iff.mp hs) with q | ⟨d, q1, q2⟩
    · rcases addK_mems q with q | q
      · cases q
      · exact h.mem s q
    · rw [q2]
      exact List.mem_map.mpr ⟨d, hd d q1, rfl⟩
section
variable {X : Txt} {T : ToolM} {n c : Int} {ms : List Str}
theorem ansS_mk (hT : ToolOk X T) (h : MkI X ms) : MkI X (ansS T n ms c).ms := by
  unfold ansS
  cases e : rowForM T.rows (wordM T.window (c - n)) (srt ms) with
  | none => exact h.srt
  | some p => exact h.srt.behind fun d hd => (hT.ok _ (List.mem_of_getElem? (enumR_at (List.mem_of_find?_eq_some e)).2)).ds d hd
theorem hseS_mk (hT : ToolOk X T) (h : MkI X ms) : MkI X (hseS T n ms c).ms := by
  unfold hseS
  split
  · exact h.srt
  · rename_i p e
    split at e
    · exact h.srt.behind fun d hd => (hT.ok _ (List.mem_of_getElem? (enumR_at (List.mem_of_find?_eq_some e)).2)).ds d hd
    · cases e
def neverS (T : ToolM) (n : Int) (ms : List Str) (c : Int) : Bool := !(ansS T n ms c).op && !(ansS T (ansS T n ms c).n (ansS T n ms c).ms c).op
end
structure Crs where
  n : Int
  ms : List Str
  top : Int
  op : List Int
  sh : Int
  lw : List (Int × Bool)
section
variable {X : Txt} {T : ToolM} {s : Crs} {a b c : List D}
end
end DX
namespace DX
open PySem PySem.Spec L2 DK
local macro_rules
  | `(tactic| push_cast [$ts,*]) => `(tactic| simp only [q_seq, q_ifS, q_if, q_and, q_or, q_not, q_andV, q_orV, q_notV, q_test, q_op, q_un, q_asg, q_ret, q_drop, q_cons, q_dat, q_dat1, q_tup, q_lst, q_call, q_meth, q_for, q_lc, q_seqI, q_sl, q_var, q_c, q_nil, q_next, q_cont, q_break, q_retN, q_yes, q_noPart, q_partB, q_isN, q_ixB, q_fld, q_enum, q_par, q_body, varW_some, view_val, view_loc, viewM_lst, viewM_frz, isBl_bl, partW_int, name_set, ixW_val, ixF_l, ixF_t, fld_row_word, fld_row_tests, fld_row_deeds, fld_row_opens, fld_tool_window, fld_tool_rows, fld_tool_marks, recv_row, recv_tool, bodyE_rt, bodyE_nx, exit_any, exit_dst, negF_int, plusF_int, minusF_int, ltF_int, leF_int, gtF_int, geF_int, eqF_int, eqF_str, eqF_bl, intF_int, maxF_int, minF_int, lenF_l, lenF_t, lenF_s, tupF_l, tupF_t, lstF_l, lstF_t, strF_s, seqOf_t, seqOf_l, guard_val, guard_loc, isNW_val, isNW_loc, enumW_1, parW_2, tup_set, cons_set, nil_set, frzL_nil, frzL_cons, frz1_val, frz1_loc, frzM_lst, frzM_frz, ofS, ite_bind, Option.bind_some, then_nx, then_rt, then_ct, then_bk, start, List.length_cons, List.length_nil, List.map_cons, List.map_nil, List.replicate, List.cons_append, List.nil_append, List.append_nil, List.getElem?_cons_succ, List.getElem?_cons_zero, List.set_cons_succ, List.set_cons_zero, Nat.sub_self, Nat.reduceSub, Nat.reduceAdd, Nat.reduceEqDiff, if_true, if_false, reduceIte, decide_eq_true_eq, decide_true, decide_false, Bool.false_xor, Bool.true_xor, Nat.zero_add, eq_self, String.reduceEq, Bool.false_eq_true, wipeE, List.foldl_cons, List.foldl_nil, Bool.not_true, Bool.not_false, inF_strsT, inF_strsL, q_fldS, q_make, isNon_int, isNon_non, isNon_bl, isNon_str, isNon_tup, isNon_lst, q_lcM, q_setI, q_addM, addW_val, seqOf_loc, seqM_lst, seqM_frz, ixW_loc, ixM_lsW, ixM_lst, ixM_frz, setIW_loc, setIM_lst, exit_val, exit_loc, exitV_if, List.take_succ_cons, List.take_zero, List.take_nil, List.all_cons, List.all_nil, Bool.and_true, Bool.true_and, Bool.and_self, Nat.reduceLT, Nat.reduceLeDiff, Nat.zero_le, Nat.lt_add_one, exitM_lst, exitM_frz, below_lst, below_frz, below_dK, below_scr, below_lsW, below_ins, below_dW, wbelow_val, wbelow_loc, q_append, appA_loc, appW_1, appM_lst, q_lstOfM, lstM_lst, q_lstM, q_rng1, standB_none, standB_some, standM_lst, standM_frz, q_join, joinA_str, q_joined, q_jNil, q_jCons, jW_str, q_star, q_own1, ownW_val, okStr_str, isIns_row, isIns_tool, q_kget, kgetW_str, q_indexC, indexW_lst, q_makeL, mkL_cls, q_cmeth, cmW_cls, q_star1, star1W_cons, q_chain, chainW_bl, chainE_bl, q_eqOwn, fmtF_s, and_self, q_aug, augM_int, q_parN, setAll_cons, setAll_nil, q_never, intF_bl, q_extend, extA_loc, extW_1, extD_lst, extM_lst, q_asgT, uTup_tup, uCons_cons, uNil_nil, uName_eq, uFld_eq, ufW_loc, ufM_ins, fldSW_loc, fldSM_ins, fldW_loc, fldM_ins, look_cons, putW_nil, putW_cons, $ts,*])
variable {ρ : Env'} {μ : Mu}
def lwGet (lw : List (Int × Bool)) (c : Int) : Bool := ((lw.find? fun p => decide (p.1 = c)).map (·.2)).getD false
def putI (lw : List (Int × Bool)) (c : Int) (b : Bool) : List (Int × Bool) := if (lw.any fun p => decide (p.1 = c)) = true then lw.map (fun p => if p.1 = c then (p.1, b) else p) else lw ++ [(c, b)]
theorem putI_len {lw : List (Int × Bool)} {c : Int} {b : Bool} : (putI lw c b).length ≤ lw.length + 1 := by
  unfold putI
  split
  · rw [List.length_map]; omega
  · rw [List.length_append, List.length_singleton]; omega
section
variable {X : Txt} {T : ToolM} {s : Crs} {a b c f : List D} {k : Int} {x2 x3 : Option W}
def shutS (s : Crs) (k : Int) : List Str := if k = s.top then (if k ∈ s.op then [("out" : Str), "shut"] else ["shut"]) else []
def foundS (s : Crs) (k : Int) : List Str := (if (s.op.any fun o => decide (k < o)) = true then [("behind" : Str)] else []) ++ ((if lwGet s.lw k = true then [("both" : Str)] else []) ++ (if k < s.sh then [("told" : Str)] else []))
def lowS (op : List Int) (k : Int) (lw : List (Int × Bool)) : List (Int × Bool) := op.foldl (fun lw o => putI lw o (lwGet lw o || decide (k < o))) lw
def openS (s : Crs) (k : Int) : Crs := { s with op := (s.op.filter fun o => !decide (o = k)) ++ [k], lw := putI (lowS s.op k s.lw) k false }
end
end DX
namespace DX
open PySem PySem.Spec L2 DK
local macro_rules
  | `(tactic| push_cast [$ts,*]) => `(tactic| simp only [q_seq, q_ifS, q_if, q_and, q_or, q_not, q_andV, q_orV, q_notV, q_test, q_op, q_un, q_asg, q_ret, q_drop, q_cons, q_dat, q_dat1, q_tup, q_lst, q_call, q_meth, q_for, q_lc, q_seqI, q_sl, q_var, q_c, q_nil, q_next, q_cont, q_break, q_retN, q_yes, q_noPart, q_partB, q_isN, q_ixB, q_fld, q_enum, q_par, q_body, varW_some, view_val, view_loc, viewM_lst, viewM_frz, isBl_bl, partW_int, name_set, ixW_val, ixF_l, ixF_t, fld_row_word, fld_row_tests, fld_row_deeds, fld_row_opens, fld_tool_window, fld_tool_rows, fld_tool_marks, recv_row, recv_tool, bodyE_rt, bodyE_nx, exit_any, exit_dst, negF_int, plusF_int, minusF_int, ltF_int, leF_int, gtF_int, geF_int, eqF_int, eqF_str, eqF_bl, intF_int, maxF_int, minF_int, lenF_l, lenF_t, lenF_s, tupF_l, tupF_t, lstF_l, lstF_t, strF_s, seqOf_t, seqOf_l, guard_val, guard_loc, isNW_val, isNW_loc, enumW_1, parW_2, tup_set, cons_set, nil_set, frzL_nil, frzL_cons, frz1_val, frz1_loc, frzM_lst, frzM_frz, ofS, ite_bind, Option.bind_some, then_nx, then_rt, then_ct, then_bk, start, List.length_cons, List.length_nil, List.map_cons, List.map_nil, List.replicate, List.cons_append, List.nil_append, List.append_nil, List.getElem?_cons_succ, List.getElem?_cons_zero, List.set_cons_succ, List.set_cons_zero, Nat.sub_self, Nat.reduceSub, Nat.reduceAdd, Nat.reduceEqDiff, if_true, if_false, reduceIte, decide_eq_true_eq, decide_true, decide_false, Bool.false_xor, Bool.true_xor, Nat.zero_add, eq_self, String.reduceEq, Bool.false_eq_true, wipeE, List.foldl_cons, List.foldl_nil, Bool.not_true, Bool.not_false, inF_strsT, inF_strsL, q_fldS, q_make, isNon_int, isNon_non, isNon_bl, isNon_str, isNon_tup, isNon_lst, q_lcM, q_setI, q_addM, addW_val, seqOf_loc, seqM_lst, seqM_frz, ixW_loc, ixM_lsW, ixM_lst, ixM_frz, setIW_loc, setIM_lst, exit_val, exit_loc, exitV_if, List.take_succ_cons, List.take_zero, List.take_nil, List.all_cons, List.all_nil, Bool.and_true, Bool.true_and, Bool.and_self, Nat.reduceLT, Nat.reduceLeDiff, Nat.zero_le, Nat.lt_add_one, exitM_lst, exitM_frz, below_lst, below_frz, below_dK, below_scr, below_lsW, below_ins, below_dW, wbelow_val, wbelow_loc, q_append, appA_loc, appW_1, appM_lst, q_lstOfM, lstM_lst, q_lstM, q_rng1, standB_none, standB_some, standM_lst, standM_frz, q_join, joinA_str, q_joined, q_jNil, q_jCons, jW_str, q_star, q_own1, ownW_val, okStr_str, isIns_row, isIns_tool, q_kget, kgetW_str, q_indexC, indexW_lst, q_makeL, mkL_cls, q_cmeth, cmW_cls, q_star1, star1W_cons, q_chain, chainW_bl, chainE_bl, q_eqOwn, fmtF_s, and_self, q_aug, augM_int, q_parN, setAll_cons, setAll_nil, q_never, intF_bl, q_extend, extA_loc, extW_1, extD_lst, extM_lst, q_asgT, uTup_tup, uCons_cons, uNil_nil, uName_eq, uFld_eq, ufW_loc, ufM_ins, fldSW_loc, fldSM_ins, fldW_loc, fldM_ins, look_cons, putW_nil, putW_cons, $ts,*])
variable {ρ : Env'} {μ : Mu}
section
variable {X : Txt} {T : ToolM} {s : Crs} {a b c f : List D} {k : Int} {x2 x3 : Option W}
def aftS (T : ToolM) (s : Crs) (k : Int) : Crs := { s with n := (ansS T s.n s.ms k).n, ms := (ansS T s.n s.ms k).ms }
def tryC (T : ToolM) (s : Crs) (k : Int) : Crs := if (ansS T s.n s.ms k).op = true then openS (aftS T s k) k else aftS T s k
def tryF (T : ToolM) (s : Crs) (k : Int) : List Str := if (ansS T s.n s.ms k).op = true then foundS (aftS T s k) k else shutS (aftS T s k) k
def evC (T : ToolM) (s : Crs) : Evt → Crs
  | .give => { s with top := s.top + 1 }
  | .house => { s with n := (hseS T s.n s.ms s.top).n, ms := (hseS T s.n s.ms s.top).ms, sh := s.top }
  | .tr k => tryC T s (k : Int)
def evRow (T : ToolM) (s : Crs) : Evt → Option Nat
  | .give => none
  | .house => (hseS T s.n s.ms s.top).row
  | .tr k => (ansS T s.n s.ms (k : Int)).row
def evF (T : ToolM) (s : Crs) : Evt → List Str
  | .tr k => tryF T s (k : Int)
  | _ => []
def evO (T : ToolM) (s : Crs) : Evt → List Bool
  | .tr k => [(ansS T s.n s.ms (k : Int)).op]
  | _ => []
def stuckS (T : ToolM) (s : Crs) : Bool := decide (0 < s.top) && neverS T s.n s.ms s.top
def allF' (T : ToolM) (s : Crs) (e : Evt) : List Str := evF T s e ++ (if stuckS T (evC T s e) = true then [("stuck" : Str)] else [])
def evMet (T : ToolM) (s : Crs) (i : Nat) (e : Evt) : List (Nat × Str) := (srt (allF' T s e)).map fun w => (i, w)
structure CrsOk (X : Txt) (s : Crs) : Prop where
  mi : MkI X s.ms
  op : s.op.length ≤ 1000
  lw : s.lw.length ≤ 40000
theorem foundS_len {s : Crs} {k : Int} : (foundS s k).length ≤ 3 := by
  unfold foundS
  rw [List.length_append, List.length_append]
  split <;> split <;> split <;> simp
theorem shutS_len {s : Crs} {k : Int} : (shutS s k).length ≤ 3 := by
  unfold shutS
  split
  · split <;> simp
  · simp
theorem evF_len {e : Evt} : (evF T s e).length ≤ 3 := by
  cases e with
  | tr k =>
    show (tryF T s k).length ≤ 3
    unfold tryF
    split
    · exact foundS_len
    · exact shutS_len
  | _ => exact Nat.zero_le _
theorem allF_len {e : Evt} : (allF' T s e).length ≤ 4 := by
  unfold allF'
  rw [List.length_append]
  have := evF_len (T := T) (s := s) (e := e)
  split <;> simp <;> omega
theorem evC_mk (hT : ToolOk X T) (h : MkI X s.ms) {e : Evt} : MkI X (evC T s e).ms := by
  cases e with
  | give => exact h
  | house => exact hseS_mk hT h
  | tr k =>
    show MkI X (tryC T s k).ms
    unfold tryC
    split
    · exact ansS_mk hT h
    · exact ansS_mk hT h
end
end DX
namespace DX
open PySem PySem.Spec L2 DK
local macro_rules
  | `(tactic| push_cast [$ts,*]) => `(tactic| simp only [q_seq, q_ifS, q_if, q_and, q_or, q_not, q_andV, q_orV, q_notV, q_test, q_op, q_un, q_asg, q_ret, q_drop, q_cons, q_dat, q_dat1, q_tup, q_lst, q_call, q_meth, q_for, q_lc, q_seqI, q_sl, q_var, q_c, q_nil, q_next, q_cont, q_break, q_retN, q_yes, q_noPart, q_partB, q_isN, q_ixB, q_fld, q_enum, q_par, q_body, varW_some, view_val, view_loc, viewM_lst, viewM_frz, isBl_bl, partW_int, name_set, ixW_val, ixF_l, ixF_t, fld_row_word, fld_row_tests, fld_row_deeds, fld_row_opens, fld_tool_window, fld_tool_rows, fld_tool_marks, recv_row, recv_tool, bodyE_rt, bodyE_nx, exit_any, exit_dst, negF_int, plusF_int, minusF_int, ltF_int, leF_int, gtF_int, geF_int, eqF_int, eqF_str, eqF_bl, intF_int, maxF_int, minF_int, lenF_l, lenF_t, lenF_s, tupF_l, tupF_t, lstF_l, lstF_t, strF_s, seqOf_t, seqOf_l, guard_val, guard_loc, isNW_val, isNW_loc, enumW_1, parW_2, tup_set, cons_set, nil_set, frzL_nil, frzL_cons, frz1_val, frz1_loc, frzM_lst, frzM_frz, ofS, ite_bind, Option.bind_some, then_nx, then_rt, then_ct, then_bk, start, List.length_cons, List.length_nil, List.map_cons, List.map_nil, List.replicate, List.cons_append, List.nil_append, List.append_nil, List.getElem?_cons_succ, List.getElem?_cons_zero, List.set_cons_succ, List.set_cons_zero, Nat.sub_self, Nat.reduceSub, Nat.reduceAdd, Nat.reduceEqDiff, if_true, if_false, reduceIte, decide_eq_true_eq, decide_true, decide_false, Bool.false_xor, Bool.true_xor, Nat.zero_add, eq_self, String.reduceEq, Bool.false_eq_true, wipeE, List.foldl_cons, List.foldl_nil, Bool.not_true, Bool.not_false, inF_strsT, inF_strsL, q_fldS, q_make, isNon_int, isNon_non, isNon_bl, isNon_str, isNon_tup, isNon_lst, q_lcM, q_setI, q_addM, addW_val, seqOf_loc, seqM_lst, seqM_frz, ixW_loc, ixM_lsW, ixM_lst, ixM_frz, setIW_loc, setIM_lst, exit_val, exit_loc, exitV_if, List.take_succ_cons, List.take_zero, List.take_nil, List.all_cons, List.all_nil, Bool.and_true, Bool.true_and, Bool.and_self, Nat.reduceLT, Nat.reduceLeDiff, Nat.zero_le, Nat.lt_add_one, exitM_lst, exitM_frz, below_lst, below_frz, below_dK, below_scr, below_lsW, below_ins, below_dW, wbelow_val, wbelow_loc, q_append, appA_loc, appW_1, appM_lst, q_lstOfM, lstM_lst, q_lstM, q_rng1, standB_none, standB_some, standM_lst, standM_frz, q_join, joinA_str, q_joined, q_jNil, q_jCons, jW_str, q_star, q_own1, ownW_val, okStr_str, isIns_row, isIns_tool, q_kget, kgetW_str, q_indexC, indexW_lst, q_makeL, mkL_cls, q_cmeth, cmW_cls, q_star1, star1W_cons, q_chain, chainW_bl, chainE_bl, q_eqOwn, fmtF_s, and_self, q_aug, augM_int, q_parN, setAll_cons, setAll_nil, q_never, intF_bl, q_extend, extA_loc, extW_1, extD_lst, extM_lst, q_asgT, uTup_tup, uCons_cons, uNil_nil, uName_eq, uFld_eq, ufW_loc, ufM_ins, fldSW_loc, fldSM_ins, fldW_loc, fldM_ins, look_cons, putW_nil, putW_cons, $ts,*])
variable {ρ : Env'} {μ : Mu}
structure PlS where
  s : Crs
  op : List Bool
  dn : List (Option Nat)
  mt : List (Nat × Str)
def plStep (T : ToolM) (i : Nat) (p : PlS) (e : Evt) : PlS := ⟨evC T p.s e, p.op ++ evO T p.s e, p.dn ++ [evRow T p.s e], p.mt ++ evMet T p.s i e⟩
def plAll (T : ToolM) : Nat → List Evt → PlS → PlS
  | _, [], p => p
  | i, e :: es, p => plAll T (i + 1) es (plStep T i p e)
def crs0 : Crs := ⟨0, [], 0, [], 0, []⟩
def pl0 : PlS := ⟨crs0, [], [], []⟩
def playS (T : ToolM) (es : List Evt) : PlS := plAll T 0 es pl0
section
variable {X : Txt} {T : ToolM}
structure PlOk (X : Txt) (j : Nat) (p : PlS) : Prop where
  mi : MkI X p.s.ms
  op : p.s.op.length ≤ j
  lw : p.s.lw.length ≤ j * (j + 1)
  o : p.op.length ≤ j
  d : p.dn.length ≤ j
  m : p.mt.length ≤ 4 * j
theorem low_len {k : Int} : ∀ {l : List Int} {lw : List (Int × Bool)}, (lowS l k lw).length ≤ lw.length + l.length := fun {l} => by
  induction l with
  | nil => intro lw; exact Nat.le_refl _
  | cons o l ih =>
    intro lw
    have h1 := ih (lw := putI lw o (lwGet lw o || decide (k < o)))
    have h2 := putI_len (lw := lw) (c := o) (b := lwGet lw o || decide (k < o))
    rw [List.length_cons]
    show (lowS l k (putI lw o (lwGet lw o || decide (k < o)))).length ≤ _
    omega
theorem evC_len {s : Crs} {e : Evt} : (evC T s e).op.length ≤ s.op.length + 1 ∧ (evC T s e).lw.length ≤ s.lw.length + s.op.length + 1 := by
  cases e with
  | give => exact ⟨Nat.le_succ _, by show s.lw.length ≤ _; omega⟩
  | house => exact ⟨Nat.le_succ _, by show s.lw.length ≤ _; omega⟩
  | tr k =>
    show (tryC T s k).op.length ≤ _ ∧ (tryC T s k).lw.length ≤ _
    unfold tryC
    split
    · have h1 := List.length_filter_le (fun o => !decide (o = (k : Int))) s.op
      have h2 := low_len (k := (k : Int)) (l := s.op) (lw := s.lw)
      have h3 := putI_len (lw := lowS s.op (k : Int) s.lw) (c := (k : Int)) (b := false)
      refine ⟨?_, ?_⟩
      · show ((s.op.filter fun o => !decide (o = (k : Int))) ++ [(k : Int)]).length ≤ _
        rw [List.length_append, List.length_singleton]
        omega
      · show (putI (lowS s.op (k : Int) s.lw) (k : Int) false).length ≤ _
        omega
    · exact ⟨Nat.le_succ _, by show s.lw.length ≤ _; omega⟩
theorem PlOk.step (hT : ToolOk X T) {j i : Nat} {p : PlS} {e : Evt} (h : PlOk X j p) : PlOk X (j + 1) (plStep T i p e) := by
  obtain ⟨h1, h2⟩ := evC_len (T := T) (s := p.s) (e := e)
  have a1 := h.op
  have a2 := h.lw
  refine ⟨evC_mk hT h.mi, Nat.le_trans h1 (by omega), ?_, ?_, ?_, ?_⟩
  · refine Nat.le_trans h2 ?_
    have : (j + 1) * (j + 1 + 1) = j * (j + 1) + 2 * (j + 1) := by
      rw [← Nat.add_mul, Nat.mul_comm (j + 1)]
    omega
  · show (p.op ++ evO T p.s e).length ≤ _
    rw [List.length_append]
    have := h.o
    cases e <;> simp [evO] <;> omega
  · show (p.dn ++ [evRow T p.s e]).length ≤ _
    rw [List.length_append, List.length_singleton]
    have := h.d
    omega
  · show (p.mt ++ evMet T p.s i e).length ≤ _
    have hl : (evMet T p.s i e).length ≤ 4 := by
      unfold evMet
      rw [List.length_map, (srt_perm _).length_eq]
      exact allF_len
    rw [List.length_append]
    have := h.m
    omega
end
end DX
namespace DX
open PySem PySem.Spec L2 DK
local macro_rules
  | `(tactic| push_cast [$ts,*]) => `(tactic| simp only [q_seq, q_ifS, q_if, q_and, q_or, q_not, q_andV, q_orV, q_notV, q_test, q_op, q_un, q_asg, q_ret, q_drop, q_cons, q_dat, q_dat1, q_tup, q_lst, q_call, q_meth, q_for, q_lc, q_seqI, q_sl, q_var, q_c, q_nil, q_next, q_cont, q_break, q_retN, q_yes, q_noPart, q_partB, q_isN, q_ixB, q_fld, q_enum, q_par, q_body, varW_some, view_val, view_loc, viewM_lst, viewM_frz, isBl_bl, partW_int, name_set, ixW_val, ixF_l, ixF_t, fld_row_word, fld_row_tests, fld_row_deeds, fld_row_opens, fld_tool_window, fld_tool_rows, fld_tool_marks, recv_row, recv_tool, bodyE_rt, bodyE_nx, exit_any, exit_dst, negF_int, plusF_int, minusF_int, ltF_int, leF_int, gtF_int, geF_int, eqF_int, eqF_str, eqF_bl, intF_int, maxF_int, minF_int, lenF_l, lenF_t, lenF_s, tupF_l, tupF_t, lstF_l, lstF_t, strF_s, seqOf_t, seqOf_l, guard_val, guard_loc, isNW_val, isNW_loc, enumW_1, parW_2, tup_set, cons_set, nil_set, frzL_nil, frzL_cons, frz1_val, frz1_loc, frzM_lst, frzM_frz, ofS, ite_bind, Option.bind_some, then_nx, then_rt, then_ct, then_bk, start, List.length_cons, List.length_nil, List.map_cons, List.map_nil, List.replicate, List.cons_append, List.nil_append, List.append_nil, List.getElem?_cons_succ, List.getElem?_cons_zero, List.set_cons_succ, List.set_cons_zero, Nat.sub_self, Nat.reduceSub, Nat.reduceAdd, Nat.reduceEqDiff, if_true, if_false, reduceIte, decide_eq_true_eq, decide_true, decide_false, Bool.false_xor, Bool.true_xor, Nat.zero_add, eq_self, String.reduceEq, Bool.false_eq_true, wipeE, List.foldl_cons, List.foldl_nil, Bool.not_true, Bool.not_false, inF_strsT, inF_strsL, q_fldS, q_make, isNon_int, isNon_non, isNon_bl, isNon_str, isNon_tup, isNon_lst, q_lcM, q_setI, q_addM, addW_val, seqOf_loc, seqM_lst, seqM_frz, ixW_loc, ixM_lsW, ixM_lst, ixM_frz, setIW_loc, setIM_lst, exit_val, exit_loc, exitV_if, List.take_succ_cons, List.take_zero, List.take_nil, List.all_cons, List.all_nil, Bool.and_true, Bool.true_and, Bool.and_self, Nat.reduceLT, Nat.reduceLeDiff, Nat.zero_le, Nat.lt_add_one, exitM_lst, exitM_frz, below_lst, below_frz, below_dK, below_scr, below_lsW, below_ins, below_dW, wbelow_val, wbelow_loc, q_append, appA_loc, appW_1, appM_lst, q_lstOfM, lstM_lst, q_lstM, q_rng1, standB_none, standB_some, standM_lst, standM_frz, q_join, joinA_str, q_joined, q_jNil, q_jCons, jW_str, q_star, q_own1, ownW_val, okStr_str, isIns_row, isIns_tool, q_kget, kgetW_str, q_indexC, indexW_lst, q_makeL, mkL_cls, q_cmeth, cmW_cls, q_star1, star1W_cons, q_chain, chainW_bl, chainE_bl, q_eqOwn, fmtF_s, and_self, q_aug, augM_int, q_parN, setAll_cons, setAll_nil, q_never, intF_bl, q_extend, extA_loc, extW_1, extD_lst, extM_lst, q_asgT, uTup_tup, uCons_cons, uNil_nil, uName_eq, uFld_eq, ufW_loc, ufM_ins, fldSW_loc, fldSM_ins, fldW_loc, fldM_ins, look_cons, putW_nil, putW_cons, $ts,*])
variable {ρ : Env'} {μ : Mu}
section
variable {X : Txt} {r : RowM}
end
end DX
namespace DX
open PySem PySem.Spec L2 DK
local macro_rules
  | `(tactic| push_cast [$ts,*]) => `(tactic| simp only [q_seq, q_ifS, q_if, q_and, q_or, q_not, q_andV, q_orV, q_notV, q_test, q_op, q_un, q_asg, q_ret, q_drop, q_cons, q_dat, q_dat1, q_tup, q_lst, q_call, q_meth, q_for, q_lc, q_seqI, q_sl, q_var, q_c, q_nil, q_next, q_cont, q_break, q_retN, q_yes, q_noPart, q_partB, q_isN, q_ixB, q_fld, q_enum, q_par, q_body, varW_some, view_val, view_loc, viewM_lst, viewM_frz, isBl_bl, partW_int, name_set, ixW_val, ixF_l, ixF_t, fld_row_word, fld_row_tests, fld_row_deeds, fld_row_opens, fld_tool_window, fld_tool_rows, fld_tool_marks, recv_row, recv_tool, bodyE_rt, bodyE_nx, exit_any, exit_dst, negF_int, plusF_int, minusF_int, ltF_int, leF_int, gtF_int, geF_int, eqF_int, eqF_str, eqF_bl, intF_int, maxF_int, minF_int, lenF_l, lenF_t, lenF_s, tupF_l, tupF_t, lstF_l, lstF_t, strF_s, seqOf_t, seqOf_l, guard_val, guard_loc, isNW_val, isNW_loc, enumW_1, parW_2, tup_set, cons_set, nil_set, frzL_nil, frzL_cons, frz1_val, frz1_loc, frzM_lst, frzM_frz, ofS, ite_bind, Option.bind_some, then_nx, then_rt, then_ct, then_bk, start, List.length_cons, List.length_nil, List.map_cons, List.map_nil, List.replicate, List.cons_append, List.nil_append, List.append_nil, List.getElem?_cons_succ, List.getElem?_cons_zero, List.set_cons_succ, List.set_cons_zero, Nat.sub_self, Nat.reduceSub, Nat.reduceAdd, Nat.reduceEqDiff, if_true, if_false, reduceIte, decide_eq_true_eq, decide_true, decide_false, Bool.false_xor, Bool.true_xor, Nat.zero_add, eq_self, String.reduceEq, Bool.false_eq_true, wipeE, List.foldl_cons, List.foldl_nil, Bool.not_true, Bool.not_false, inF_strsT, inF_strsL, q_fldS, q_make, isNon_int, isNon_non, isNon_bl, isNon_str, isNon_tup, isNon_lst, q_lcM, q_setI, q_addM, addW_val, seqOf_loc, seqM_lst, seqM_frz, ixW_loc, ixM_lsW, ixM_lst, ixM_frz, setIW_loc, setIM_lst, exit_val, exit_loc, exitV_if, List.take_succ_cons, List.take_zero, List.take_nil, List.all_cons, List.all_nil, Bool.and_true, Bool.true_and, Bool.and_self, Nat.reduceLT, Nat.reduceLeDiff, Nat.zero_le, Nat.lt_add_one, exitM_lst, exitM_frz, below_lst, below_frz, below_dK, below_scr, below_lsW, below_ins, below_dW, wbelow_val, wbelow_loc, q_append, appA_loc, appW_1, appM_lst, q_lstOfM, lstM_lst, q_lstM, q_rng1, standB_none, standB_some, standM_lst, standM_frz, q_join, joinA_str, q_joined, q_jNil, q_jCons, jW_str, q_star, q_own1, ownW_val, okStr_str, isIns_row, isIns_tool, q_kget, kgetW_str, q_indexC, indexW_lst, q_makeL, mkL_cls, q_cmeth, cmW_cls, q_star1, star1W_cons, q_chain, chainW_bl, chainE_bl, q_eqOwn, fmtF_s, and_self, q_aug, augM_int, q_parN, setAll_cons, setAll_nil, q_never, intF_bl, q_extend, extA_loc, extW_1, extD_lst, extM_lst, q_asgT, uTup_tup, uCons_cons, uNil_nil, uName_eq, uFld_eq, ufW_loc, ufM_ins, fldSW_loc, fldSM_ins, fldW_loc, fldM_ins, look_cons, putW_nil, putW_cons, $ts,*])
variable {ρ : Env'} {μ : Mu}
def givenN (m : Nat) (es : List Evt) : Nat := es.foldl giveN m
theorem posAll_app {e : Evt} : ∀ {es : List Evt} {m : Nat}, posAll m (es ++ [e]) = (posAll m es && posB (givenN m es) e)
  | [], m => by
    show (posB m e && true) = (true && posB m e)
    rw [Bool.and_true, Bool.true_and]
  | f :: es, m => by
    rw [List.cons_append, posAll, posAll, posAll_app, Bool.and_assoc]
    rfl
theorem givenN_app {e : Evt} {es : List Evt} {m : Nat} : givenN m (es ++ [e]) = giveN (givenN m es) e := by
  unfold givenN
  rw [List.foldl_append]
  rfl
structure Evs (most : Nat) (es : List Evt) : Prop where
  ok : ∀ e ∈ es, EvOk e
  pos : posAll 0 es = true
  top : givenN 0 es ≤ most
theorem Evs.app {most : Nat} {es : List Evt} {e : Evt} (h : Evs most es) (h1 : EvOk e) (h2 : posB (givenN 0 es) e = true) (h3 : giveN (givenN 0 es) e ≤ most) : Evs most (es ++ [e]) := ⟨fun f hf => by
  rcases List.mem_append.mp hf with q | q
  · exact h.ok f q
  · rw [List.mem_singleton.mp q]; exact h1, by rw [posAll_app, h.pos, h2]; rfl, by rw [givenN_app]; exact h3⟩
theorem Evs.nil {most : Nat} : Evs most [] := ⟨fun _ h => (by cases h), rfl, Nat.zero_le _⟩
end DX
namespace DX
open PySem PySem.Spec L2 DK
def m_law_value_0 : RS :=
  mNever
def f_law_value_0 : FX := bodyF true 2 5 m_law_value_0
def m_law_value_1_p1 : RS :=
  mAsg (mCall f_law_draw [] (mCons (mVar 0) (mCons (mIf (mTest (mOp gtF (mVar 1) (mC (.int 0)))) (mC (.int 7)) (mC (.int 4))) mNil))) (hName 2)
def m_law_value_1_p2 : RS :=
  mRet (mCall f_law_pick [] (mCons (mVar 0) (mCons (mLst (mCons (mC (.int 0)) (mCons (mC (.int 1)) (mCons (mOp minusF (mC (.int 0)) (mC (.int 7))) (mCons (mOp pwF (mC (.int 10)) (mC (.int 20))) mNil))))) mNil)))
def m_law_value_1_p3 : RS :=
  mIfS (mTest (mOp (eqF false) (mVar 2) (mC (.int 0)))) (m_law_value_1_p2) mNext
def m_law_value_1_p4 : RS :=
  mRet (mCall f_law_pick [] (mCons (mVar 0) (mCons (mLst (mCons (mC .non) (mCons (mC (.bl true)) (mCons (mC (.bl false)) mNil)))) mNil)))
def m_law_value_1_p5 : RS :=
  mIfS (mTest (mOp (eqF false) (mVar 2) (mC (.int 1)))) (m_law_value_1_p4) mNext
def m_law_value_1_p6 : RS :=
  mRet (mCall f_law_pick [] (mCons (mVar 0) (mCons (mLst (mCons (mC (.str "")) (mCons (mC (.str "same")) (mCons (mC (.str "try 1")) (mCons (mC (.str "give")) (mCons (mC (.str "mark k")) (mCons (mC (.str "marked k")) (mCons (mC (.str "not")) (mCons (mC (.str "x y")) mNil))))))))) mNil)))
def m_law_value_1_p7 : RS :=
  mIfS (mTest (mOp ltF (mVar 2) (mC (.int 4)))) (m_law_value_1_p6) mNext
def m_law_value_1_p8 : RS :=
  mAsg (mLc (kRng1 (mCons (mCall f_law_draw [] (mCons (mVar 0) (mCons (mC (.int 4)) mNil))) mNil)) (hName 3) mYes (mCall f_law_value_0 [] (mCons (mVar 0) (mCons (mOp minusF (mVar 1) (mC (.int 1))) mNil))) [3]) (hName 4)
def m_law_value_1_p9 : RS :=
  mRet (mIf (mTest (mOp (eqF false) (mVar 2) (mC (.int 4)))) (mVar 4) (mUn tupF (mVar 4)))
def m_law_value_1 : RS :=
  (mSeq (m_law_value_1_p1)
      (mSeq (m_law_value_1_p3)
      (mSeq (m_law_value_1_p5)
      (mSeq (m_law_value_1_p7)
      (mSeq (m_law_value_1_p8)
      (m_law_value_1_p9))))))
def f_law_value_1 : FX := bodyF true 2 5 m_law_value_1
def m_law_value_2_p1 : RS :=
  mAsg (mCall f_law_draw [] (mCons (mVar 0) (mCons (mIf (mTest (mOp gtF (mVar 1) (mC (.int 0)))) (mC (.int 7)) (mC (.int 4))) mNil))) (hName 2)
def m_law_value_2_p2 : RS :=
  mRet (mCall f_law_pick [] (mCons (mVar 0) (mCons (mLst (mCons (mC (.int 0)) (mCons (mC (.int 1)) (mCons (mOp minusF (mC (.int 0)) (mC (.int 7))) (mCons (mOp pwF (mC (.int 10)) (mC (.int 20))) mNil))))) mNil)))
def m_law_value_2_p3 : RS :=
  mIfS (mTest (mOp (eqF false) (mVar 2) (mC (.int 0)))) (m_law_value_2_p2) mNext
def m_law_value_2_p4 : RS :=
  mRet (mCall f_law_pick [] (mCons (mVar 0) (mCons (mLst (mCons (mC .non) (mCons (mC (.bl true)) (mCons (mC (.bl false)) mNil)))) mNil)))
def m_law_value_2_p5 : RS :=
  mIfS (mTest (mOp (eqF false) (mVar 2) (mC (.int 1)))) (m_law_value_2_p4) mNext
def m_law_value_2_p6 : RS :=
  mRet (mCall f_law_pick [] (mCons (mVar 0) (mCons (mLst (mCons (mC (.str "")) (mCons (mC (.str "same")) (mCons (mC (.str "try 1")) (mCons (mC (.str "give")) (mCons (mC (.str "mark k")) (mCons (mC (.str "marked k")) (mCons (mC (.str "not")) (mCons (mC (.str "x y")) mNil))))))))) mNil)))
def m_law_value_2_p7 : RS :=
  mIfS (mTest (mOp ltF (mVar 2) (mC (.int 4)))) (m_law_value_2_p6) mNext
def m_law_value_2_p8 : RS :=
  mAsg (mLc (kRng1 (mCons (mCall f_law_draw [] (mCons (mVar 0) (mCons (mC (.int 4)) mNil))) mNil)) (hName 3) mYes (mCall f_law_value_1 [] (mCons (mVar 0) (mCons (mOp minusF (mVar 1) (mC (.int 1))) mNil))) [3]) (hName 4)
def m_law_value_2_p9 : RS :=
  mRet (mIf (mTest (mOp (eqF false) (mVar 2) (mC (.int 4)))) (mVar 4) (mUn tupF (mVar 4)))
def m_law_value_2 : RS :=
  (mSeq (m_law_value_2_p1)
      (mSeq (m_law_value_2_p3)
      (mSeq (m_law_value_2_p5)
      (mSeq (m_law_value_2_p7)
      (mSeq (m_law_value_2_p8)
      (m_law_value_2_p9))))))
def f_law_value_2 : FX := bodyF true 2 5 m_law_value_2
end DX
namespace DX
open PySem PySem.Spec PyProof.Rows L2 DK
inductive XR where | val (w : W) | exc (c : Str) (x : Option (Str × D))
inductive OutX where | o (o : Out) | xc (c : Str) (x : Option (Str × D)) (ρ : Env') (μ : Mu)
section
variable (K : PySem.W.Frag) [HasW K]
def XcOk (G H : Hp) (c : Str) (x : Option (Str × D)) (E : XK) : Prop := match x with
  | some (f, y) => ∀ d v, H d = none → Rep K G y v → E (.ref (He.ga K c)) (some d) (upd H d (.xd [(f, v)]))
  | none => E (.ref (He.ga K c)) none H
def XrOk (P : Addr → Prop) (as : List Addr) (G H : Hp) (ρ : Env') (σ : L2.St) (μ' : Mu) (Q : VK) (E : XK) : XR → Prop
  | .val w => ∀ v as' G' H', Nx P as G H as' G' H' → Rl K G' H' as' P ρ μ' σ → RepW K G' as' w v → Q v H'
  | .exc c x => ∀ as' G' H', Nx P as G H as' G' H' → Rl K G' H' as' P ρ μ' σ → XcOk K G' H' c x E
def OutOkX (P : Addr → Prop) (as : List Addr) (G H : Hp) (W : WX) (E : Ends) : OutX → Prop
  | .o o => OutOk K P as G H E o
  | .xc c x ρ' μ' => ∀ as' σ' G' H', Nx P as G H as' G' H' → Rl K G' H' as' P ρ' μ' σ' → XcOk K G' H' c x (fun cls d H2 => W cls d σ' H2)
def ExX (ts : WX → TS) (ρ : Env') (μ : Mu) (o : OutX) : Prop := ∀ (P : Addr → Prop) (as : List Addr) (σ : L2.St) (G H : Hp), Rl K G H as P ρ μ σ → ∀ (W : WX) (E : Ends), OutOkX K P as G H W E o → ts W E σ H
end
section
variable {K : PySem.W.Frag} [HasW K] {G H : Hp} {as : List Addr} {P : Addr → Prop} {ρ : Env'} {μ : Mu} {σ : L2.St}
theorem XcOk.mono {c : Str} {x : Option (Str × D)} {E E' : XK} (h : XcOk K G H c x E) (q : ∀ cls d H2, E cls d H2 → E' cls d H2) : XcOk K G H c x E' := by
  unfold XcOk at h ⊢
  split at h
  · exact fun d v hd r => q _ _ _ (h d v hd r)
  · exact q _ _ _ h
theorem OutOkX.after {as1 : List Addr} {G1 H1 : Hp} {W : WX} {E : Ends} {o : OutX} (n : Nx P as G H as1 G1 H1) (h : OutOkX K P as G H W E o) : OutOkX K P as1 G1 H1 W E o := by
  cases o with
  | o o => exact OutOk.after n h
  | xc c x ρ' μ' => exact fun as' σ' G' H' n' R' => h as' σ' G' H' (n.trans n') R'
end
end DX
namespace DX
open PySem PySem.Spec PyProof.Rows L2 DK
section
variable {K : PySem.W.Frag} [HasW K] {G H : Hp} {as : List Addr} {P : Addr → Prop} {ρ : Env'} {μ : Mu} {σ : L2.St}
theorem XrOk.after {as1 : List Addr} {G1 H1 : Hp} {μ' : Mu} {Q : VK} {E : XK} {r : XR} (n : Nx P as G H as1 G1 H1) (q : XrOk K P as G H ρ σ μ' Q E r) : XrOk K P as1 G1 H1 ρ σ μ' Q E r := by
  cases r with
  | val w => exact fun v as2 G2 H2 n2 R2 r2 => q v as2 G2 H2 (n.trans n2) R2 r2
  | exc c x => exact fun as2 G2 H2 n2 R2 => q as2 G2 H2 (n.trans n2) R2
end
end DX
namespace DX
open PySem PySem.Spec PyProof.Rows L2 DK
section
variable {K : PySem.W.Frag} [HasW K] {G H : Hp} {as : List Addr} {P : Addr → Prop} {ρ : Env'} {μ : Mu} {σ : L2.St}
structure CxE (K : PySem.W.Frag) (i : Nat) (a d : Addr) (f : Str) (v : V) (y : D) (P : Addr → Prop) (σ : L2.St) (G H : Hp) : Prop where
  s : σ[i]? = some (some (.ref a))
  p : P d
  h : H d = some (.xd [(f, v)])
  r : Rep K G y v
variable {i : Nat} {a d : Addr} {f : Str} {v : V} {y : D}
theorem CxE.nx {as' : List Addr} {G' H' : Hp} (c : CxE K i a d f v y P σ G H) (n : Nx P as G H as' G' H') : CxE K i a d f v y P σ G' H' := ⟨c.s, c.p, (n.kp d c.p).trans c.h, Rep.mono n.gr _ _ c.r⟩
end
end DX
namespace DX
open PySem PySem.Spec PyProof.Rows L2 DK
section
variable {K : PySem.W.Frag} [HasW K] {G H : Hp} {as : List Addr} {P : Addr → Prop} {ρ : Env'} {μ μ1 : Mu} {σ : L2.St}
inductive LpX (K : PySem.W.Frag) [HasW K] (g : TG) (tb : WX → TS) (C : Mu → Prop) : List D → Env' → Mu → OutX → Prop where
  | nil {ρ : Env'} {μ : Mu} : LpX K g tb C [] ρ μ (.o (.nx ρ μ))
  | next {x : D} {xs : List D} {ρ ρ1 ρ2 : Env'} {μ μ2 : Mu} {o : OutX} : EvG K g (.val x) ρ ρ1 → ExX K tb ρ1 μ (.o (.nx ρ2 μ2)) → C μ2 → LpX K g tb C xs ρ2 μ2 o → LpX K g tb C (x :: xs) ρ μ o
  | cont {x : D} {xs : List D} {ρ ρ1 ρ2 : Env'} {μ μ2 : Mu} {o : OutX} : EvG K g (.val x) ρ ρ1 → ExX K tb ρ1 μ (.o (.ct ρ2 μ2)) → C μ2 → LpX K g tb C xs ρ2 μ2 o → LpX K g tb C (x :: xs) ρ μ o
  | brk {x : D} {xs : List D} {ρ ρ1 ρ2 : Env'} {μ μ2 : Mu} : EvG K g (.val x) ρ ρ1 → ExX K tb ρ1 μ (.o (.bk ρ2 μ2)) → LpX K g tb C (x :: xs) ρ μ (.o (.nx ρ2 μ2))
  | ret {x : D} {xs : List D} {ρ ρ1 : Env'} {μ μ2 : Mu} {w : W} : EvG K g (.val x) ρ ρ1 → ExX K tb ρ1 μ (.o (.rt w μ2)) → LpX K g tb C (x :: xs) ρ μ (.o (.rt w μ2))
  | exc {x : D} {xs : List D} {ρ ρ1 ρ2 : Env'} {μ μ2 : Mu} {c : Str} {y : Option (Str × D)} : EvG K g (.val x) ρ ρ1 → ExX K tb ρ1 μ (.xc c y ρ2 μ2) → LpX K g tb C (x :: xs) ρ μ (.xc c y ρ2 μ2)
end
theorem FunS.xok {P : Program} {w : World} {K : PySem.W.Frag} [HasW K] {mg : Str → Option Value} {base : Heap} {file : Str} {c fld qual : Str} {params : Arguments} {body rest : List Stmt} {scope : Scope} {f : Addr} {fd : FuncData} {N ps : List Str} {ar : Arg} {msg : Str} {j : Nat} {p0 p1 p2 p3 p4 p5 : Pos} {pl : Sem Bool}
    (F : FunS K file (He.ga K c) "__init__" qual params body scope f fd) (hP : SupP P file) (SC : SupC K (He.ga K c)) (hno : PySem.W.findIn K (.ref (He.ga K c)) fld = some none) (S : SupScope N ps scope) (hmg : mg "super" = none) (hz : ps.length = 2)
    (hb : body = .Expr (.Call (.Attribute (.Call (.Name "super" p0) [] [] p1) "__init__" p2) [.Constant (.str msg) j p3] [] p4) p5 :: rest) (hp : (params.posonlyargs ++ params.args).head? = some ar) (hps : ps[0]? = some ar.arg)
    (hc : ∀ L cda cc, eval (.Call (.Attribute (.Call (.Name "super" p0) [] [] p1) "__init__" p2) [.Constant (.str msg) j p3] [] p4) (PySem.W.ksEnv qual scope L f (.ref cda) cc) = (do
      let ov ← attributeBase (.Call (.Name "super" p0) [] [] p1) "__init__" (PySem.W.ksEnv qual scope L f (.ref cda) cc) (eval (.Call (.Name "super" p0) [] [] p1) (PySem.W.ksEnv qual scope L f (.ref cda) cc))
      standAt p2.atName
      let (g, first) ← holding [ov] (getMethod ov "__init__" pl)
      callWith p4 g first (backTo p4 (starEach [.Constant (.str msg) j p3] (PySem.W.ksEnv qual scope L f (.ref cda) cc))) []))
    (hin : ∀ L cda cc, interactive (PySem.W.ksEnv qual scope L f (.ref cda) cc) = false) (hsw : ∀ L cda cc, swapsWith (.Call (.Attribute (.Call (.Name "super" p0) [] [] p1) "__init__" p2) [.Constant (.str msg) j p3] [] p4) none p5.line (PySem.W.ksEnv qual scope L f (.ref cda) cc) = pure false)
    (hrest : ∀ (cda cc : Addr) (A : Around) (outer : List Env) (s : Shared) (H : Hp) (E : XK), PSs (cxS CX0 P w K mg base N qual scope f cda cc A outer s H E) rest (tOst K fld (tVar 0) (tVar 1))) :
    FnOk P w K mg base CX0 1 f fd ps (spXI K (He.ga K c) fld) := by
  obtain ⟨cc, cda, kV, doc, pm, ct, an, rfl, hcd, hk⟩ := F.ex
  subst hb
  exact fn_sup (hk P hP) SC hcd S hmg hp hps (fun L => hc L cda cc) (fun L => hin L cda cc) (fun L => hsw L cda cc) (fun vs H Q E h => by rw [hz]; exact len_xi h) fun A outer s H vs Q E hr h => ⟨xinit_at h, _, hrest cda cc A outer s H E, xinit_rd SC.x hno h⟩
theorem FunS.bind {K : PySem.W.Frag} [HasW K] {file : Str} {D : Addr} {x qual : Str} {params : Arguments} {body : List Stmt} {scope : Scope} {f : Addr} {fd : FuncData} {ps : List Str} (F : FunS K file D x qual params body scope f fd)
    (h : ∀ (cc cda : Addr) (kV doc pm ct : Value) (an : Option Addr) (us : List Value), us.length = ps.length → bindArgs (PySem.W.ksFn x qual params body scope .none kV doc pm an (.ref cda) ct cc) ⟨us, []⟩ = pure (ps.zip us)) : Binds K fd ps [] := by
  obtain ⟨cc, cda, kV, doc, pm, ct, an, rfl, _⟩ := F.ex
  exact Binds.all (h cc cda kV doc pm ct an)
end DX
namespace DX
open PySem PySem.Spec L2 DK
variable {ρ : Env'} {μ : Mu}
section
variable {X : Txt} {T : ToolM}
theorem srt_idem' {ms : List Str} : srt (srt ms) = srt ms := srt_uniq (srt_srt _) (srt_srt _) (srt_perm _)
theorem srt_behind {ds ms : List Str} : srt (behindM ds ms) = behindM ds ms := by
  unfold behindM
  exact srt_idem'
theorem ansS_srt {n c : Int} {ms : List Str} : srt (ansS T n ms c).ms = (ansS T n ms c).ms := by
  unfold ansS
  cases rowForM T.rows (wordM T.window (c - n)) (srt ms) with
  | none => exact srt_idem'
  | some p => exact srt_behind
theorem hseS_srt {n c : Int} {ms : List Str} : srt (hseS T n ms c).ms = (hseS T n ms c).ms := by
  unfold hseS
  split
  · exact srt_idem'
  · exact srt_behind
end
end DX
namespace DX
open PySem PySem.Spec PyProof.Rows L2 DK
variable {K : PySem.W.Frag} [HasW K]
end DX
namespace DX
open PySem PySem.Spec PyProof.Rows L2 DK
variable {K : PySem.W.Frag} [HasW K] {G H : Hp} {as : List Addr} {P : Addr → Prop} {ρ : Env'} {μ : Mu} {σ : L2.St}
def clr (n : Nat) : Option W → Option W
  | some (.loc j) => if j < n then some (.loc j) else none
  | o => o
theorem rl_cut (R : Rl K G H as P ρ μ σ) {n : Nat} (hn : n ≤ μ.length) (hb : ∀ m ∈ μ.take n, MO.below n m = true) : Rl K G H (as.take n) P (ρ.map (clr n)) (μ.take n) σ := by
  have R0 := front R hn hb
  refine ⟨R0.sub, fun a ha => R0.pro a (.inl ha), R0.nd, R0.len, R0.mu, R0.wf, by rw [List.length_map]; exact R.sz, fun i w h => ?_, R0.tb.mono (Same.refl _) R0.tb.1 fun a t0 t1 t2 _ => ⟨fun z => t0 (.inl z), t1, t2, rfl⟩⟩
  rw [List.getElem?_map] at h
  cases e : ρ[i]? with
  | none => rw [e] at h; cases h
  | some o =>
    rw [e] at h
    have h2 : clr n o = some w := Option.some.inj h
    cases o with
    | none => cases h2
    | some w' =>
      cases w' with
      | val d =>
        have : W.val d = w := Option.some.inj h2
        subst this
        exact R.env i _ e
      | loc j =>
        unfold clr at h2
        dsimp only at h2
        split at h2
        · rename_i hj
          have : W.loc j = w := Option.some.inj h2
          subst this
          obtain ⟨v, h3, a, h4, h5⟩ := R.env i _ e
          exact ⟨v, h3, a, by rw [List.getElem?_take_of_lt hj]; exact h4, h5⟩
        · cases h2
def mCut (b : RS) : RS := fun ρ μ => match b ρ μ with
  | some (.nx ρ' μ') => if μ.length ≤ μ'.length ∧ (μ'.take μ.length).all (MO.below μ.length) = true then some (.nx (ρ'.map (clr μ.length)) (μ'.take μ.length)) else some (.nx ρ' μ')
  | o => o
theorem sn_cut {ts : TS} {b : RS} (hb : SnS K ts b) : SnS K ts (mCut b) := fun ρ μ o h => by
  unfold mCut at h
  split at h
  · rename_i ρ' μ' e
    split at h
    · rename_i hc
      cases h
      intro P as σ G H R E q
      refine hb _ _ _ e P as σ G H R E fun as' σ' G' H' n' R' => ?_
      have R2 := rl_cut R' hc.1 (List.all_eq_true.mp hc.2)
      obtain ⟨t, et⟩ := n'.pre
      have ea : as'.take μ.length = as := by rw [et, ← R.len, List.take_left]
      rw [ea] at R2
      exact q as σ' G' H' ⟨⟨[], by simp⟩, n'.gr, n'.kp⟩ R2
    · cases h
      exact hb _ _ _ e
  · exact hb _ _ _ h
end DX
namespace DX
open PySem PySem.Spec L2 DK
local macro_rules
  | `(tactic| push_cast [$ts,*]) => `(tactic| simp only [q_seq, q_ifS, q_if, q_and, q_or, q_not, q_andV, q_orV, q_notV, q_test, q_op, q_un, q_asg, q_ret, q_drop, q_cons, q_dat, q_dat1, q_tup, q_lst, q_call, q_meth, q_for, q_lc, q_seqI, q_sl, q_var, q_c, q_nil, q_next, q_cont, q_break, q_retN, q_yes, q_noPart, q_partB, q_isN, q_ixB, q_fld, q_enum, q_par, q_body, varW_some, view_val, view_loc, viewM_lst, viewM_frz, isBl_bl, partW_int, name_set, ixW_val, ixF_l, ixF_t, fld_row_word, fld_row_tests, fld_row_deeds, fld_row_opens, fld_tool_window, fld_tool_rows, fld_tool_marks, recv_row, recv_tool, bodyE_rt, bodyE_nx, exit_any, exit_dst, negF_int, plusF_int, minusF_int, ltF_int, leF_int, gtF_int, geF_int, eqF_int, eqF_str, eqF_bl, intF_int, maxF_int, minF_int, lenF_l, lenF_t, lenF_s, tupF_l, tupF_t, lstF_l, lstF_t, strF_s, seqOf_t, seqOf_l, guard_val, guard_loc, isNW_val, isNW_loc, enumW_1, parW_2, tup_set, cons_set, nil_set, frzL_nil, frzL_cons, frz1_val, frz1_loc, frzM_lst, frzM_frz, ofS, ite_bind, Option.bind_some, then_nx, then_rt, then_ct, then_bk, start, List.length_cons, List.length_nil, List.map_cons, List.map_nil, List.replicate, List.cons_append, List.nil_append, List.append_nil, List.getElem?_cons_succ, List.getElem?_cons_zero, List.set_cons_succ, List.set_cons_zero, Nat.sub_self, Nat.reduceSub, Nat.reduceAdd, Nat.reduceEqDiff, if_true, if_false, reduceIte, decide_eq_true_eq, decide_true, decide_false, Bool.false_xor, Bool.true_xor, Nat.zero_add, eq_self, String.reduceEq, Bool.false_eq_true, wipeE, List.foldl_cons, List.foldl_nil, Bool.not_true, Bool.not_false, inF_strsT, inF_strsL, q_fldS, q_make, isNon_int, isNon_non, isNon_bl, isNon_str, isNon_tup, isNon_lst, q_lcM, q_setI, q_addM, addW_val, seqOf_loc, seqM_lst, seqM_frz, ixW_loc, ixM_lsW, ixM_lst, ixM_frz, setIW_loc, setIM_lst, exit_val, exit_loc, exitV_if, List.take_succ_cons, List.take_zero, List.take_nil, List.all_cons, List.all_nil, Bool.and_true, Bool.true_and, Bool.and_self, Nat.reduceLT, Nat.reduceLeDiff, Nat.zero_le, Nat.lt_add_one, exitM_lst, exitM_frz, below_lst, below_frz, below_dK, below_scr, below_lsW, below_ins, below_dW, wbelow_val, wbelow_loc, q_append, appA_loc, appW_1, appM_lst, q_lstOfM, lstM_lst, q_lstM, q_rng1, standB_none, standB_some, standM_lst, standM_frz, q_join, joinA_str, q_joined, q_jNil, q_jCons, jW_str, q_star, q_own1, ownW_val, okStr_str, isIns_row, isIns_tool, q_kget, kgetW_str, q_indexC, indexW_lst, q_makeL, mkL_cls, q_cmeth, cmW_cls, q_star1, star1W_cons, q_chain, chainW_bl, chainE_bl, q_eqOwn, fmtF_s, and_self, q_aug, augM_int, q_parN, setAll_cons, setAll_nil, q_never, intF_bl, q_extend, extA_loc, extW_1, extD_lst, extM_lst, q_asgT, uTup_tup, uCons_cons, uNil_nil, uName_eq, uFld_eq, ufW_loc, ufM_ins, fldSW_loc, fldSM_ins, fldW_loc, fldM_ins, look_cons, putW_nil, putW_cons, $ts,*])
variable {ρ : Env'} {μ : Mu}
def isTry : Evt → Bool
  | .tr _ => true
  | _ => false
structure Beg (X : Txt) (T : ToolM) (es : List Evt) : Prop where
  n : (playS T es).s.n ≤ (playS T es).s.top
  top : (playS T es).s.top = (givenN 0 es : Nat)
  srt : srt (playS T es).s.ms = (playS T es).s.ms
  op : (playS T es).op.length = (es.filter isTry).length
  dn : (playS T es).dn.length = es.length
theorem tryC_n {T : ToolM} {s : Crs} {k : Int} : (tryC T s k).n = (ansS T s.n s.ms k).n ∧ (tryC T s k).ms = (ansS T s.n s.ms k).ms ∧ (tryC T s k).top = s.top := by
  unfold tryC
  split <;> exact ⟨rfl, rfl, rfl⟩
theorem cut_nx {b : RS} {ρ' : Env'} {μ' : Mu} (h : b ρ μ = some (.nx ρ' μ')) (hl : μ.length ≤ μ'.length) (hb : (μ'.take μ.length).all (MO.below μ.length) = true) : mCut b ρ μ = some (.nx (ρ'.map (clr μ.length)) (μ'.take μ.length)) := by
  unfold mCut
  rw [h]
  dsimp only
  rw [if_pos ⟨hl, hb⟩]
end DX
namespace DX
open PySem PySem.Spec PyProof.Rows L2 DK
variable {K : PySem.W.Frag} [HasW K]
section
variable {G : Hp} {as : List Addr}
end
section
variable {K : PySem.W.Frag} [HasW K]
end
end DX
namespace DX
open PySem PySem.Spec PyProof.Rows L2 DK
section
variable {prog : Program} {w : World} {A : Around} {E : Value → Shared → Prop} {s : Shared} {K : PySem.W.Frag} [HasW K] {x C f L : Addr} {ox : Obj} {od : Option Obj} {b tb : Value} {h₀ : Heap} {m : Str → Option Value}
end
section
variable {X : Cx} {C g : Addr} {n : Nat} {sp : Sp} {fd : FuncData} {ps : List Str}
end
section
variable {X : Cx} {C g : Addr} {n : Nat} {sp : Sp} {fd : FuncData} {ps : List Str} {a b : Expr} {ta tb : TE} {pos : Pos}
end
section
variable {K : PySem.W.Frag} [HasW K]
variable {ρ : Env'} {μ : Mu}
end
end DX
namespace DX
open PySem PySem.Spec PyProof.Rows L2 DK
section
open PySem.W Builtin Builtin.ObjectAttr
variable {prog : Program} {w : World} {A : Around} {R : Result → Shared → Prop} {hp : Heap} {g : Array GenState} {d : Drawn} {t : Nat} {os : OsState}
theorem osaI {K : PySem.W.Frag} {name : Str} {tk : Tok} {v : Value} {x C : Addr} {fv : Array Value} {cd : ClassData} (X : K.In hp) (hx : hp.get? x = some { cls := .ref C, data := .fields fv }) (ov : PySem.W.excOver K C ieTail = true)
    (hcd : PySem.W.clsIn K C = some cd) (hh : cd.hasDict = true) (ha : PySem.W.findIn K (.ref C) name = some none)
    (hq : ∀ h' tk' dx, (∀ b o, b ≠ x → hp.get? b = some o → h'.get? b = some o) → hp.objs.size ≤ dx → dx ≠ x → h'.get? x = some { cls := .ref C, dict := some dx, data := .fields fv } →
      h'.Ns1 dx (fun y => if y = name then some v else none) → R (.ok (.ret .none)) ⟨h', g, d, tk', os⟩) :
    codeAny (model prog w) A (.call (.builtin "object.__setattr__") ⟨[.ref x, .str name tk, v], []⟩) R ⟨hp, g, d, t, os⟩ := by
  have nx : x ≠ hp.objs.size := Nat.ne_of_lt (Heap.lt_size hx)
  have look : Looks (model prog w) hp (classData C) cd := looks_clsIn X hcd
  refine osa_openX (r := none) PySem.F.store_IndexError X (ox := { cls := .ref C, data := .fields fv }) (od := none) ⟨hx, rfl, rfl, trivial⟩ ov ?_ fun b => ?_
  · unfold takerIn
    rw [ha]
    rfl
  obtain ⟨nm, bs, mro, ns, qn, hd, sn, sb, ab, col, del⟩ := cd
  dsimp only at hh
  subst hh
  dsimp only
  unfold storeInOwnDict ownDictForStores
  repeat (first | with_reducible refine HandSPX.store_in_new ?_ ?_ | with_reducible refine wpAny_loadPart_at hx ?_ | with_reducible refine look.at ?_ | wp_step)
  · exact ⟨_, #[], _, (Heap.get?_update_ne _ _ _ _ nx.symm).trans (Heap.get?_push_at rfl rfl), rfl, fun e he => absurd he (by simp), fun _ => rfl⟩
  · intro h' tk' ns' same
    have hx1 : (hp.push { cls := .type "dict", data := .dict #[] }).get? x = some { cls := .ref C, data := .fields fv } := Heap.get?_push_of_some _ hx
    exact hq h' tk' hp.objs.size (fun b o hb ho => (same.2 b (Nat.ne_of_lt (Heap.lt_size ho))).trans ((Heap.get?_update_ne _ _ _ _ hb).trans (Heap.get?_push_of_some _ ho))) (Nat.le_refl _) nx.symm
      ((same.2 x nx).trans (Heap.get?_update_self _ hx1 rfl)) ns'
end
theorem sup_callI {X : Cx} {pins : List (Addr × Obj)} {σ : L2.St} {H : Hp} {s : Shared} {A : Around} {E : Value → Shared → Prop} {u a C : Addr} {us : List Value} {Q : Value → Shared → Prop} (T : OexI X.K C) (I : Inv X pins σ H s) (e : H a = some (exo a C none))
    (hu : s.heap.get? u = some (PySem.W.kxs_mw "IndexError.__init__" a)) (hl : us.length ≤ sizeLine) (h : ∀ s', Inv X pins σ H s' → Q .none s') : wpAny (model X.prog X.w) A (call (.ref u) us) Q E s := by
  obtain ⟨nm, q, N, bs, bm, sn, sub, ab, col, dd, k0, k1, k2, k3, k5, hC, hbm⟩ := T.cls
  obtain ⟨t1, ho⟩ := exo_at I.hok e
  have hC' := I.kIn _ _ hC
  obtain ⟨hp, g, d, t, os⟩ := s
  refine wpAny_call (codeAny_of_tree ?_)
  show wpAny _ A.in1 (callAny (.ref u) ⟨us, []⟩) _ _ _
  simp only [callAny]
  refine wpAny_bind (wpAny_load hu ?_)
  simp only [PySem.W.kxs_mw, show (Value.type "method-wrapper" == Value.type "method" || Value.type "method-wrapper" == Value.type "builtin_function_or_method" || Value.type "method-wrapper" == Value.type "method-wrapper") = true by decide, if_true]
  refine PySem.W.KFB.if_so (by decide) ?_
  refine wpAny_bind (PySem.W.check_bound_init F.excBase_IndexError.toExcCallFacts hC' ho rfl ?_)
  refine wpAny_bind (wpAny_pure (wpAny_pure ?_))
  refine ⟨plainId_quiet F.excBase_IndexError.init.plain _, codeAny_builtin F.excBase_IndexError.initEntry ?_⟩
  refine PySem.W.exc_init_tree (cls := .ref C) (t0 := t1) (dv := none) (c2 := .none) (c3 := .none) (b4 := .bool false) ho hl fun h' k hx _ => ?_
  have J := I.write (t' := t) (x := a) (e := a) (o := exo a C none) (by rw [e]; exact True.intro) (.inl rfl) k ⟨_, hx⟩ (exo_ok hx)
  have eu : upd H a (exo a C none) = H := by
    funext b
    by_cases hb : b = a
    · rw [hb, upd_same, e]
    · rw [upd_ne hb]
  rw [eu] at J
  exact h _ J
theorem sup_execI {X : Cx} {body : List Stmt} {q : Str} {scope : Scope} {f cc cda D a L : Addr} {fd : FuncData} {ar : Arg} {σ : L2.St} {H : Hp} {s : Shared} {msg : Str} {j : Nat} {p0 p1 p2 p3 p4 p5 : Pos} {pl : Sem Bool} {E : Value → Shared → Prop}
    (henv : X.env = PySem.W.ksEnv q scope L f (.ref cda) cc) (SK : SupK X.prog X.K D cc cda f fd) (SC : SupCI X.K D) (hp : (fd.params.posonlyargs ++ fd.params.args).head? = some ar) (hN : X.N[0]? = some ar.arg) (hks : scope.names.lookup ("super" : Str) = some .globalImplicit) (hkc : scope.names.lookup ("__class__" : Str) = some .free) (hka : scope.names.lookup ar.arg = some .local) (hk : scope.kind = .function) (hmg : X.mg "super" = none)
    (I : Inv X [] σ H s) (hσ : σ[0]? = some (some (.ref a))) (ha : H a = some (exo a D none)) (hc : eval (.Call (.Attribute (.Call (.Name "super" p0) [] [] p1) "__init__" p2) [.Constant (.str msg) j p3] [] p4) X.env = (do
      let ov ← attributeBase (.Call (.Name "super" p0) [] [] p1) "__init__" X.env (eval (.Call (.Name "super" p0) [] [] p1) X.env)
      standAt p2.atName
      let (g, first) ← holding [ov] (getMethod ov "__init__" pl)
      callWith p4 g first (backTo p4 (starEach [.Constant (.str msg) j p3] X.env)) []))
    (hin : interactive X.env = false) (hsw : swapsWith (.Call (.Attribute (.Call (.Name "super" p0) [] [] p1) "__init__" p2) [.Constant (.str msg) j p3] [] p4) none p5.line X.env = pure false) :
    _root_.PySem.wpAt (model X.prog X.w) X.A (.func body X.env) (exec (.Expr (.Call (.Attribute (.Call (.Name "super" p0) [] [] p1) "__init__" p2) [.Constant (.str msg) j p3] [] p4) p5) X.env) (fun fl s' => fl = .next ∧ Inv X [] σ H s') E s := by
  obtain ⟨oc, od, osl, hf⟩ := SK.fn
  obtain ⟨ccl, cdd, vs, ccs, file, tf, hcode, hvs, hfile⟩ := SK.code
  obtain ⟨cl, cld, csl, hcell⟩ := SK.cell
  obtain ⟨cdD, hD⟩ := SC.cd
  have K1 := I.kIn
  obtain ⟨oD, hD1, hD2⟩ : ∃ oD, s.heap.get? D = some oD ∧ oD.data = .cls cdD := by
    unfold PySem.W.clsIn at hD
    split at hD
    · rename_i c d cd' sl ho
      cases hD
      exact ⟨_, K1 _ _ ho, rfl⟩
    · cases hD
  obtain ⟨m, hns, hloc⟩ := I.loc
  have hka' : X.env.kindOf ar.arg = some .local := by rw [henv]; exact hka
  obtain ⟨u, hu, hl⟩ := hloc 0 ar.arg (.ref a) hN hσ (.inl (by rw [henv]; exact hka))
  obtain rfl : u = Value.ref a := hu
  have hm : m ar.arg = some (.ref a) := by
    rcases hl with ⟨_, h⟩ | ⟨h | h, _⟩
    · exact h
    · rw [hka'] at h; cases h
    · rw [hka'] at h; cases h
  obtain ⟨t1, ho⟩ := exo_at I.hok ha
  have hkk : X.env.scope.kind = .function := by rw [henv]; exact hk
  have hks' : X.env.kindOf "super" = some .globalImplicit := by rw [henv]; exact hks
  have hkc' : X.env.kindOf "__class__" = some .free := by rw [henv]; exact hkc
  have hfu : X.env.func = some f := by rw [henv]
  have hco : X.env.code = .ref cda := by rw [henv]
  have hcc : X.env.cells.lookup ("__class__" : Str) = some cc := by rw [henv]; rfl
  obtain ⟨mb, b1, b2⟩ := I.mod.blt
  refine PySem.ks_wpAt_Expr_any (PySem.ks_wpAt_MethodCall (PySem.ks_wpAt_super_base hks' hkc' (by decide) hfu (K1 _ _ hf) rfl hp hco (K1 _ _ hcode) rfl hvs hfile SK.top ?_) hc) hin hsw
  refine PySem.W.ks_loadName_global hkk hks' (Calls.loadGlobal_builtin (by rw [I.ok.glob]; exact I.mod.glob.keeps I.bk) hmg (by rw [I.ok.blt]; exact b1.keeps I.bk) ((b2 _ (by decide)).trans PyProof.Rows.Boot.«super») ⟨rfl, ?_⟩)
  refine wpAny_loadName_free hkk hkc' hcc ⟨_, K1 _ _ hcell, rfl⟩ ?_
  refine wpAny_loadName_local hkk hka' hns hm ?_
  refine PySem.ks_wpAny_isType_cls hD1 hD2 ⟨rfl, ?_⟩
  obtain ⟨hp1, g, d, t, os⟩ := s
  refine PySem.ks_wpAny_call_super hD1 hD2 ho rfl (fun c e => by cases e) (PySem.W.looks_mroIn K1 SC.self) (fun h2 e2 k2 => ?_)
  have I2 : Inv X [] σ H ⟨h2, g, d, t, os⟩ := I.kept k2
  have K2 := I2.kIn
  have IA : PySem.W.InstAt h2 a ({ cls := .ref D, dict := none, data := .fields #[.ref t1, .none, .none, .none, .bool false, .none] } : Obj) D none := ⟨k2 _ _ ho, rfl, rfl, trivial⟩
  have hi : PySem.W.Looks (model X.prog X.w) h2 (isInstance (.ref a) (.type "IndexError")) true := IA.type.andThen (PySem.W.looks_subIn K2 SC.ve)
  have hsi := SC.init
  unfold PySem.W.ks_superIn at hsi
  rw [hD] at hsi
  have haD : a ≠ D := PySem.W.ks_ne K2 IA hD
  refine PySem.W.kxs_getMethod PySem.W.kxs_IndexError e2 (PySem.W.looks_opaque K2 SK.any) (l₀ := cdD.mro) ?_ rfl K2 hsi hi haD (by decide) ?_
  · exact fun A Q E s k q => wpAny_bind ((PySem.W.looks_clsIn K2 hD) A _ E s k (wpAny_pure q))
  have k3 : ∀ b o, h2.get? b = some o → (h2.push (PySem.W.kxs_mw "IndexError.__init__" a)).get? b = some o := fun b o e => Heap.get?_push_of_some _ e
  have I3 : Inv X [] σ H ⟨h2.push (PySem.W.kxs_mw "IndexError.__init__" a), g, d, t + 1, os⟩ := I2.kept (t' := t + 1) k3
  have hu3 : (h2.push (PySem.W.kxs_mw "IndexError.__init__" a)).get? h2.objs.size = some (PySem.W.kxs_mw "IndexError.__init__" a) := Heap.get?_push_at rfl rfl
  refine PySem.W.kxs_callWith (i := "IndexError.__init__") (x := a) rfl (Calls.evalArgs_plain (Calls.spliced_cons (Calls.Constant_str (k := j) (pos := p3) (Calls.spliced_nil ⟨hu3, ?_⟩))))
  exact sup_callI SC.x (I3.tok _) ha hu3 (by rw [sizeLine_eq]; show 1 ≤ _; omega) fun s' J => ⟨rfl, J⟩
theorem fn_supI {CX : CXT} {P : Program} {w : World} {K : PySem.W.Frag} {mg : Str → Option Value} {base : Heap} {k : Nat} {f D cc cda : Addr} {name qual : Str} {params : Arguments} {rest : List Stmt} {scope : Scope} {dV kV doc pm ct : Value} {an : Option Addr} {N ps : List Str} {sp : Sp} {ar : Arg} {msg : Str} {j : Nat} {p0 p1 p2 p3 p4 p5 : Pos} {pl : Sem Bool}
    (SK : SupK P K D cc cda f (PySem.W.ksFn name qual params (.Expr (.Call (.Attribute (.Call (.Name "super" p0) [] [] p1) "__init__" p2) [.Constant (.str msg) j p3] [] p4) p5 :: rest) scope dV kV doc pm an (.ref cda) ct cc)) (SC : SupCI K D) (hcd : PySem.W.codeIn K (.ref cda) qual = true) (S : SupScope N ps scope) (hmg : mg "super" = none)
    (hp : (params.posonlyargs ++ params.args).head? = some ar) (hps : ps[0]? = some ar.arg)
    (hc : ∀ L, eval (.Call (.Attribute (.Call (.Name "super" p0) [] [] p1) "__init__" p2) [.Constant (.str msg) j p3] [] p4) (PySem.W.ksEnv qual scope L f (.ref cda) cc) = (do
      let ov ← attributeBase (.Call (.Name "super" p0) [] [] p1) "__init__" (PySem.W.ksEnv qual scope L f (.ref cda) cc) (eval (.Call (.Name "super" p0) [] [] p1) (PySem.W.ksEnv qual scope L f (.ref cda) cc))
      standAt p2.atName
      let (g, first) ← holding [ov] (getMethod ov "__init__" pl)
      callWith p4 g first (backTo p4 (starEach [.Constant (.str msg) j p3] (PySem.W.ksEnv qual scope L f (.ref cda) cc))) []))
    (hin : ∀ L, interactive (PySem.W.ksEnv qual scope L f (.ref cda) cc) = false) (hsw : ∀ L, swapsWith (.Call (.Attribute (.Call (.Name "super" p0) [] [] p1) "__init__" p2) [.Constant (.str msg) j p3] [] p4) none p5.line (PySem.W.ksEnv qual scope L f (.ref cda) cc) = pure false)
    (len : ∀ vs H Q E, sp vs H Q E → vs.length = ps.length)
    (hbody : ∀ (A : Around) (outer : List Env) (s : Shared) (H : Hp) (vs : List V) (Q : VK) (E : XK), Room k (A.deeper (PySem.W.ksEnv qual scope s.heap.objs.size f (.ref cda) cc)) → sp vs H Q E →
      (∃ a r, vs = .ref a :: r ∧ H a = some (exo a D none)) ∧ ∃ t, PSs (cxS CX P w K mg base N qual scope f cda cc A outer s H E) rest t ∧ t { nx := fun _ H' => Q .non H', rt := Q } (L2.start N vs) H) :
    FnOk P w K mg base CX (k + 1) f (PySem.W.ksFn name qual params (.Expr (.Call (.Attribute (.Call (.Name "super" p0) [] [] p1) "__init__" p2) [.Constant (.str msg) j p3] [] p4) p5 :: rest) scope dV kV doc pm an (.ref cda) ct cc) ps sp := by
  refine ⟨len, fun A outer s H args us vs Q E hr e0 hb r hsp => ?_⟩
  have hl := len _ _ _ _ hsp
  have kb : ∀ b o, base.get? b = some o → s.heap.get? b = some o := fun b o e => (e0.bs b o e).1
  have KX : K.In s.heap := e0.mod.kin.keeps kb
  have lim : s.heap.NoLimit := e0.mod.nolimit.keeps kb
  obtain ⟨oc, od, osl, hf⟩ := SK.fn
  obtain ⟨cl, cld, csl, hcell⟩ := SK.cell
  have hnd : N[0]? = some ar.arg := by
    have hp0 := hps
    rw [← S.pre] at hp0
    by_cases q : 0 < ps.length
    · rw [List.getElem?_take_of_lt q] at hp0
      exact hp0
    · rw [List.getElem?_eq_none (by rw [List.length_take]; omega)] at hp0
      cases hp0
  refine ks_codeAny_call_defAt (R := CR CX outer P w H s Q E) hr.depth (KX _ _ hf) rfl lim (PySem.W.codeRec_of KX hcd) rfl hb S.nocell (fun x hx => S.par x.1 (List.of_mem_zip hx).1) (fun h1 hns hk1 => ?_) S.co S.gen S.kind
  obtain ⟨⟨a, vr, ev, ha⟩, t, ht, hq⟩ := hbody A outer s H vs Q E (hr.deeper _) hsp
  have I : Inv (cxS CX P w K mg base N qual scope f cda cc A outer s H E) [] (L2.start N vs) H { s with heap := h1, toks := s.toks + (ps.zip us).length } := inv_startS S hr.hd e0 hl r ⟨cl, cld, csl, e0.mod.kin _ _ hcell⟩ hns hk1
  refine ks_wpAt_execs_cons (ks_wpAt_mono (sup_execI (X := cxS CX P w K mg base N qual scope f cda cc A outer s H E) (ar := ar) rfl SK SC hp hnd S.sup S.cl (S.par _ (List.mem_of_getElem? hps)) S.kind hmg I (by rw [ev]; unfold L2.start; rfl) ha (hc _) (hin _) (hsw _)) (fun fl s' hs => ?_) fun _ _ x => x)
  obtain ⟨e, J⟩ := hs
  subst e
  refine wpAt_of_wpAny (wpAny_mono (ht.run [] s' (L2.start N vs) H _ J hq) (fun fl s2 hs => ?_) fun e s2 hs => hs)
  have fin : ∀ {σ' : L2.St} {H' : Hp} {v : V} {u : Value}, Inv (cxS CX P w K mg base N qual scope f cda cc A outer s H E) [] σ' H' s2 → RelV v u → Q v H' → CE outer P w H s Q u s2 :=
    fun {σ' H' v u} J rv q => ⟨v, H', J.os, J.bare, J.base, J.hok, rv, q⟩
  cases fl with
  | ret u =>
    obtain ⟨v, σ', H', J, rv, q⟩ := hs
    exact fin J rv q
  | next =>
    obtain ⟨σ', H', J, q⟩ := hs
    exact fin (v := V.non) (u := Value.none) J rfl q
  | brk =>
    obtain ⟨_, _, _, q⟩ := hs
    exact False.elim q
  | cont =>
    obtain ⟨_, _, _, q⟩ := hs
    exact False.elim q
section
variable {X : Cx} {pins : List (Addr × Obj)} {σ : L2.St} {H : Hp} {s : Shared} {a C : Addr} {f : Str} {y : V} {u : Value} {Q : Unit → Shared → Prop} {E : Value → Shared → Prop} {A : Around}
theorem un_dict {fr : List Addr} {hp h' : Heap} {dx : Addr} (ea : H a = some (exo a C none)) (nd : H dx = none) (fresh : hp.objs.size ≤ dx) (k : ∀ b o, b ≠ a → hp.get? b = some o → h'.get? b = some o) (hx : ∃ o, h'.get? a = some o) {ud ua : HO} : Un fr [] H (upd (upd H dx ud) a ua) hp h' := by
  have old : ∀ {b : Addr} {o : Obj}, hp.get? b = some o → b ≠ dx := fun {b o} q z => Nat.not_lt.mpr fresh (by rw [← z]; exact Heap.lt_size q)
  have off : ∀ {b : Addr}, H b = none → b ≠ a := fun {b} n z => by rw [z, ea] at n; cases n
  have put : ∀ {b : Addr}, b ≠ a → b ≠ dx → upd (upd H dx ud) a ua b = H b := fun {b} h1 h2 => by rw [upd_ne h1, upd_ne h2]
  constructor
  · exact fun b o q n _ _ => k b o (off n) q
  · exact fun b o q n _ _ => ⟨o.slots, k b o (off n) q⟩
  · exact fun b o q n _ => (put (off n) (old q)).trans n
  · intro b o q _
    rcases Nat.decEq b a with h | h
    · exact ⟨o, k b o h q⟩
    · rw [h]; exact hx
  · exact fun b xs q => (put (at_ne ea q exo_tup) (ne_of_none q nd)).trans q
  · exact fun b o v q => (put (at_ne ea q exo_frz) (ne_of_none q nd)).trans q
  · exact fun b ps q => ⟨#[], by rw [put (at_ne ea q exo_tbl) (ne_of_none q nd), q]; simp⟩
theorem ost_newI (T : OexI X.K C) (I : Inv X pins σ H s) (e : H a = some (exo a C none)) (hno : PySem.W.findIn X.K (.ref C) f = some none) (ry : RelV y u)
    (h : ∀ dx s', H dx = none → dx ≠ a → Inv X pins σ (upd (upd H dx (exd dx [(f, y)])) a (exo a C (some dx))) s' → Q () s') : wpAny (model X.prog X.w) A (setAttr (.ref a) f u) Q E s := by
  obtain ⟨nm, q, N, bs, bm, sn, sub, ab, col, dd, k0, k1, k2, k3, k5, hC, hbm⟩ := T.cls
  have hcl : PySem.W.clsIn X.K C = some { name := nm, bases := bs, mro := .ref C :: bm, ns := N, qualname := q, hasDict := true, slotNames := sn, subclasses := sub, abstract := ab, collection := col, hasDel := false } := by unfold PySem.W.clsIn; rw [hC] <;> rfl
  obtain ⟨t1, ho⟩ := exo_at I.hok e
  obtain ⟨hp, g, d, t, os⟩ := s
  refine PySem.W.set_plain I.kIn (ox := { cls := .ref C, dict := none, data := .fields #[.ref t1, .none, .none, .none, .bool false, .none] }) (od := none) ⟨ho, rfl, rfl, trivial⟩ T.sa ?_
  refine osaI I.kIn ho T.over hcl rfl hno fun h' tk' dx k dn dne hx hn => ?_
  have hnd : H dx = none := I.hok.fresh dn
  refine h dx _ hnd dne (I.un (t' := tk') (un_dict e hnd dn k ⟨_, hx⟩) fun b o q => ?_)
  rcases Nat.decEq b a with hb | hb
  · rcases Nat.decEq b dx with hd | hd
    · rw [upd_ne hb, upd_ne hd] at q
      exact (I.hok b o q).stay (fun c v hc z => k c v (by
          rcases hc with hc | hc
          · rw [hc]; exact hb
          · exact at_ne e hc exo_own) z)
        (fun c hc => by rw [upd_ne (at_ne e hc exo_own), upd_ne (ne_of_none hc hnd)]; exact hc) (fun c xs hc => by rw [upd_ne (at_ne e hc exo_tup), upd_ne (ne_of_none hc hnd)]; exact hc)
    · subst hd
      rw [upd_ne hb, upd_same] at q
      cases q
      exact exd_ok hn (relO_put (fs := []) ry fun g => True.intro)
  · subst hb
    rw [upd_same] at q
    cases q
    exact exo_ok hx
end
def tOstI (K : PySem.W.Frag) (f : Str) (to te : TE) : TS := fun D σ H => te σ H fun y H1 => to σ H1 fun x H2 => ∃ a C : Addr, x = .ref a ∧ OexI K C ∧ PySem.W.findIn K (.ref C) f = some none ∧
  H2 a = some (exo a C none) ∧ ∀ dx, H2 dx = none → dx ≠ a → D.nx σ (upd (upd H2 dx (exd dx [(f, y)])) a (exo a C (some dx)))
section
variable {X : Cx} {o e : Expr} {es : List Expr} {to te : TE} {ta : TA} {f : Str} {p p' p1 p2 pos : Pos}
theorem ps_ostI (ho : PE X o to) (he : PE X e te) (hs : swapsWith e (some (.Attribute o f p')) pos.line X.env = pure false := by rfl) : PS X (.Assign [.Attribute o f p'] e pos) (tOstI X.K f to te) := by
  refine ⟨fun pins s σ H D I h => ?_⟩
  refine plainObj_wpAny_Assign_Attribute (thn (he.run pins s σ H _ I h) fun v s1 ⟨y, H1, I1, r1, q1⟩ => thn (ho.run pins s1 σ H1 _ I1 q1) fun u s2 ⟨x, H2, I2, r2, a, C, ex, T, hno, ea, q⟩ => ?_) hs
  subst ex
  obtain rfl : u = Value.ref a := r2
  exact ost_newI T I2 ea hno r1 fun dx s' n ne J => ⟨σ, _, J, q dx n ne⟩
end
theorem xinit_rdI {K : PySem.W.Frag} {C : Addr} {f : Str} (T : OexI K C) (hno : PySem.W.findIn K (.ref C) f = some none) {N : List Str} {vs : List V} {H : Hp} {Q : VK} {E : XK} (h : spXI K C f vs H Q E) : tOstI K f (tVar 0) (tVar 1) { nx := fun _ H' => Q .non H', rt := Q } (L2.start N vs) H := by
  obtain ⟨a, v, rfl, ha, q⟩ := h
  exact ⟨v, rfl, .ref a, rfl, a, C, rfl, T, hno, ha, fun dx hdx ne => q dx hdx ne⟩
theorem FunS.xokI {P : Program} {w : World} {K : PySem.W.Frag} [HasW K] {mg : Str → Option Value} {base : Heap} {file : Str} {c fld qual : Str} {params : Arguments} {body rest : List Stmt} {scope : Scope} {f : Addr} {fd : FuncData} {N ps : List Str} {ar : Arg} {msg : Str} {j : Nat} {p0 p1 p2 p3 p4 p5 : Pos} {pl : Sem Bool}
    (F : FunS K file (He.ga K c) "__init__" qual params body scope f fd) (hP : SupP P file) (SC : SupCI K (He.ga K c)) (hno : PySem.W.findIn K (.ref (He.ga K c)) fld = some none) (S : SupScope N ps scope) (hmg : mg "super" = none) (hz : ps.length = 2)
    (hb : body = .Expr (.Call (.Attribute (.Call (.Name "super" p0) [] [] p1) "__init__" p2) [.Constant (.str msg) j p3] [] p4) p5 :: rest) (hp : (params.posonlyargs ++ params.args).head? = some ar) (hps : ps[0]? = some ar.arg)
    (hc : ∀ L cda cc, eval (.Call (.Attribute (.Call (.Name "super" p0) [] [] p1) "__init__" p2) [.Constant (.str msg) j p3] [] p4) (PySem.W.ksEnv qual scope L f (.ref cda) cc) = (do
      let ov ← attributeBase (.Call (.Name "super" p0) [] [] p1) "__init__" (PySem.W.ksEnv qual scope L f (.ref cda) cc) (eval (.Call (.Name "super" p0) [] [] p1) (PySem.W.ksEnv qual scope L f (.ref cda) cc))
      standAt p2.atName
      let (g, first) ← holding [ov] (getMethod ov "__init__" pl)
      callWith p4 g first (backTo p4 (starEach [.Constant (.str msg) j p3] (PySem.W.ksEnv qual scope L f (.ref cda) cc))) []))
    (hin : ∀ L cda cc, interactive (PySem.W.ksEnv qual scope L f (.ref cda) cc) = false) (hsw : ∀ L cda cc, swapsWith (.Call (.Attribute (.Call (.Name "super" p0) [] [] p1) "__init__" p2) [.Constant (.str msg) j p3] [] p4) none p5.line (PySem.W.ksEnv qual scope L f (.ref cda) cc) = pure false)
    (hrest : ∀ (cda cc : Addr) (A : Around) (outer : List Env) (s : Shared) (H : Hp) (E : XK), PSs (cxS CX0 P w K mg base N qual scope f cda cc A outer s H E) rest (tOstI K fld (tVar 0) (tVar 1))) :
    FnOk P w K mg base CX0 1 f fd ps (spXI K (He.ga K c) fld) := by
  obtain ⟨cc, cda, kV, doc, pm, ct, an, rfl, hcd, hk⟩ := F.ex
  subst hb
  exact fn_supI (hk P hP) SC hcd S hmg hp hps (fun L => hc L cda cc) (fun L => hin L cda cc) (fun L => hsw L cda cc) (fun vs H Q E h => by rw [hz]; exact len_xi h) fun A outer s H vs Q E hr h => ⟨xinit_at h, _, hrest cda cc A outer s H E, xinit_rdI SC.x hno h⟩
end DX
namespace DX
open PySem PySem.Spec PyProof.Rows L2
abbrev Clause : Type := Value × (Addr → Value → Option Addr → TS)
inductive ClsN (X : Cx) (n : Str) : List ExceptHandler → List Clause → Prop
  | nil : ClsN X n [] []
  | cons {x : Str} {q : Clause} {st : Stmt} {sts : List Stmt} {p1 p2 : Pos} {hs : List ExceptHandler} {l : List Clause} (names : Names X x q.1)
      (suite : ∀ (a : Addr) (oe : Obj) (cls : Value) (d : Option Addr) (pn : List (Addr × Obj)), Zc cls d oe → (∃ vs, oe.data = .fields vs) → PSs (X.suite a ((a, oe) :: pn)) (st :: sts) (q.2 a cls d)) (more : ClsN X n hs l) :
      ClsN X n (.ExceptHandler (some (.Name x p1)) (some n) (st :: sts) p2 :: hs) (q :: l)
section
variable {X : Cx} {n : Str} {i : Nat} {body : List Stmt} {h0 : ExceptHandler} {hs : List ExceptHandler} {l : List Clause} {pos : Pos} {tb : WX → TS} {Wout : WX}
end
end DX
namespace DX
open PySem PySem.Spec PyProof.Rows L2 HotX
section
variable {X : Cx} {Wout : WX} {i : Nat} {n : Str}
variable {x : Str} {c : Value} {body suite : List Stmt} {b₀ : Stmt} {np pos pos' : Pos} {tb : WX → TS} {ts : Addr → Value → Option Addr → WX → TS}
end
end DX
namespace DX
open PySem PySem.Spec L2 DK
variable {ρ ρ1 : Env'} {μ μ1 : Mu} {c f : Str} {x : Option (Str × D)}
end DX
namespace DK
open PySem PySem.Spec L2
end DK
namespace DX
open PySem PySem.Spec PyProof.Rows L2 DK
section
variable {X : Cx} {e : Expr} {es : List Expr} {ta : TA} {p pos : Pos}
end
end DX
namespace DK
open PySem PySem.Spec L2
def spXN (C : Addr) : Sp := fun vs H Q _ => ∃ a, vs = [.ref a] ∧ H a = some (exo a C none) ∧ Q .non H
theorem xninit_at {C : Addr} {vs : List V} {H : Hp} {Q : VK} {E : XK} (h : spXN C vs H Q E) : ∃ a r, vs = .ref a :: r ∧ H a = some (exo a C none) := by
  obtain ⟨a, rfl, ha, _⟩ := h
  exact ⟨a, [], rfl, ha⟩
theorem len_xn {C : Addr} {vs : List V} {H : Hp} {Q : VK} {E : XK} (h : spXN C vs H Q E) : vs.length = 1 := by
  obtain ⟨a, rfl, _⟩ := h
  rfl
end DK
namespace DX
open PySem PySem.Spec PyProof.Rows L2 DK
theorem FunS.xok0 {P : Program} {w : World} {K : PySem.W.Frag} [HasW K] {mg : Str → Option Value} {base : Heap} {file : Str} {c qual : Str} {params : Arguments} {body : List Stmt} {scope : Scope} {f : Addr} {fd : FuncData} {N ps : List Str} {ar : Arg} {msg : Str} {j : Nat} {p0 p1 p2 p3 p4 p5 : Pos} {pl : Sem Bool}
    (F : FunS K file (He.ga K c) "__init__" qual params body scope f fd) (hP : SupP P file) (SC : SupC K (He.ga K c)) (S : SupScope N ps scope) (hmg : mg "super" = none) (hz : ps.length = 1)
    (hb : body = [.Expr (.Call (.Attribute (.Call (.Name "super" p0) [] [] p1) "__init__" p2) [.Constant (.str msg) j p3] [] p4) p5]) (hp : (params.posonlyargs ++ params.args).head? = some ar) (hps : ps[0]? = some ar.arg)
    (hc : ∀ L cda cc, eval (.Call (.Attribute (.Call (.Name "super" p0) [] [] p1) "__init__" p2) [.Constant (.str msg) j p3] [] p4) (PySem.W.ksEnv qual scope L f (.ref cda) cc) = (do
      let ov ← attributeBase (.Call (.Name "super" p0) [] [] p1) "__init__" (PySem.W.ksEnv qual scope L f (.ref cda) cc) (eval (.Call (.Name "super" p0) [] [] p1) (PySem.W.ksEnv qual scope L f (.ref cda) cc))
      standAt p2.atName
      let (g, first) ← holding [ov] (getMethod ov "__init__" pl)
      callWith p4 g first (backTo p4 (starEach [.Constant (.str msg) j p3] (PySem.W.ksEnv qual scope L f (.ref cda) cc))) []))
    (hin : ∀ L cda cc, interactive (PySem.W.ksEnv qual scope L f (.ref cda) cc) = false) (hsw : ∀ L cda cc, swapsWith (.Call (.Attribute (.Call (.Name "super" p0) [] [] p1) "__init__" p2) [.Constant (.str msg) j p3] [] p4) none p5.line (PySem.W.ksEnv qual scope L f (.ref cda) cc) = pure false) :
    FnOk P w K mg base CX0 1 f fd ps (spXN (He.ga K c)) := by
  obtain ⟨cc, cda, kV, doc, pm, ct, an, rfl, hcd, hk⟩ := F.ex
  subst hb
  exact fn_sup (hk P hP) SC hcd S hmg hp hps (fun L => hc L cda cc) (fun L => hin L cda cc) (fun L => hsw L cda cc) (fun vs H Q E h => by rw [hz]; exact len_xn h) fun A outer s H vs Q E hr h => ⟨xninit_at h, tNext, pss_nil, by
    obtain ⟨a, rfl, ha, q⟩ := h
    exact q⟩
section
variable {X : Cx} {p pos : Pos}
end
section
variable {K : PySem.W.Frag} [HasW K]
end
end DX
namespace DX
open PySem PySem.Spec PyProof.Rows L2 DK
def tExV (C : Addr) (sp : Sp) (dvs : List V) (ta : TA) : TE := fun σ H Q => ta σ H fun vs H1 => vs.length ≤ 1000 ∧ ∀ a, H1 a = none →
  sp (.ref a :: (vs ++ dvs)) (upd H1 a (exo a C none)) (fun v H2 => v = .non ∧ Q (.ref a) H2) (fun _ _ _ => False)
section
variable {X : Cx} {e : Expr} {es : List Expr} {ta : TA} {p pos : Pos}
theorem pe_exV {CX : CXT} {x : Str} {C fI : Addr} {k : Nat} {fd : FuncData} {ps : List Str} {sp : Sp} {ds : List Value} {dvs : List V} (T : OexC X.K C) (iC : PySem.W.findIn X.K (.ref C) "__init__" = some (some (.ref fI))) (tI : PySem.W.typeIn X.K (.ref fI) = some (.type "function"))
    (F1 : FnOk X.prog X.w X.K X.mg X.base CX k fI fd ps sp) (hr : Room (k + 1) X.A) (hb : Binds X.K fd ps ds) (hd : Vals dvs ds) (hx : Passes CX X (fun _ _ _ => False)) (hg : Gl X x) (hm : X.mg x = some (.ref C)) (ha : PA X (e :: es) ta)
    (hdb : (x == ("__debug__" : Str)) = false := by decide) (he : starEach (e :: es) X.env = (false, eval e X.env) :: starEach es X.env := by rfl) (hpl : (backTo pos (starEach es X.env)).any (·.1) = false := by rfl) :
    PE X (.Call (.Name x p) (e :: es) [] pos) (tExV C sp dvs ta) := by
  refine ⟨fun pins s σ H Q I h => ?_⟩
  obtain ⟨nm, q, N, bs, bm, sn, sub, ab, col, dd, k0, k1, k2, k3, k5, hC, hbm⟩ := T.cls
  refine wpAny_Call_Name_kw (ld_glob I hg hm ?_ hdb)
  refine PySem.W.callWith_K (h₀ := X.base) I.ok.mod.kin T.kC (thn (ha.run pos pins s σ H _ I h) fun us s1 ⟨vs, H1, I1, r1, hz, q1⟩ => ⟨I1.kIn, ?_⟩) he hpl
  obtain ⟨hp, g, dr, tk, os⟩ := s1
  have up : hp.objs.size ≤ hp.objs.size + 1 := Nat.le_succ _
  have hq := q1 (hp.objs.size + 1) (I1.hok.fresh up)
  have grow : ∀ b o, hp.get? b = some o → ((hp.push (PySem.W.kdv_tup us)).push (PySem.HandSPX.excO C hp.objs.size)).get? b = some o := fun b o z => Heap.get?_push_of_some _ (Heap.get?_push_of_some _ z)
  have made : ((hp.push (PySem.W.kdv_tup us)).push (PySem.HandSPX.excO C hp.objs.size)).get? (hp.objs.size + 1) = some (PySem.HandSPX.excO C hp.objs.size) := by heap_get
  have I2 : Inv X pins σ (upd H1 (hp.objs.size + 1) (exo (hp.objs.size + 1) C none)) ⟨(hp.push (PySem.W.kdv_tup us)).push (PySem.HandSPX.excO C hp.objs.size), g, dr, tk, os⟩ := I1.laid (t' := tk) grow up (exo_ok made)
  have r2 : Vals (V.ref (hp.objs.size + 1) :: (vs ++ dvs)) (Value.ref (hp.objs.size + 1) :: (us ++ ds)) := .cons rfl (r1.append hd)
  have hl : (Value.ref (hp.objs.size + 1) :: us ++ ds).length = ps.length := (F1.len _ _ _ _ hq).symm.trans r2.length |>.symm
  have room : us.length ≤ sizeLine := by
    have := r1.length
    rw [sizeLine_eq]
    omega
  refine wpAny_call (PySem.HandSPX.call_own F.excBase_ValueError (fun Y => PySem.HandSPX.refsVE_contains Y bm hbm) (I1.kIn _ _ hC) (PySem.W.looks_findIn I1.kIn iC) (fun self => PySem.W.bind_fn I1.kIn self tI) room
    (codeAny_mono (F1.run _ X.stack _ _ ⟨Value.ref (hp.objs.size + 1) :: us, []⟩ (Value.ref (hp.objs.size + 1) :: (us ++ ds)) _ _ (fun _ _ _ => False) (hr.make C us []) (I2.env0.make C us []) (hb _ (Value.ref (hp.objs.size + 1) :: us) I2.kIn hl) r2 hq) fun r s' back => ?_))
  match r, back with
  | .error er, back => exact hx pins σ _ _ er s' I2 back
  | .ok (.ret u), back =>
    obtain ⟨v, H', I3, rv, ev, q3⟩ := I2.after back
    subst ev
    exact ⟨rv, ⟨V.ref (hp.objs.size + 1), H', I3, rfl, q3⟩⟩
  | .ok .next, back => exact False.elim back
  | .ok .brk, back => exact False.elim back
  | .ok .cont, back => exact False.elim back
theorem pe_exVI {CX : CXT} {x : Str} {C fI : Addr} {k : Nat} {fd : FuncData} {ps : List Str} {sp : Sp} {ds : List Value} {dvs : List V} (T : OexI X.K C) (iC : PySem.W.findIn X.K (.ref C) "__init__" = some (some (.ref fI))) (tI : PySem.W.typeIn X.K (.ref fI) = some (.type "function"))
    (F1 : FnOk X.prog X.w X.K X.mg X.base CX k fI fd ps sp) (hr : Room (k + 1) X.A) (hb : Binds X.K fd ps ds) (hd : Vals dvs ds) (hx : Passes CX X (fun _ _ _ => False)) (hg : Gl X x) (hm : X.mg x = some (.ref C)) (ha : PA X (e :: es) ta)
    (hdb : (x == ("__debug__" : Str)) = false := by decide) (he : starEach (e :: es) X.env = (false, eval e X.env) :: starEach es X.env := by rfl) (hpl : (backTo pos (starEach es X.env)).any (·.1) = false := by rfl) :
    PE X (.Call (.Name x p) (e :: es) [] pos) (tExV C sp dvs ta) := by
  refine ⟨fun pins s σ H Q I h => ?_⟩
  obtain ⟨nm, q, N, bs, bm, sn, sub, ab, col, dd, k0, k1, k2, k3, k5, hC, hbm⟩ := T.cls
  refine wpAny_Call_Name_kw (ld_glob I hg hm ?_ hdb)
  refine PySem.W.callWith_K (h₀ := X.base) I.ok.mod.kin T.kC (thn (ha.run pos pins s σ H _ I h) fun us s1 ⟨vs, H1, I1, r1, hz, q1⟩ => ⟨I1.kIn, ?_⟩) he hpl
  obtain ⟨hp, g, dr, tk, os⟩ := s1
  have up : hp.objs.size ≤ hp.objs.size + 1 := Nat.le_succ _
  have hq := q1 (hp.objs.size + 1) (I1.hok.fresh up)
  have grow : ∀ b o, hp.get? b = some o → ((hp.push (PySem.W.kdv_tup us)).push (PySem.HandSPX.excO C hp.objs.size)).get? b = some o := fun b o z => Heap.get?_push_of_some _ (Heap.get?_push_of_some _ z)
  have made : ((hp.push (PySem.W.kdv_tup us)).push (PySem.HandSPX.excO C hp.objs.size)).get? (hp.objs.size + 1) = some (PySem.HandSPX.excO C hp.objs.size) := by heap_get
  have I2 : Inv X pins σ (upd H1 (hp.objs.size + 1) (exo (hp.objs.size + 1) C none)) ⟨(hp.push (PySem.W.kdv_tup us)).push (PySem.HandSPX.excO C hp.objs.size), g, dr, tk, os⟩ := I1.laid (t' := tk) grow up (exo_ok made)
  have r2 : Vals (V.ref (hp.objs.size + 1) :: (vs ++ dvs)) (Value.ref (hp.objs.size + 1) :: (us ++ ds)) := .cons rfl (r1.append hd)
  have hl : (Value.ref (hp.objs.size + 1) :: us ++ ds).length = ps.length := (F1.len _ _ _ _ hq).symm.trans r2.length |>.symm
  have room : us.length ≤ sizeLine := by
    have := r1.length
    rw [sizeLine_eq]
    omega
  refine wpAny_call (PySem.HandSPX.call_own F.excBase_IndexError (fun Y => by rw [hbm]) (I1.kIn _ _ hC) (PySem.W.looks_findIn I1.kIn iC) (fun self => PySem.W.bind_fn I1.kIn self tI) room
    (codeAny_mono (F1.run _ X.stack _ _ ⟨Value.ref (hp.objs.size + 1) :: us, []⟩ (Value.ref (hp.objs.size + 1) :: (us ++ ds)) _ _ (fun _ _ _ => False) (hr.make C us []) (I2.env0.make C us []) (hb _ (Value.ref (hp.objs.size + 1) :: us) I2.kIn hl) r2 hq) fun r s' back => ?_))
  match r, back with
  | .error er, back => exact hx pins σ _ _ er s' I2 back
  | .ok (.ret u), back =>
    obtain ⟨v, H', I3, rv, ev, q3⟩ := I2.after back
    subst ev
    exact ⟨rv, ⟨V.ref (hp.objs.size + 1), H', I3, rfl, q3⟩⟩
  | .ok .next, back => exact False.elim back
  | .ok .brk, back => exact False.elim back
  | .ok .cont, back => exact False.elim back
theorem pe_exV0 {CX : CXT} {x : Str} {C fI : Addr} {k : Nat} {fd : FuncData} {ps : List Str} {sp : Sp} (T : OexC X.K C) (iC : PySem.W.findIn X.K (.ref C) "__init__" = some (some (.ref fI))) (tI : PySem.W.typeIn X.K (.ref fI) = some (.type "function"))
    (F1 : FnOk X.prog X.w X.K X.mg X.base CX k fI fd ps sp) (hr : Room (k + 1) X.A) (hb : Binds X.K fd ps []) (hx : Passes CX X (fun _ _ _ => False)) (hg : Gl X x) (hm : X.mg x = some (.ref C))
    (hdb : (x == ("__debug__" : Str)) = false := by decide) :
    PE X (.Call (.Name x p) [] [] pos) (tExV C sp [] tNil) := by
  refine ⟨fun pins s σ H1 Q I1 h => ?_⟩
  obtain ⟨nm, q, N, bs, bm, sn, sub, ab, col, dd, k0, k1, k2, k3, k5, hC, hbm⟩ := T.cls
  refine wpAny_Call_Name_kw (ld_glob I1 hg hm ?_ hdb)
  refine PySem.W.callWith_K0 I1.kIn T.kC ?_
  obtain ⟨hp, g, dr, tk, os⟩ := s
  have up : hp.objs.size ≤ hp.objs.size + 1 := Nat.le_succ _
  have hq := h.2 (hp.objs.size + 1) (I1.hok.fresh up)
  have grow : ∀ b o, hp.get? b = some o → ((hp.push (PySem.W.kdv_tup [])).push (PySem.HandSPX.excO C hp.objs.size)).get? b = some o := fun b o z => Heap.get?_push_of_some _ (Heap.get?_push_of_some _ z)
  have made : ((hp.push (PySem.W.kdv_tup [])).push (PySem.HandSPX.excO C hp.objs.size)).get? (hp.objs.size + 1) = some (PySem.HandSPX.excO C hp.objs.size) := by heap_get
  have I2 : Inv X pins σ (upd H1 (hp.objs.size + 1) (exo (hp.objs.size + 1) C none)) ⟨(hp.push (PySem.W.kdv_tup [])).push (PySem.HandSPX.excO C hp.objs.size), g, dr, tk, os⟩ := I1.laid (t' := tk) grow up (exo_ok made)
  have r2 : Vals [V.ref (hp.objs.size + 1)] [Value.ref (hp.objs.size + 1)] := .cons rfl .nil
  have hl : [Value.ref (hp.objs.size + 1)].length = ps.length := (F1.len _ _ _ _ hq).symm.trans r2.length |>.symm
  refine wpAny_call (PySem.HandSPX.call_own F.excBase_ValueError (fun Y => PySem.HandSPX.refsVE_contains Y bm hbm) (I1.kIn _ _ hC) (PySem.W.looks_findIn I1.kIn iC) (fun self => PySem.W.bind_fn I1.kIn self tI) (Nat.zero_le _)
    (codeAny_mono (F1.run _ X.stack _ _ ⟨[Value.ref (hp.objs.size + 1)], []⟩ [Value.ref (hp.objs.size + 1)] _ _ (fun _ _ _ => False) (hr.make C [] []) (I2.env0.make C [] []) (hb _ [Value.ref (hp.objs.size + 1)] I2.kIn hl) r2 hq) fun r s' back => ?_))
  match r, back with
  | .error er, back => exact hx pins σ _ _ er s' I2 back
  | .ok (.ret u), back =>
    obtain ⟨v, H', I3, rv, ev, q3⟩ := I2.after back
    subst ev
    exact ⟨rv, ⟨V.ref (hp.objs.size + 1), H', I3, rfl, q3⟩⟩
  | .ok .next, back => exact False.elim back
  | .ok .brk, back => exact False.elim back
  | .ok .cont, back => exact False.elim back
def tExF (K : PySem.W.Frag) (f : Str) (te : TE) : TE := fun σ H Q => te σ H fun x H1 => ∃ (a C dd : Addr) (fs : List (Str × V)) (v : V), x = .ref a ∧ XfC K C ∧ PySem.W.findIn K (.ref C) f = some none ∧ H1 a = some (exo a C (some dd)) ∧ H1 dd = some (exd dd fs) ∧ fs.lookup f = some v ∧ Q v H1
theorem pe_exF {te : TE} {n : Str} (he : PE X e te) (hb : attributeBase e n X.env (eval e X.env) = eval e X.env := by rfl) :
    PE X (.Attribute e n pos) (tExF X.K n te) := by
  refine ⟨fun pins s σ H Q I h => ?_⟩
  refine attr_of hb (thn (he.run pins s σ H _ I h) fun u s1 hh => ?_)
  obtain ⟨x, H1, I1, rx, a, C, dd, fs, v, ex, T, hno, ea, ed, l, q⟩ := hh
  subst ex
  obtain rfl : u = Value.ref a := rx
  obtain ⟨t1, ho⟩ := exo_at I1.hok ea
  obtain ⟨mA, hns, hr⟩ : ∃ mA, s1.heap.Ns1 dd mA ∧ ∀ f, RelO (fs.lookup f) (mA f) := exd_at I1.hok ed
  obtain ⟨od, hod, hl⟩ := lookIn_ns hns
  obtain ⟨u, hu, ru⟩ := RelO.some_of (v := v) (o := mA n) (by rw [← l]; exact hr n)
  have J : PySem.W.InstAt s1.heap a _ C (some od) := ⟨ho, rfl, rfl, hod⟩
  exact HandSPX.exc_get I1.kIn J T.ga T.gg T.exC (PySem.W.findObj_own T.hdC hno rfl (by rw [hl, hu])) (handed_of ru) ⟨v, H1, I1.tok _, ru, q⟩
end
def rIsV (K : PySem.W.Frag) (D : Addr) : List V → Hp → VK → Prop := fun xs H Q => ∃ (a : Addr) (d : Option Addr) (c : V) (cv : Value) (b : Bool), xs = [.ref a, c] ∧ H a = some (exo a D d) ∧ (∀ dd, d = some dd → ∃ fs, H dd = some (exd dd fs)) ∧ (∀ u, RelV c u → u = cv) ∧ PySem.W.kitOne K (.ref D) cv = some b ∧ Q (.bl b) H
theorem call_isV {X : Cx} {D : Addr} (C : ExcC X.K D) : CallR X (.builtin "isinstance") (rIsV X.K D) := fun pins s σ H xs us Q I r h => by
  obtain ⟨a, d, c, cv, b, rfl, ea, ed, hcv, e, q⟩ := h
  cases r with
  | cons rx r2 =>
    cases r2 with
    | cons rt r3 =>
      cases r3
      cases rx
      obtain rfl := hcv _ rt
      obtain ⟨t1, ho⟩ := exo_at I.hok ea
      have hod : ∃ od : Option Obj, PySem.W.InstAt s.heap a ({ cls := Value.ref D, dict := d, data := Data.fields #[Value.ref t1, Value.none, Value.none, Value.none, Value.bool false, Value.none] } : Obj) D od := by
        cases d with
        | none => exact ⟨none, ho, rfl, rfl, trivial⟩
        | some dd =>
          obtain ⟨fs, hd⟩ := ed dd rfl
          obtain ⟨mA, hns, _⟩ := exd_at I.hok hd
          obtain ⟨od, ho2, _⟩ := lookIn_ns hns
          exact ⟨some od, ho, rfl, rfl, ho2⟩
      obtain ⟨od, J⟩ := hod
      have hcl : (PySem.W.clsIn X.K D).isSome = true := by
        obtain ⟨cd, hc, _⟩ := PySem.W.any_some C.hd
        rw [hc]
        rfl
      exact PySem.W.kia_one (PySem.W.kitx_exc hcl C.hg C.hk C.hs C.ha C.hn C.ht C.hm) I.kIn J e (fun z => nomatch z) fun tk => ⟨.bl b, H, I.kept (t' := tk) fun _ _ z => z, rfl, q⟩
def rIsVt (K : PySem.W.Frag) : List V → Hp → VK → Prop := fun xs H Q => ∃ (a tp D : Addr) (d : Option Addr) (cs : List V) (cvs : List Value) (b : Bool), xs = [.ref a, .ref tp] ∧ ExcC K D ∧ H a = some (exo a D d) ∧ (∀ dd, d = some dd → ∃ fs, H dd = some (exd dd fs)) ∧
  H tp = some (.tup cs) ∧ (∀ us, Vals cs us → us = cvs) ∧ PySem.W.kitAny K (.ref D) cvs = some b ∧ Q (.bl b) H
theorem call_isVt {X : Cx} : CallR X (.builtin "isinstance") (rIsVt X.K) := fun pins s σ H xs us Q I r h => by
  obtain ⟨a, tp, D, d, cs, cvs, b, rfl, C, ea, ed, et, hcv, e, q⟩ := h
  cases r with
  | cons rx r2 =>
    cases r2 with
    | cons rt r3 =>
      cases r3
      cases rx
      cases rt
      obtain ⟨t1, ho⟩ := exo_at I.hok ea
      have hod : ∃ od : Option Obj, PySem.W.InstAt s.heap a ({ cls := Value.ref D, dict := d, data := Data.fields #[Value.ref t1, Value.none, Value.none, Value.none, Value.bool false, Value.none] } : Obj) D od := by
        cases d with
        | none => exact ⟨none, ho, rfl, rfl, trivial⟩
        | some dd =>
          obtain ⟨fs, hd⟩ := ed dd rfl
          obtain ⟨mA, hns, _⟩ := exd_at I.hok hd
          obtain ⟨od, ho2, _⟩ := lookIn_ns hns
          exact ⟨some od, ho, rfl, rfl, ho2⟩
      obtain ⟨od, J⟩ := hod
      have hcl : (PySem.W.clsIn X.K D).isSome = true := by
        obtain ⟨cd, hc, _⟩ := PySem.W.any_some C.hd
        rw [hc]
        rfl
      have hx : ObjOk X.prog X.w H s.heap tp (.tup cs) := I.hok tp _ et
      obtain ⟨_, its, hv, hT⟩ := hx
      obtain rfl := hcv its hv
      obtain ⟨dd, n, sl, hg⟩ : ∃ (dd : Option Addr) (n : Nat) (sl : Array (Option Value)), s.heap.get? tp = some ⟨.type "tuple", dd, .seq its.toArray n, sl⟩ := by
        obtain ⟨⟨cl, di, da, sl⟩, h1, h2, n, h3⟩ := hT
        dsimp only at h2 h3
        subst h2 h3
        exact ⟨di, n, sl, h1⟩
      exact PySem.W.kia_tup (PySem.W.kitx_exc hcl C.hg C.hk C.hs C.ha C.hn C.ht C.hm) I.kIn J hg e (fun z => nomatch z) fun tk => ⟨.bl b, H, I.kept (t' := tk) fun _ _ z => z, rfl, q⟩
end DX
namespace DX
open PySem PySem.Spec PyProof.Rows L2 DK
def pick {α : Type} (π : List Nat) (xs : List α) : List α := π.filterMap fun i => xs[i]?
theorem vals_pick {vs : List V} {us : List Value} (r : Vals vs us) : ∀ π : List Nat, Vals (pick π vs) (pick π us)
  | [] => .nil
  | i :: π => by
    have ih := vals_pick r π
    unfold pick at ih ⊢
    cases e : vs[i]? with
    | none =>
      have hu : us[i]? = none := by
        rw [List.getElem?_eq_none_iff] at e ⊢
        rw [← r.length]
        exact e
      rw [List.filterMap_cons_none e, List.filterMap_cons_none hu]
      exact ih
    | some v =>
      obtain ⟨u, hu, hr⟩ := r.get e
      rw [List.filterMap_cons_some e, List.filterMap_cons_some hu]
      exact .cons hr ih
section
variable {K : PySem.W.Frag} [HasW K] {x qual : Str} {params : Arguments} {body : List Stmt} {scope : Scope} {dvs : List V} {kws : List (Str × V)} {f : Addr} {fd : FuncData} {ps : List Str}
end
def tPerm (π : List Nat) (m : Nat) (tk : TA) : TA := fun σ H Q => tk σ H fun zs H1 => zs.length = m ∧ Q (pick π zs) H1
def mPerm (π : List Nat) (m : Nat) (a : RA) : RA := fun ρ μ => match a ρ μ with
  | some (ws, μ1) => if ws.length = m then some (pick π ws, μ1) else none
  | none => none
section
variable {K : PySem.W.Frag} [HasW K]
theorem repws_pick {G : Hp} {as : List Addr} {ws : List W} {vs : List V} (r : RepWs K G as ws vs) : ∀ π : List Nat, RepWs K G as (pick π ws) (pick π vs)
  | [] => rfl
  | i :: π => by
    have ih := repws_pick r π
    unfold pick at ih ⊢
    cases e : ws[i]? with
    | none =>
      have hu : vs[i]? = none := by
        rw [List.getElem?_eq_none_iff] at e ⊢
        rw [r.length]
        exact e
      rw [List.filterMap_cons_none e, List.filterMap_cons_none hu]
      exact ih
    | some v =>
      obtain ⟨u, hu, hr⟩ := r.get e
      rw [List.filterMap_cons_some e, List.filterMap_cons_some hu]
      exact ⟨_, _, rfl, hr, ih⟩
theorem sn_perm {π : List Nat} {m : Nat} {tk : TA} {a : RA} (ha : SnA K tk a) : SnA K (tPerm π m tk) (mPerm π m a) := fun ρ μ ws μ' h => by
  unfold mPerm at h
  split at h
  · split at h
    · cases h
      exact fun P as σ G H R Q q => ha _ _ _ _ ‹_› P as σ G H R _ fun vs as1 G1 H1 n1 R1 r1 => ⟨by rw [r1.length]; assumption, q _ _ _ _ n1 R1 (repws_pick r1 π)⟩
    · cases h
  · cases h
end
section
variable {X : Cx} {CX : CXT} {k : Nat} {f C : Addr} {fd : FuncData} {ps ks : List Str} {sp : Sp} {E : XK} {x m : Str} {p pos apos : Pos} {o : Expr} {kws : List Keyword} {ta : TE} {tk : TA} {π : List Nat} {nk : Nat}
end
end DX
namespace DX
open PySem PySem.Spec PyProof.Rows L2 DK HandSPX Builtin Builtin.ObjectAttr
section
variable {M : Model} {prog : Program} {w : World} {A : Around} {E : Value → Shared → Prop} {R : Result → Shared → Prop}
variable {h : Heap} {g : Array GenState} {d : Drawn} {t : Nat} {os : OsState} {nm q : Str} {C N : Addr} {bs bm bmB sub : List Value} {hdct ab : Bool} {sn : List Str} {col : Option Bool} {dd : Option Addr} {k0 k1 k2 k3 k5 : Option Value} {B nid iid : String} {kw : List (Str × Value)} {rest : List Value}
theorem chk_newK (F : ExcBaseFacts B nid iid bmB) (hT : ∀ X : String, bm.contains (.type X) = bmB.contains (.type X)) {Q : Unit → Shared → Prop}
    (hC : h.get? C = some (excClassObj nm q C N bs bm hdct sn sub ab col dd k0 k1 k2 k3 k5 nid)) (hq : Q () ⟨h, g, d, t, os⟩) :
    wpAny M A (checkBuiltinCall nid ⟨.ref C :: rest, kw⟩) Q E ⟨h, g, d, t, os⟩ := by
  have c1 : (Value.ref C :: bm).contains (.type B) = true := by
    rw [List.contains_cons, hT, F.hasB]
    simp
  have c2 := F.noStar
  simp only [checkBuiltinCall, F.newKind, F.newSplit, F.newRow]
  repeat (first | refine wpAny_loadPart_at hC ?_ | (refine wpAny_isSubtype_exc hC ?_; rw [c1]) | refine wpAny_staticBase_exc hC ?_ | refine wpAny_madeBy_exc hC ?_ | simp only [bne_self_eq_false, Bool.false_eq_true, if_false] | wp_step)
  exact hq
theorem newK (F : ExcBaseFacts B nid iid bmB) (hT : ∀ X : String, bm.contains (.type X) = bmB.contains (.type X))
    (hC : h.get? C = some (excClassObj nm q C N bs bm hdct sn sub ab col dd k0 k1 k2 k3 k5 nid)) (hr : rest.length ≤ sizeLine)
    (hq : R (.ok (.ret (.ref (h.objs.size + 1)))) ⟨(h.push (PySem.W.kdv_tup rest)).push (excO C h.objs.size), g, d, t, os⟩) :
    codeAny (model prog w) A (.builtin nid ⟨.ref C :: rest, kw⟩) R ⟨h, g, d, t, os⟩ := by
  have c0 := F.ends
  have c1 : (Value.ref C :: bm).contains (.type B) = true := by
    rw [List.contains_cons, hT, F.hasB]
    simp
  have c2 : (Value.ref C :: bm).contains (.type "AttributeError") = false := by
    rw [List.contains_cons, hT, F.noAttr]
    rfl
  have c3 : (Value.ref C :: bm).contains (.type "NameError") = false := by
    rw [List.contains_cons, hT, F.noName]
    rfl
  refine codeAny_builtinAt F.entry ?_
  unfold Builtin.«BaseException.__new__»
  refine PySem.wpAt_bind ?_
  show PySem.wpAt _ _ _ (stack >>= _) _ _ _
  refine PySem.wpAt_bind (PySem.wpAt_stack fun p below => PySem.wpAt_of_wpAny ?_)
  wp_walk
  refine PySem.wpAt_of_wpAny ?_
  rw [F.owner]
  repeat (first | with_reducible refine wpAny_madeHere_exc F.canon hC ?_ | with_reducible refine wpAny_loadPart_at hC ?_ | (with_reducible refine wpAny_isSubtype_exc hC ?_; first | rw [c1] | rw [c2] | rw [c3]) | wp_step)
  show R _ _
  rw [Heap.size_push]
  exact hq
theorem tcallK (F : ExcBaseFacts B nid iid bmB) (hT : ∀ X : String, bm.contains (.type X) = bmB.contains (.type X)) {fI : Addr} {Q : PySem.Fin → Shared → Prop}
    (hC : h.get? C = some (excClassObj nm q C N bs bm hdct sn sub ab col dd k0 k1 k2 k3 k5 nid)) (hi : PySem.W.Looks (model prog w) h (typeLookup (.ref C) "__init__") (some (.ref fI)))
    (hb : ∀ self, PySem.W.Looks (model prog w) h (bindSpecial (.ref fI) self) (.ref fI, [self])) (hr : rest.length ≤ sizeLine)
    (hq : codeAny (model prog w) A (.call (.ref fI) ⟨.ref (h.objs.size + 1) :: rest, kw⟩)
      (fun r s' => match r with | .ok (.ret v) => v = .none ∧ Q (.done (.ret (.ref (h.objs.size + 1)))) s' | .ok _ => False | .error e => E e s') ⟨(h.push (PySem.W.kdv_tup rest)).push (excO C h.objs.size), g, d, t, os⟩) :
    wpAny (model prog w) A (Builtin.«type.__call__» ⟨.ref C :: rest, kw⟩) Q E ⟨h, g, d, t, os⟩ := by
  repeat (first | with_reducible refine wpAny_loadPart_at hC ?_ | with_reducible refine wpAny_madeBy_exc hC ?_ | wp_step)
  refine codeAny_call_builtin_code (Code.quiet_builtin _ F.quiet) (chk_newK F hT hC (newK F hT hC hr ?_))
  show wpAny _ _ _ _ _ _
  have grow : ∀ b o, h.get? b = some o → ((h.push (PySem.W.kdv_tup rest)).push (excO C h.objs.size)).get? b = some o := fun b o e => Heap.get?_push_of_some _ (Heap.get?_push_of_some _ e)
  have cC := grow _ _ hC
  have cx : ((h.push (PySem.W.kdv_tup rest)).push (excO C h.objs.size)).get? (h.objs.size + 1) = some (excO C h.objs.size) := by heap_get
  have cc : (Value.ref C :: bm).contains (.ref C) = true := by simp
  have ki := hi.keeps grow
  have kb := (hb (.ref (h.objs.size + 1))).keeps grow
  unfold isInstance
  repeat (first | with_reducible refine wpAny_loadPart_at cx ?_ | (with_reducible refine wpAny_isSubtype_exc cC ?_; rw [cc]) | wp_step)
  show wpAny _ _ (typeLookup (.ref C) _) _ _ _
  refine ki.at (wpAny_holding (wpAny_bind (kb.at (wpAny_bind (wpAny_call (codeAny_mono hq fun r s' z => ?_))))))
  rcases r with e | (v | _ | _ | _) <;> first | exact z | exact z.elim | skip
  obtain ⟨rfl, z⟩ := z
  first
    | exact wpAny_pure (wpAny_pure z)
    | (wp_walk; exact z)
theorem callK (F : ExcBaseFacts B nid iid bmB) (hT : ∀ X : String, bm.contains (.type X) = bmB.contains (.type X)) {fI : Addr}
    (hC : h.get? C = some (excClassObj nm q C N bs bm hdct sn sub ab col dd k0 k1 k2 k3 k5 nid)) (hi : PySem.W.Looks (model prog w) h (typeLookup (.ref C) "__init__") (some (.ref fI)))
    (hb : ∀ self, PySem.W.Looks (model prog w) h (bindSpecial (.ref fI) self) (.ref fI, [self])) (hr : rest.length ≤ sizeLine)
    (hq : codeAny (model prog w) (A.under (.builtin "type.__call__" ⟨.ref C :: rest, kw⟩)) (.call (.ref fI) ⟨.ref (h.objs.size + 1) :: rest, kw⟩) (PySem.W.InitBack (h.objs.size + 1) R) ⟨(h.push (PySem.W.kdv_tup rest)).push (excO C h.objs.size), g, d, t, os⟩) :
    codeAny (model prog w) A (.call (.ref C) ⟨rest, kw⟩) R ⟨h, g, d, t, os⟩ := by
  have f1 := tc_lookup
  have f2 := tc_bind (.ref C)
  have hTy : (⟨h, g, d, t, os⟩ : Shared).TypeIs (.ref C) "type" := ⟨_, hC, rfl⟩
  refine codeAny_of_tree ?_
  show wpAny _ _ (callAny (.ref C) _) _ _ _
  repeat (any_goals (first | assumption | with_reducible refine wpAny_loadPart_at hC ?_ | wp_step))
  refine ⟨rfl, codeAny_call_builtin_at (Code.quiet_builtin _ (by decide +kernel)) entry_typeCall (wpAny_check_type_call_sub hC (tcallK F hT hC hi hb hr ?_))⟩
  refine codeAny_mono hq fun r s' z => ?_
  rcases r with e | (v | _ | _ | _) <;> exact z
end
section
variable {X : Cx} {p pos : Pos}
theorem pe_exVK {CX : CXT} {x : Str} {C fI : Addr} {k nk : Nat} {fd : FuncData} {ps ks : List Str} {sp : Sp} {π : List Nat} {kws : List Keyword} {tk : TA} (T : OexC X.K C) (iC : PySem.W.findIn X.K (.ref C) "__init__" = some (some (.ref fI)))
    (tI : PySem.W.typeIn X.K (.ref fI) = some (.type "function")) (F1 : FnOk X.prog X.w X.K X.mg X.base CX k fI fd ps sp) (hr : Room (k + 1) X.A) (hb : KBn X.K fd ps 1 ks (fun us ws => us ++ pick π ws) (fun vs zs => vs ++ pick π zs))
    (hx : Passes CX X (fun _ _ _ => False)) (hg : Gl X x) (hm : X.mg x = some (.ref C)) (hkw : PK X kws tk) (hnk : ks.length = nk := by rfl) (hall : (backToKw pos (keywordEach kws X.env)).all (·.1.isSome) = true := by rfl)
    (hks : (backToKw pos (keywordEach kws X.env)).filterMap (·.1) = ks := by rfl) (hdb : (x == ("__debug__" : Str)) = false := by decide)
    (hpl : ((backTo pos (starEach [] X.env)).any (·.1) || (backToKw pos (keywordEach kws X.env)).any (·.1.isNone)) = false := by rfl) :
    PE X (.Call (.Name x p) [] kws pos) (tExV C sp [] (tPerm π nk tk)) := by
  refine ⟨fun pins s σ H Q I h => ?_⟩
  obtain ⟨nm, q, N, bs, bm, sn, sub, ab, col, dd, k0, k1, k2, k3, k5, hC, hbm⟩ := T.cls
  refine wpAny_Call_Name_kw (ld_glob I hg hm ?_ hdb)
  refine PySem.W.callWith_KW0 (h₀ := X.base) I.ok.mod.kin T.kC hall ?_ hpl
  refine thn (hkw.run pos pins s σ H _ I h) fun ws s1 ⟨zs, H1, I1, rz, l2, hz, q1⟩ => ⟨I1.kIn, ?_⟩
  rw [hks]
  obtain ⟨hp, g, dr, tk, os⟩ := s1
  have up : hp.objs.size ≤ hp.objs.size + 1 := Nat.le_succ _
  have hq := q1 (hp.objs.size + 1) (I1.hok.fresh up)
  rw [List.append_nil] at hq
  have grow : ∀ b o, hp.get? b = some o → ((hp.push (PySem.W.kdv_tup [])).push (PySem.HandSPX.excO C hp.objs.size)).get? b = some o := fun b o z => Heap.get?_push_of_some _ (Heap.get?_push_of_some _ z)
  have made : ((hp.push (PySem.W.kdv_tup [])).push (PySem.HandSPX.excO C hp.objs.size)).get? (hp.objs.size + 1) = some (PySem.HandSPX.excO C hp.objs.size) := by heap_get
  have I2 : Inv X pins σ (upd H1 (hp.objs.size + 1) (exo (hp.objs.size + 1) C none)) ⟨(hp.push (PySem.W.kdv_tup [])).push (PySem.HandSPX.excO C hp.objs.size), g, dr, tk, os⟩ := I1.laid (t' := tk) grow up (exo_ok made)
  have r2 := hb.rel (vs := [V.ref (hp.objs.size + 1)]) (us := [Value.ref (hp.objs.size + 1)]) (.cons rfl .nil) rz
  refine wpAny_call (callK F.excBase_ValueError (fun Y => PySem.HandSPX.refsVE_contains Y bm hbm) (I1.kIn _ _ hC) (PySem.W.looks_findIn I1.kIn iC) (fun self => PySem.W.bind_fn I1.kIn self tI) (Nat.zero_le _)
    (codeAny_mono (F1.run _ X.stack _ _ ⟨[Value.ref (hp.objs.size + 1)], ks.zip ws⟩ _ _ _ (fun _ _ _ => False) (hr.make C [] (ks.zip ws)) (I2.env0.make C [] (ks.zip ws)) (hb.to _ [Value.ref (hp.objs.size + 1)] ws I2.kIn rfl (rz.length.symm.trans (l2.trans hnk.symm))) r2 hq) fun r s' back => ?_))
  match r, back with
  | .error er, back => exact hx pins σ _ _ er s' I2 back
  | .ok (.ret u), back =>
    obtain ⟨v, H', I3, rv, ev, q3⟩ := I2.after back
    subst ev
    exact ⟨rv, ⟨V.ref (hp.objs.size + 1), H', I3, rfl, q3⟩⟩
  | .ok .next, back => exact False.elim back
  | .ok .brk, back => exact False.elim back
  | .ok .cont, back => exact False.elim back
theorem pe_exVKI {CX : CXT} {x : Str} {C fI : Addr} {k nk : Nat} {fd : FuncData} {ps ks : List Str} {sp : Sp} {π : List Nat} {kws : List Keyword} {tk : TA} (T : OexI X.K C) (iC : PySem.W.findIn X.K (.ref C) "__init__" = some (some (.ref fI)))
    (tI : PySem.W.typeIn X.K (.ref fI) = some (.type "function")) (F1 : FnOk X.prog X.w X.K X.mg X.base CX k fI fd ps sp) (hr : Room (k + 1) X.A) (hb : KBn X.K fd ps 1 ks (fun us ws => us ++ pick π ws) (fun vs zs => vs ++ pick π zs))
    (hx : Passes CX X (fun _ _ _ => False)) (hg : Gl X x) (hm : X.mg x = some (.ref C)) (hkw : PK X kws tk) (hnk : ks.length = nk := by rfl) (hall : (backToKw pos (keywordEach kws X.env)).all (·.1.isSome) = true := by rfl)
    (hks : (backToKw pos (keywordEach kws X.env)).filterMap (·.1) = ks := by rfl) (hdb : (x == ("__debug__" : Str)) = false := by decide)
    (hpl : ((backTo pos (starEach [] X.env)).any (·.1) || (backToKw pos (keywordEach kws X.env)).any (·.1.isNone)) = false := by rfl) :
    PE X (.Call (.Name x p) [] kws pos) (tExV C sp [] (tPerm π nk tk)) := by
  refine ⟨fun pins s σ H Q I h => ?_⟩
  obtain ⟨nm, q, N, bs, bm, sn, sub, ab, col, dd, k0, k1, k2, k3, k5, hC, hbm⟩ := T.cls
  refine wpAny_Call_Name_kw (ld_glob I hg hm ?_ hdb)
  refine PySem.W.callWith_KW0 (h₀ := X.base) I.ok.mod.kin T.kC hall ?_ hpl
  refine thn (hkw.run pos pins s σ H _ I h) fun ws s1 ⟨zs, H1, I1, rz, l2, hz, q1⟩ => ⟨I1.kIn, ?_⟩
  rw [hks]
  obtain ⟨hp, g, dr, tk, os⟩ := s1
  have up : hp.objs.size ≤ hp.objs.size + 1 := Nat.le_succ _
  have hq := q1 (hp.objs.size + 1) (I1.hok.fresh up)
  rw [List.append_nil] at hq
  have grow : ∀ b o, hp.get? b = some o → ((hp.push (PySem.W.kdv_tup [])).push (PySem.HandSPX.excO C hp.objs.size)).get? b = some o := fun b o z => Heap.get?_push_of_some _ (Heap.get?_push_of_some _ z)
  have made : ((hp.push (PySem.W.kdv_tup [])).push (PySem.HandSPX.excO C hp.objs.size)).get? (hp.objs.size + 1) = some (PySem.HandSPX.excO C hp.objs.size) := by heap_get
  have I2 : Inv X pins σ (upd H1 (hp.objs.size + 1) (exo (hp.objs.size + 1) C none)) ⟨(hp.push (PySem.W.kdv_tup [])).push (PySem.HandSPX.excO C hp.objs.size), g, dr, tk, os⟩ := I1.laid (t' := tk) grow up (exo_ok made)
  have r2 := hb.rel (vs := [V.ref (hp.objs.size + 1)]) (us := [Value.ref (hp.objs.size + 1)]) (.cons rfl .nil) rz
  refine wpAny_call (callK F.excBase_IndexError (fun Y => by rw [hbm]) (I1.kIn _ _ hC) (PySem.W.looks_findIn I1.kIn iC) (fun self => PySem.W.bind_fn I1.kIn self tI) (Nat.zero_le _)
    (codeAny_mono (F1.run _ X.stack _ _ ⟨[Value.ref (hp.objs.size + 1)], ks.zip ws⟩ _ _ _ (fun _ _ _ => False) (hr.make C [] (ks.zip ws)) (I2.env0.make C [] (ks.zip ws)) (hb.to _ [Value.ref (hp.objs.size + 1)] ws I2.kIn rfl (rz.length.symm.trans (l2.trans hnk.symm))) r2 hq) fun r s' back => ?_))
  match r, back with
  | .error er, back => exact hx pins σ _ _ er s' I2 back
  | .ok (.ret u), back =>
    obtain ⟨v, H', I3, rv, ev, q3⟩ := I2.after back
    subst ev
    exact ⟨rv, ⟨V.ref (hp.objs.size + 1), H', I3, rfl, q3⟩⟩
  | .ok .next, back => exact False.elim back
  | .ok .brk, back => exact False.elim back
  | .ok .cont, back => exact False.elim back
end
end DX
namespace DX
open PySem PySem.Spec PyProof.Rows L2 DK
theorem exd_tbl {e : Addr} {fs : List (Str × V)} {ps : Array Value} : exd e fs ≠ .tbl ps := fun z => by
  have z' : HO.ext _ = HO.tbl ps := z
  cases z'
theorem upd_back {H : Hp} {a dx : Addr} {o1 o2 e : HO} : upd (upd (upd H a o1) dx e) a o2 = upd (upd H dx e) a o2 := by
  funext b
  by_cases q : b = a
  · rw [q, upd_same, upd_same]
  · rw [upd_ne q, upd_ne q]
    by_cases q2 : b = dx
    · rw [q2, upd_same, upd_same]
    · rw [upd_ne q2, upd_ne q2, upd_ne q]
theorem kbnS {K : PySem.W.Frag} [HasW K] {file : Str} {D : Addr} {x qual : Str} {params : Arguments} {body : List Stmt} {scope : Scope} {f : Addr} {fd : FuncData} {ps : List Str} (F : FunS K file D x qual params body scope f fd) (n : Nat) (ks : List Str) (π : List Nat)
    (h : ∀ (kV doc pm ct : Value) (an : Option Addr) (cc cda : Addr) (us ws : List Value), us.length = n → ws.length = ks.length → bindArgs (PySem.W.ksFn x qual params body scope .none kV doc pm an (.ref cda) ct cc) ⟨us, ks.zip ws⟩ = pure (ps.zip (us ++ pick π ws))) :
    KBn K fd ps n ks (fun us ws => us ++ pick π ws) (fun vs zs => vs ++ pick π zs) := by
  obtain ⟨cc, cda, kV, doc, pm, ct, an, rfl, _, _⟩ := F.ex
  exact ⟨fun s us ws X l1 l2 => .of_eq (h kV doc pm ct an cc cda us ws l1 l2), fun r1 r2 => r1.append (vals_pick r2 π)⟩
section
variable {K : PySem.W.Frag} [HasW K]
def mExV (c f : Str) (r : RA) : RE := fun ρ μ => match r ρ μ with
  | some ([w], μ1) => if w.below μ1.length = true then some (.loc μ1.length, μ1 ++ [.exW c [(f, w)]]) else none
  | _ => none
theorem W.below_succ {n : Nat} {w : W} (h : w.below n = true) : w.below (n + 1) = true := by
  cases w with
  | val d => rfl
  | loc j => exact decide_eq_true (Nat.lt_succ_of_lt (of_decide_eq_true h))
theorem sn_exV {c f : Str} {tr : TA} {r : RA} (hr : SnA K tr r) : SnE K (tExV (He.ga K c) (spXI K (He.ga K c) f) [] tr) (mExV c f r) := fun ρ μ w μ' h => by
  unfold mExV at h
  split at h
  · rename_i w0 μ1 e
    split at h
    · rename_i hc
      cases h
      exact fun P as σ G H R Q q => hr _ _ _ _ e P as σ G H R _ fun vs as1 G1 H1 n1 R1 r1 => by
        obtain ⟨v, r0, rfl, rv, rfl⟩ := r1
        refine ⟨by simp, fun a ha => ⟨a, v, rfl, upd_same, fun dx hdx ne => ⟨rfl, ?_⟩⟩⟩
        rw [upd_back]
        rw [upd_ne ne] at hdx
        obtain ⟨R2, n2⟩ := R1.imm hdx (exd dx [(f, v)]) (fun ps => exd_tbl)
        have ha2 : upd H1 dx (exd dx [(f, v)]) a = none := by rw [upd_ne (Ne.symm ne)]; exact ha
        have hs := (R2.imm ha2 (exo a (He.ga K c) (some dx)) (fun ps => exo_tbl)).2.gr
        obtain ⟨R3, n3⟩ := R2.mutI ha2 (o := exo a (He.ga K c) (some dx)) (m := .exW c [(f, w0)]) ⟨some dx, [(f, v)], upd_same, .inr ⟨dx, rfl, by rw [upd_ne ne, upd_same]⟩, v, [], rfl, (rv.mono n2.gr ⟨[], by simp⟩).mono hs ⟨[a], rfl⟩, rfl⟩
          (by simp [MO.below, W.below_succ hc]) (fun ps => exo_tbl)
        refine q _ _ _ _ ((n1.trans n2).trans n3) R3 ⟨a, ?_, rfl⟩
        rw [← R1.len, List.getElem?_append_right (Nat.le_refl _)]
        simp
    · cases h
  · cases h
def mExV0 (c : Str) : RE := fun _ μ => some (.loc μ.length, μ ++ [.exW c []])
theorem sn_exV0 {c : Str} : SnE K (tExV (He.ga K c) (spXN (He.ga K c)) [] tNil) (mExV0 c) := fun ρ μ w μ' h => by
  cases h
  exact fun P as σ G H R Q q => ⟨by simp, fun a ha => by
    have hs := (R.imm ha (exo a (He.ga K c) none) (fun ps => exo_tbl)).2.gr
    obtain ⟨R3, n3⟩ := R.mutI ha (o := exo a (He.ga K c) none) (m := .exW c []) ⟨none, [], upd_same, .inl ⟨rfl, rfl⟩, rfl⟩ rfl (fun ps => exo_tbl)
    refine ⟨a, rfl, upd_same, rfl, ?_⟩
    refine q _ _ _ _ n3 R3 ⟨a, ?_, rfl⟩
    rw [← R.len, List.getElem?_append_right (Nat.le_refl _)]
    simp⟩
def mExvF (cs : List Str) (f : Str) (r : RE) : RE := fun ρ μ => match r ρ μ with
  | some (.loc j, μ1) => match μ1[j]? with
    | some (.exW c fs) => if cs.contains c = true then (match fs with | [(g, w)] => if g = f then some (w, μ1) else none | _ => none) else none
    | _ => none
  | _ => none
theorem sn_exvF {cs : List Str} {f : Str} {te : TE} {r : RE} (hc : ∀ c ∈ cs, XfC K (He.ga K c) ∧ PySem.W.findIn K (.ref (He.ga K c)) f = some none) (hr : SnE K te r) : SnE K (tExF K f te) (mExvF cs f r) := fun ρ μ w μ' h => by
  unfold mExvF at h
  split at h
  · rename_i j μ1 e
    split at h
    · rename_i c fs hm
      split at h
      · rename_i hin
        split at h
        · rename_i g w0
          split at h
          · rename_i hg
            cases h
            subst hg
            exact fun P as σ G H R Q q => hr _ _ _ _ e P as σ G H R _ fun v as1 G1 H1 n1 R1 r1 => by
              obtain ⟨a, ha, rfl⟩ := r1
              obtain ⟨d, vs, hG, hd, v1, t1, rfl, rv, rfl⟩ := R1.mu j a _ ha hm
              rcases hd with ⟨_, z⟩ | ⟨dd, rfl, hdd⟩
              · cases z
              · obtain ⟨x1, x2⟩ := hc c (by simpa using hin)
                exact ⟨a, He.ga K c, dd, _, v1, rfl, x1, x2, R1.sub _ _ hG, R1.sub _ _ hdd, by simp [List.lookup], q _ _ _ _ n1 R1 rv⟩
          · cases h
        · cases h
      · cases h
    · cases h
  · cases h
theorem mem_of_lookup {c : Str} {b : Bool} : ∀ {l : List (Str × Bool)}, l.lookup c = some b → (c, b) ∈ l
  | [], h => by cases h
  | (d, e) :: l, h => by
    rw [List.lookup_cons] at h
    by_cases q : (c == d) = true
    · rw [q] at h
      cases h
      rw [eq_of_beq q]
      exact List.mem_cons_self
    · rw [Bool.not_eq_true] at q
      rw [q] at h
      exact List.mem_cons_of_mem _ (mem_of_lookup h)
def rIsVs (K : PySem.W.Frag) : List V → Hp → VK → Prop := fun xs H Q => ∃ D, ExcC K D ∧ rIsV K D xs H Q
theorem call_isVs {X : Cx} : CallR X (.builtin "isinstance") (rIsVs X.K) := fun pins s σ H xs us Q I r h => by
  obtain ⟨D, C, h⟩ := h
  exact call_isV C pins s σ H xs us Q I r h
def mExIs (tbl : List (Str × Bool)) (r : RE) : RE := fun ρ μ => match r ρ μ with
  | some (.loc j, μ1) => match μ1[j]? with
    | some (.exW c _) => match tbl.lookup c with
      | some b => some (.val (.bl b), μ1)
      | none => none
    | _ => none
  | _ => none
theorem sn_exIs {tbl : List (Str × Bool)} {cV : V} {cv : Value} {te : TE} {r : RE} (hcv : ∀ u, RelV cV u → u = cv) (hk : ∀ c b, (c, b) ∈ tbl → ExcC K (He.ga K c) ∧ PySem.W.kitOne K (.ref (He.ga K c)) cv = some b) (hr : SnE K te r) :
    SnE K (tCB (rIsVs K) (tCons te (tCons (tC cV) tNil))) (mExIs tbl r) := fun ρ μ w μ' h => by
  unfold mExIs at h
  split at h
  · rename_i j μ1 e
    split at h
    · rename_i c fs hm
      split at h
      · rename_i b hb
        cases h
        exact fun P as σ G H R Q q => hr _ _ _ _ e P as σ G H R _ fun v as1 G1 H1 n1 R1 r1 => by
          obtain ⟨a, ha, rfl⟩ := r1
          obtain ⟨d, vs, hG, hd, _⟩ := R1.mu j a _ ha hm
          obtain ⟨x1, x2⟩ := hk c b (mem_of_lookup hb)
          refine ⟨He.ga K c, x1, a, d, cV, cv, b, rfl, R1.sub _ _ hG, fun dd e1 => ?_, hcv, x2, q _ _ _ _ n1 R1 rfl⟩
          rcases hd with ⟨z, _⟩ | ⟨d2, z, hdd⟩
          · rw [z] at e1
            cases e1
          · rw [z] at e1
            cases e1
            exact ⟨vs, R1.sub _ _ hdd⟩
      · cases h
    · cases h
  · cases h
theorem sn_exIsT {tbl : List (Str × Bool)} {c1 c2 : V} {v1 v2 : Value} {te : TE} {r : RE} (h1 : ∀ u, RelV c1 u → u = v1) (h2 : ∀ u, RelV c2 u → u = v2) (hk : ∀ c b, (c, b) ∈ tbl → ExcC K (He.ga K c) ∧ PySem.W.kitAny K (.ref (He.ga K c)) [v1, v2] = some b) (hr : SnE K te r) :
    SnE K (tCB (rIsVt K) (tCons te (tCons (tTup (tCons (tC c1) (tCons (tC c2) tNil))) tNil))) (mExIs tbl r) := fun ρ μ w μ' h => by
  unfold mExIs at h
  split at h
  · rename_i j μ1 e
    split at h
    · rename_i c fs hm
      split at h
      · rename_i b hb
        cases h
        exact fun P as σ G H R Q q => hr _ _ _ _ e P as σ G H R _ fun v as1 G1 H1 n1 R1 r1 => by
          obtain ⟨a, ha, rfl⟩ := r1
          obtain ⟨d, vs, hG, hd, _⟩ := R1.mu j a _ ha hm
          obtain ⟨x1, x2⟩ := hk c b (mem_of_lookup hb)
          refine ⟨by rw [sizeLine_eq]; simp, fun p hp => ?_⟩
          obtain ⟨R2, n2⟩ := R1.imm hp (.tup [c1, c2])
          refine ⟨a, p, He.ga K c, d, [c1, c2], [v1, v2], b, rfl, x1, R2.sub _ _ (n2.gr _ _ hG), fun dd e1 => ?_, upd_same, fun us r => ?_, x2, q _ _ _ _ (n1.trans n2) R2 rfl⟩
          · rcases hd with ⟨z, _⟩ | ⟨d2, z, hdd⟩
            · rw [z] at e1
              cases e1
            · rw [z] at e1
              cases e1
              exact ⟨vs, R2.sub _ _ (n2.gr _ _ hdd)⟩
          · cases r with
            | cons ra r2 =>
              cases r2 with
              | cons rb r3 =>
                cases r3
                rw [h1 _ ra, h2 _ rb]
      · cases h
    · cases h
  · cases h
end
end DX
namespace DX
open PySem PySem.Spec PyProof.Rows L2 DK
variable {K : PySem.W.Frag} [HasW K] {ρ : Env'} {μ : Mu}
def cO (s : Str) : Prop := ∀ c ∈ s.cps.toList, c < 0x110000
theorem cO.all {s : Str} (h : cO s) : s.cps.all (· < 0x110000) = true := by
  rw [Array.all_eq_true_iff_forall_mem]
  intro c hc
  exact decide_eq_true (h c (by simpa using hc))
theorem cO.of {s : Str} (h : s.cps.all (· < 0x110000) = true) : cO s := fun c hc => by
  have := Array.all_eq_true_iff_forall_mem.mp h c (by simpa using hc)
  simpa using this
theorem cO.app {a b : Str} (ha : cO a) (hb : cO b) : cO (a ++ b) := fun c hc => by
  rw [show (a ++ b).cps = a.cps ++ b.cps from rfl, Array.toList_append, List.mem_append] at hc
  exact hc.elim (ha c) (hb c)
theorem charLt (c : Char) : c.toNat < 0x110000 := by
  have := c.valid
  rcases this with h | ⟨_, h⟩
  · exact Nat.lt_trans h (by decide)
  · exact h
theorem cO.ofS (s : String) : cO (Str.ofString s) := fun c hc => by
  rw [Str.ofString_eq_toList] at hc
  simp only [List.mem_map] at hc
  obtain ⟨q, -, rfl⟩ := hc
  exact charLt q
theorem reprChar_lt {q c : Nat} (hc : c < 0x110000) : ∀ x ∈ Builtin.Str.reprChar q c, x < 0x110000 := by
  have hx : ∀ w, ∀ x ∈ (List.replicate (w - ((Nat.toDigits 16 c).map Char.toNat).length) 48 ++ (Nat.toDigits 16 c).map Char.toNat), x < 0x110000 := fun w x h => by
    rcases List.mem_append.mp h with h | h
    · rw [(List.mem_replicate.mp h).2]; decide
    · obtain ⟨k, -, rfl⟩ := List.mem_map.mp h
      exact charLt k
  unfold Builtin.Str.reprChar
  dsimp only
  intro x h
  split at h
  · rcases List.mem_cons.mp h with rfl | h
    · decide
    · rcases List.mem_cons.mp h with rfl | h
      · exact hc
      · cases h
  · split at h
    · rcases List.mem_cons.mp h with rfl | h
      · decide
      · rcases List.mem_cons.mp h with rfl | h
        · decide
        · cases h
    · split at h
      · rcases List.mem_cons.mp h with rfl | h
        · decide
        · rcases List.mem_cons.mp h with rfl | h
          · decide
          · cases h
      · split at h
        · rcases List.mem_cons.mp h with rfl | h
          · decide
          · rcases List.mem_cons.mp h with rfl | h
            · decide
            · cases h
        · split at h
          · rcases List.mem_cons.mp h with rfl | h
            · exact hc
            · cases h
          · have two : ∀ {a b : Nat} {l : List Nat}, a < 0x110000 → b < 0x110000 → (∀ y ∈ l, y < 0x110000) → x ∈ [a, b] ++ l → x < 0x110000 := fun ha hb hl h => by
              rcases List.mem_append.mp h with h | h
              · rcases List.mem_cons.mp h with rfl | h
                · exact ha
                · rcases List.mem_cons.mp h with rfl | h
                  · exact hb
                  · cases h
              · exact hl x h
            split at h
            · exact two (by decide) (by decide) (hx 2) h
            · split at h
              · exact two (by decide) (by decide) (hx 4) h
              · exact two (by decide) (by decide) (hx 8) h
theorem foldl_cO (q : Nat) : ∀ (l : List Nat) (acc : Array Nat), (∀ c ∈ l, c < 0x110000) → (∀ c ∈ acc.toList, c < 0x110000) → ∀ c ∈ (l.foldl (fun out c => out ++ (Builtin.Str.reprChar q c).toArray) acc).toList, c < 0x110000
  | [], acc, _, h => h
  | c :: r, acc, h, ha => foldl_cO q r _ (fun d hd => h d (List.mem_cons_of_mem _ hd)) fun d hd => by
    rw [Array.toList_append, List.mem_append] at hd
    rcases hd with hd | hd
    · exact ha d hd
    · exact reprChar_lt (h c (List.mem_cons_self ..)) d (by simpa using hd)
theorem quote_lt {x : Str} : reprQuote x < 0x110000 := by
  unfold reprQuote
  split <;> decide
theorem cO.repr {s : Str} (h : cO s) : cO (reprText s) := fun c hc => by
  unfold reprText at hc
  dsimp only at hc
  rw [Array.toList_push, List.mem_append, ← Array.foldl_toList] at hc
  rcases hc with hc | hc
  · refine foldl_cO _ _ _ h (fun d hd => ?_) c hc
    have : d = reprQuote s := by simpa using hd
    rw [this]
    exact quote_lt
  · have : c = reprQuote s := by simpa using hc
    rw [this]
    exact quote_lt
theorem textFrom_cO : ∀ (ts : List Str) (k : Nat) (acc : Str), cO acc → (∀ t ∈ ts, cO t) → cO (textFrom k acc ts)
  | [], _, _, h, _ => h
  | t :: ts, k, acc, h, ht => textFrom_cO ts (k + 1) _ ((h.app (cO.ofS _)).app (ht t (List.mem_cons_self ..))) fun d hd => ht d (List.mem_cons_of_mem _ hd)
theorem join_cO {y : Str} (hy : cO y) : ∀ {ts : List Str}, (∀ t ∈ ts, cO t) → cO (Str.join y ts)
  | [], _ => fun c hc => by cases hc
  | [x], h => h x (List.mem_cons_self ..)
  | x :: z :: r, h => ((h x (List.mem_cons_self ..)).app hy).app (join_cO hy (ts := z :: r) fun d hd => h d (List.mem_cons_of_mem _ hd))
mutual
theorem shown_cO : ∀ d : D, strsIn d = true → cO (toPy d).shown
  | .non, _ => cO.ofS "None"
  | .bl b, _ => by cases b <;> exact cO.ofS _
  | .int i, _ => cO.ofS (toString i)
  | .str s, h => (cO.of h).repr
  | .tup xs, h => ((cO.ofS "(").app (join_cO (cO.ofS ", ") (shown_cOL xs h))).app (cO.ofS _)
  | .lst xs, h => (textFrom_cO _ _ _ (cO.ofS "[") (shown_cOL xs h)).app (cO.ofS "]")
  | .obj _ _ _, _ => cO.ofS "None"
  | .ty _, _ => cO.ofS "None"
  | .cls _, _ => cO.ofS "None"
  | .scr _, _ => cO.ofS "None"
theorem shown_cOL : ∀ l : List D, strsInL l = true → ∀ t ∈ PyData.shownAll (toPyL l), cO t
  | [], _ => fun t h => by cases h
  | x :: xs, h => fun t ht => by
    obtain ⟨h1, h2⟩ := Bool.and_eq_true_iff.mp (show (strsIn x && strsInL xs) = true from h)
    rcases List.mem_cons.mp ht with rfl | ht
    · exact shown_cO x h1
    · exact shown_cOL xs h2 t ht
end
end DX
namespace DX
open PySem PySem.Spec PyProof.Rows L2 DK
variable {K : PySem.W.Frag} [HasW K] {ρ : Env'} {μ : Mu}
end DX
namespace DX
open PySem PySem.Spec PyProof.Rows L2 DK
variable {K : PySem.W.Frag} [HasW K]
mutual
def nlD : D → Bool
  | .lst _ => false
  | .scr _ => false
  | .tup xs => nlL xs
  | .obj _ _ xs => nlL xs
  | _ => true
def nlL : List D → Bool
  | [] => true
  | x :: xs => nlD x && nlL xs
end
section
variable {G G3 G4 : Hp}
mutual
theorem nl_rep (h : ∀ a o, G3 a = some o → (∀ vs, o ≠ .lst vs) → G4 a = some o) : ∀ (d : D) (v : V), nlD d = true → Rep K G3 d v → Rep K G4 d v
  | .non, _, _, r => r
  | .bl _, _, _, r => r
  | .int _, _, _, r => r
  | .str _, _, _, r => r
  | .tup xs, _, k, ⟨z, a, vs, e, g, r⟩ => ⟨z, a, vs, e, by
      rcases g with (g | ⟨o, g⟩) | g
      · exact .inl (.inl (h _ _ g (fun _ e => by cases e)))
      · exact .inl (.inr ⟨o, h _ _ g (fun _ e => by cases e)⟩)
      · exact .inr g, nl_repL h xs vs k r⟩
  | .lst _, _, k, _ => by cases k
  | .obj c ns xs, _, k, ⟨c1, a, dx, vs, e, g, l, r⟩ => ⟨c1, a, dx, vs, e, h _ _ g (fun _ e => by cases e), l, nl_repL h xs vs k r⟩
  | .ty _, _, _, r => r
  | .cls _, _, _, r => r
  | .scr _, _, k, _ => by cases k
theorem nl_repL (h : ∀ a o, G3 a = some o → (∀ vs, o ≠ .lst vs) → G4 a = some o) : ∀ (ds : List D) (vs : List V), nlL ds = true → RepL K G3 ds vs → RepL K G4 ds vs
  | [], _, _, r => r
  | d :: ds, _, k, ⟨v, r, e, h1, h2⟩ => ⟨v, r, e, nl_rep h d v (Bool.and_eq_true_iff.mp (show (nlD d && nlL ds) = true from k)).1 h1, nl_repL h ds r (Bool.and_eq_true_iff.mp (show (nlD d && nlL ds) = true from k)).2 h2⟩
end
end
section
variable {G H : Hp} {as : List Addr} {P : Addr → Prop} {ρ : Env'} {μ : Mu} {σ : L2.St}
open Classical in
theorem lend (R : Rl K G H as P ρ μ σ) : ∃ (G2 : Hp) (P2 : Addr → Prop), Same G G2 ∧ Rl K G2 H [] P2 [] [] [] ∧ (∀ (j : Nat) (a : Addr) (xs : List D), as[j]? = some a → (μ[j]? = some (.lst xs) ∨ μ[j]? = some (.frz xs)) → xs.length ≤ LB ∧ ∃ vs, G2 a = some (.lst vs) ∧ RepL K G2 xs vs) ∧
    ∀ as3 G3 H3, Nx P2 [] G2 H as3 G3 H3 → Rl K G3 H3 as3 P2 [] [] [] → ∃ G4, Nx P as G H as G4 H3 ∧ Rl K G4 H3 as P ρ μ σ ∧ ∀ d v, nlD d = true → Rep K G3 d v → Rep K G4 d v := by
  obtain ⟨B, hB⟩ : ∃ B : Addr → Prop, B = fun a => ∃ (j : Nat) (xs : List D), as[j]? = some a ∧ μ[j]? = some (.lst xs) := ⟨_, rfl⟩
  have b1 : ∀ a, B a → G a = none ∧ ∃ vs, H a = some (.lst vs) := fun a h => by
    rw [hB] at h
    obtain ⟨j, xs, h1, h2⟩ := h
    obtain ⟨k1, _, vs, k2, _⟩ := R.mu j a _ h1 h2
    exact ⟨k1, vs, k2⟩
  obtain ⟨G2, hG2⟩ : ∃ G2 : Hp, G2 = fun a => if B a then H a else G a := ⟨_, rfl⟩
  have g2b : ∀ a, B a → G2 a = H a := fun a h => by rw [hG2]; exact if_pos h
  have g2n : ∀ a, ¬ B a → G2 a = G a := fun a h => by rw [hG2]; exact if_neg h
  have s2 : Same G G2 := fun a o e => by
    have hn : ¬ B a := fun hb => by rw [(b1 a hb).1] at e; cases e
    rw [g2n a hn]
    exact e
  have sub2 : Same G2 H := fun a o e => by
    by_cases hb : B a
    · rw [g2b a hb] at e; exact e
    · rw [g2n a hb] at e; exact R.sub _ _ e
  have inAs : ∀ a, B a → a ∈ as := fun a h => by
    rw [hB] at h
    obtain ⟨j, xs, h1, h2⟩ := h
    exact List.mem_of_getElem? h1
  have here : ∀ a, a ∈ as → H a ≠ none := fun a h => by
    obtain ⟨j, hj⟩ := List.getElem?_of_mem h
    have hl : j < as.length := (List.getElem?_eq_some_iff.mp hj).1
    rw [R.len] at hl
    exact (R.mu j a _ hj (List.getElem?_eq_getElem hl)).here R.sub
  refine ⟨G2, fun a => P a ∨ (a ∈ as ∧ G2 a = none), s2, ⟨sub2, fun a h => ?_, List.nodup_nil, rfl, fun j a m h => (by simp at h), fun m h => (by cases h), rfl, fun i w h => (by simp at h), R.tb.mono s2 (fun b ps z => by
    by_cases hb : B b
    · obtain ⟨_, vs, e⟩ := b1 b hb
      rw [g2b b hb, e] at z
      cases z
    · rw [g2n b hb] at z
      exact R.tb.1 b ps z) fun a t0 t1 t2 _ => ⟨fun z => z.elim t0 fun y => t2 y.1, by rw [g2n a fun hb => t2 (inAs a hb)]; exact t1, by simp, rfl⟩⟩, fun j a xs hj hm => ?_, fun as3 G3 H3 n R3 => ?_⟩
  · rcases h with h | ⟨h1, h2⟩
    · obtain ⟨p1, p2, p3⟩ := R.pro a h
      refine ⟨?_, p2, by simp⟩
      rw [g2n a fun hb => p3 (inAs a hb)]
      exact p1
    · exact ⟨h2, here a h1, by simp⟩
  · rcases hm with hm | hm
    · obtain ⟨k1, k0, vs, k2, k3⟩ := R.mu j a _ hj hm
      have hb : B a := by rw [hB]; exact ⟨j, xs, hj, hm⟩
      exact ⟨k0, vs, by rw [g2b a hb]; exact k2, RepL.mono s2 _ _ k3⟩
    · obtain ⟨k0, vs, k2, k3⟩ := R.mu j a _ hj hm
      exact ⟨k0, vs, s2 _ _ k2, RepL.mono s2 _ _ k3⟩
  · obtain ⟨G4, hG4⟩ : ∃ G4 : Hp, G4 = fun a => if B a then none else G3 a := ⟨_, rfl⟩
    have g4b : ∀ a, B a → G4 a = none := fun a h => by rw [hG4]; exact if_pos h
    have g4n : ∀ a, ¬ B a → G4 a = G3 a := fun a h => by rw [hG4]; exact if_neg h
    have s4 : Same G G4 := fun a o e => by
      have hn : ¬ B a := fun hb => by rw [(b1 a hb).1] at e; cases e
      rw [g4n a hn]
      exact n.gr _ _ (s2 _ _ e)
    have keep : ∀ a, a ∈ as → H3 a = H a := fun a h => by
      by_cases hb : B a
      · obtain ⟨_, vs, e⟩ := b1 a hb
        have e2 : G2 a = some (.lst vs) := by rw [g2b a hb]; exact e
        rw [R3.sub _ _ (n.gr _ _ e2), e]
      · cases hg : G2 a with
        | none => exact n.kp a (.inr ⟨h, hg⟩)
        | some o => rw [R3.sub _ _ (n.gr _ _ hg), sub2 _ _ hg]
    refine ⟨G4, ⟨⟨[], by simp⟩, s4, fun a h => n.kp a (.inl h)⟩, ⟨fun a o e => ?_, fun a h => ?_, R.nd, R.len, fun j a m hj hm => ?_, R.wf, R.sz, fun i w hw => ?_, fun b ps z => by
      by_cases hb : B b
      · rw [g4b b hb] at z
        cases z
      · rw [g4n b hb] at z
        exact R3.tb.1 b ps z, fun q hq => by
      obtain ⟨t0, t1, t2, ps, h3, h4, h5⟩ := R3.tb.2 q hq
      obtain ⟨u0, _, u2, _⟩ := R.tb.2 q hq
      refine ⟨u0, by rw [g4n _ fun hb => u2 (inAs _ hb)]; exact t1, u2, ps, h3, h4, fun pos cv hc => ?_⟩
      obtain ⟨c, e1, e2⟩ := h5 pos cv hc
      refine ⟨c, e1, ?_⟩
      rw [g4n c fun hb => ?_]
      · exact e2
      · obtain ⟨_, vs, e3⟩ := b1 c hb
        have e4 := n.gr _ _ ((g2b c hb).trans e3)
        rw [e2] at e4
        cases e4⟩, fun d v k r => nl_rep (fun a o e hno => ?_) d v k r⟩
    · have hn : ¬ B a := fun hb => by rw [g4b a hb] at e; cases e
      rw [g4n a hn] at e
      exact R3.sub _ _ e
    · obtain ⟨p1, p2, p3⟩ := R.pro a h
      obtain ⟨q1, q2, -⟩ := R3.pro a (.inl h)
      exact ⟨by rw [g4n a fun hb => p3 (inAs a hb)]; exact q1, q2, p3⟩
    · have hin : a ∈ as := List.mem_of_getElem? hj
      refine (R.mu j a m hj hm).mono s4 (fun hg => ?_) (keep a hin) ⟨[], by simp⟩
      by_cases hb : B a
      · exact g4b a hb
      · rw [g4n a hb]
        have hg2 : G2 a = none := by rw [g2n a hb]; exact hg
        exact (R3.pro a (.inr ⟨hin, hg2⟩)).1
    · obtain ⟨v, h1, h2⟩ := R.env i w hw
      exact ⟨v, h1, h2.mono s4 ⟨[], by simp⟩⟩
    · by_cases hb : B a
      · obtain ⟨_, vs, e2⟩ := b1 a hb
        have e3 : G2 a = some (.lst vs) := by rw [g2b a hb]; exact e2
        have e4 := n.gr _ _ e3
        rw [e] at e4
        injection e4 with e4
        exact absurd e4 (hno vs)
      · rw [g4n a hb]
        exact e
end
def lendW (μ : Mu) : W → Option D
  | .val d => some d
  | .loc j => match μ[j]? with
    | some (.lst xs) => some (.lst xs)
    | some (.frz xs) => some (.lst xs)
    | _ => none
def lendWs (μ : Mu) : List W → Option (List D)
  | [] => some []
  | w :: ws => match lendW μ w, lendWs μ ws with
    | some d, some ds => some (d :: ds)
    | _, _ => none
section
variable {G G2 : Hp} {as : List Addr} {μ : Mu}
theorem lendW_ok (s : Same G G2) (h : ∀ (j : Nat) (a : Addr) (xs : List D), as[j]? = some a → (μ[j]? = some (.lst xs) ∨ μ[j]? = some (.frz xs)) → xs.length ≤ LB ∧ ∃ vs, G2 a = some (.lst vs) ∧ RepL K G2 xs vs) {w : W} {d : D} {v : V} (hl : lendW μ w = some d) (r : RepW K G as w v) : Rep K G2 d v := by
  cases w with
  | val e => cases hl; exact Rep.mono s _ _ r
  | loc j =>
    obtain ⟨a, ha, ev⟩ := r
    unfold lendW at hl
    dsimp only at hl
    split at hl
    · rename_i xs hm
      cases hl
      obtain ⟨z, vs, h1, h2⟩ := h j a xs ha (.inl hm)
      exact ⟨z, a, vs, ev, h1, h2⟩
    · rename_i xs hm
      cases hl
      obtain ⟨z, vs, h1, h2⟩ := h j a xs ha (.inr hm)
      exact ⟨z, a, vs, ev, h1, h2⟩
    · cases hl
theorem lendWs_ok (s : Same G G2) (h : ∀ (j : Nat) (a : Addr) (xs : List D), as[j]? = some a → (μ[j]? = some (.lst xs) ∨ μ[j]? = some (.frz xs)) → xs.length ≤ LB ∧ ∃ vs, G2 a = some (.lst vs) ∧ RepL K G2 xs vs) : ∀ {ws : List W} {ds : List D} {vs : List V}, lendWs μ ws = some ds → RepWs K G as ws vs → RepL K G2 ds vs
  | [], ds, vs, hl, r => by cases hl; exact r
  | w :: ws, ds, vs, hl, ⟨v, r, e, h1, h2⟩ => by
    unfold lendWs at hl
    split at hl
    · rename_i d ds' e1 e2
      cases hl
      exact ⟨v, r, e, lendW_ok s h e1 h1, lendWs_ok s h e2 h2⟩
    · cases hl
end
variable {ρ : Env'} {μ : Mu}
end DX
namespace DX
open PySem PySem.Spec PyProof.Rows L2 DK
section
variable {K : PySem.W.Frag} [HasW K]
def mReprW (a : RE) : RE := fun ρ μ => match a ρ μ with
  | some (.loc j, μ1) => match μ1[j]? with
    | some (.lsW ws) => match lendWs μ1 ws with
      | some ds => if showsB (.lst ds) = true then some (.val (.str (toPy (.lst ds)).shown), μ1) else none
      | none => none
    | _ => none
  | _ => none
theorem sn_reprW {ta : TE} {a : RE} (ha : SnE K ta a) : SnE K (tCB (rRepr K) (tCons ta tNil)) (mReprW a) := fun ρ μ w μ' h => by
  unfold mReprW at h
  split at h
  · rename_i j μ1 e1
    split at h
    · rename_i ws hm
      split at h
      · rename_i ds e2
        split at h
        · rename_i k1
          cases h
          have s1 := showsB_ok k1
          exact fun P as σ G H R Q q => ha _ _ _ _ e1 P as σ G H R _ fun x' as1 G1 H1 n1 R1 r1 => by
            obtain ⟨b, hb, rfl⟩ := r1
            obtain ⟨_, z, vs, hH, rw'⟩ := R1.mu j b _ hb hm
            obtain ⟨G2, P2, s2, R2, hl, back⟩ := lend R1
            have rl := lendWs_ok s2 hl e2 rw'
            have rt : RepT K G2 H1 (.lst ds) (.ref b) := ⟨by
              have := rw'.length
              have h2 := rl.length
              omega, b, vs, rfl, hH, rl⟩
            exact ⟨_, toPy (.lst ds), rfl, dp_ofT R2.sub s1.py rt, s1.sh, noDict _, s1.dp, Nat.le_trans (shown_le _ s1.st s1.sh) s1.sz,
              q _ as1 G1 H1 n1 R1 ⟨rfl, Nat.le_trans (shown_le _ s1.st s1.sh) s1.sz, (shown_cO _ s1.st).all⟩⟩
        · cases h
      · cases h
    · cases h
  · cases h
end
end DX
namespace DK
open PySem PySem.Spec PyProof.Rows L2
section
variable {α β : Type}
def atP : List (NestedKey × α × β) → NestedKey → Option β
  | [], _ => none
  | p :: r, k => if NestedKey.beq p.1 k = true then some p.2.2 else atP r k
def repP (k : NestedKey) (y : β) : List (NestedKey × α × β) → List (NestedKey × α × β)
  | [] => []
  | p :: r => (if NestedKey.beq p.1 k = true then (p.1, p.2.1, y) else p) :: repP k y r
def putP (l : List (NestedKey × α × β)) (k : NestedKey) (a : α) (y : β) : List (NestedKey × α × β) := match atP l k with
  | some _ => repP k y l
  | none => l ++ [(k, a, y)]
theorem beq_iff {a b : NestedKey} : NestedKey.beq a b = true ↔ a = b := ⟨NestedKey.eq_of_beq a b, fun e => by rw [e]; exact NestedKey.beq_self b⟩
end
abbrev ES : List (NestedKey × Addr × V) → List (NestedKey × Addr × Value) → Prop := Paired fun p q => p.1 = q.1 ∧ p.2.1 = q.2.1 ∧ RelV p.2.2 q.2.2
theorem ES.len {es : List (NestedKey × Addr × V)} {xs : List (NestedKey × Addr × Value)} (r : ES es xs) : es.length = xs.length := Paired.length r
theorem ES.at' {es : List (NestedKey × Addr × V)} {xs : List (NestedKey × Addr × Value)} (r : ES es xs) (k : NestedKey) : RelO (atP es k) ((atKey xs k).map (·.2)) := by
  induction r with
  | nil => exact True.intro
  | @cons p q ps qs h t ih =>
    by_cases c : NestedKey.beq p.1 k = true
    · have e : q.1 = k := h.1.symm.trans (beq_iff.mp c)
      rw [show atKey (q :: qs) k = some q.2 by simp [atKey, List.find?_cons, e]]
      unfold atP
      rw [if_pos c]
      exact h.2.2
    · have e : ¬ q.1 = k := fun z => c (beq_iff.mpr (h.1.trans z))
      rw [show atKey (q :: qs) k = atKey qs k by simp [atKey, List.find?_cons, e]]
      unfold atP
      rw [if_neg c]
      exact ih
theorem ES.rep {es : List (NestedKey × Addr × V)} {xs : List (NestedKey × Addr × Value)} (r : ES es xs) (k : NestedKey) {y : V} {u : Value} (ry : RelV y u) : ES (repP k y es) (xs.map (putAt k u)) := by
  induction r with
  | nil => exact .nil
  | @cons p q ps qs h t ih =>
    refine .cons ?_ ih
    unfold putAt
    by_cases c : NestedKey.beq p.1 k = true
    · rw [if_pos c, if_pos (h.1.symm.trans (beq_iff.mp c))]
      exact ⟨h.1, h.2.1, ry⟩
    · rw [if_neg c, if_neg (fun z => c (beq_iff.mpr (h.1.trans z)))]
      exact h
theorem ES.put {es : List (NestedKey × Addr × V)} {xs : List (NestedKey × Addr × Value)} (r : ES es xs) (k : NestedKey) (b : Addr) {y : V} {u : Value} (ry : RelV y u) : ES (putP es k b y) (storedH xs k b u) := by
  have e := r.at' k
  unfold putP
  cases c : atP es k with
  | some z =>
    rw [c] at e
    cases d : atKey xs k with
    | none => rw [d] at e; exact (show False from e).elim
    | some p => rw [storedH_old d]; exact r.rep k ry
  | none =>
    rw [c] at e
    cases d : atKey xs k with
    | some p => rw [d] at e; exact (show False from e).elim
    | none => rw [storedH_new d]; exact Paired.snoc r ⟨rfl, rfl, ry⟩
section
variable {X : Cx} {pins : List (Addr × Obj)} {σ : L2.St} {H : Hp} {s : Shared} {a : Addr} {A : Around} {E : Value → Shared → Prop}
end
section
variable {X : Cx} {o i e value : Expr} {pos pos' tpos : Pos} {td ty tv : TE}
theorem at_some {es : List (NestedKey × Addr × V)} {xs : List (NestedKey × Addr × Value)} (r : ES es xs) (k : NestedKey) : (atKey xs k).isSome = (atP es k).isSome := by
  have := (r.at' k).isSome_eq
  rw [Option.isSome_map] at this
  exact this.symm
end
end DK
namespace DK
open PySem PySem.Spec PyProof.Rows L2
section
variable {X : Cx}
end
end DK
namespace DK
open PySem PySem.Spec PyProof.Rows L2
section
variable {X : Cx}
end
end DK
namespace DK
open PySem PySem.Spec PyProof.Rows L2
section
variable {K : PySem.W.Frag} [HasW K] {ρ ρ1 ρ2 : Env'} {μ μ1 μ2 μ3 : Mu} {ta tb te tc : TE} {w : W} {a b d : D} {i : Nat}
end
end DK
namespace DK
open PySem PySem.Spec PyProof.Rows L2
section
variable {K : PySem.W.Frag} {G : Hp}
theorem RepN.len : ∀ {kvs : List (NestedKey × D × D)} {es : List (NestedKey × Addr × V)}, RepN K G kvs es → es.length = kvs.length
  | [], _, h => by rw [show _ = [] from h]; rfl
  | (_, _, _) :: _, _, ⟨_, _, _, e, _, _, _, h⟩ => by rw [e, List.length_cons, List.length_cons, RepN.len h]
theorem RepN.at' {q : NestedKey} : ∀ {kvs : List (NestedKey × D × D)} {es : List (NestedKey × Addr × V)}, RepN K G kvs es → (atP kvs q = none ∧ atP es q = none) ∨ ∃ v y, atP kvs q = some v ∧ atP es q = some y ∧ Rep K G v y
  | [], _, h => by rw [show _ = [] from h]; exact .inl ⟨rfl, rfl⟩
  | (k, d, v) :: r, _, ⟨b, y, t, ev, h0, h1, h2, h3⟩ => by
    rw [ev]
    unfold atP
    by_cases c : NestedKey.beq k q = true
    · rw [if_pos c, if_pos c]; exact .inr ⟨v, y, rfl, rfl, h2⟩
    · rw [if_neg c, if_neg c]; exact RepN.at' h3
theorem RepN.rep {q : NestedKey} {v : D} {y : V} (hv : Rep K G v y) : ∀ {kvs : List (NestedKey × D × D)} {es : List (NestedKey × Addr × V)}, RepN K G kvs es → RepN K G (repP q v kvs) (repP q y es)
  | [], _, h => by rw [show _ = [] from h]; exact rfl
  | (k, d, u) :: r, _, ⟨b, x, t, ev, h0, h1, h2, h3⟩ => by
    rw [ev]
    by_cases c : NestedKey.beq k q = true
    · show RepN K G ((if NestedKey.beq k q = true then _ else _) :: _) ((if NestedKey.beq k q = true then _ else _) :: _)
      rw [if_pos c, if_pos c]
      exact ⟨b, y, _, rfl, h0, h1, hv, RepN.rep hv h3⟩
    · show RepN K G ((if NestedKey.beq k q = true then _ else _) :: _) ((if NestedKey.beq k q = true then _ else _) :: _)
      rw [if_neg c, if_neg c]
      exact ⟨b, x, _, rfl, h0, h1, h2, RepN.rep hv h3⟩
theorem RepN.app {q : NestedKey} {d v : D} {b : Addr} {y : V} (h0 : nkT d = some q) (h1 : Rep K G d (.ref b)) (h2 : Rep K G v y) : ∀ {kvs : List (NestedKey × D × D)} {es : List (NestedKey × Addr × V)}, RepN K G kvs es → RepN K G (kvs ++ [(q, d, v)]) (es ++ [(q, b, y)])
  | [], _, h => by rw [show _ = [] from h]; exact ⟨b, y, [], rfl, h0, h1, h2, rfl⟩
  | (k, e, u) :: r, _, ⟨c, x, t, ev, k0, k1, k2, k3⟩ => by
    rw [ev]
    exact ⟨c, x, _, rfl, k0, k1, k2, RepN.app h0 h1 h2 k3⟩
theorem RepN.put {q : NestedKey} {d v : D} {b : Addr} {y : V} {kvs : List (NestedKey × D × D)} {es : List (NestedKey × Addr × V)} (h : RepN K G kvs es) (h0 : nkT d = some q) (h1 : Rep K G d (.ref b)) (h2 : Rep K G v y) : RepN K G (putP kvs q d v) (putP es q b y) := by
  unfold putP
  rcases h.at' (q := q) with ⟨e1, e2⟩ | ⟨u, x, e1, e2, _⟩
  · rw [e1, e2]; exact RepN.app h0 h1 h2 h
  · rw [e1, e2]; exact RepN.rep h2 h
end
end DK
namespace DX
open PySem PySem.Spec PyProof.Rows L2 DK
section
variable {K : PySem.W.Frag} [HasW K] {G H : Hp} {as : List Addr} {P : Addr → Prop} {ρ : Env'} {μ : Mu} {σ : L2.St}
inductive DcN (K : PySem.W.Frag) [HasW K] (g : TG) (tt : TT) (tk tv : TE) (vs : List Nat) (C : Mu → Prop) (ρ : Env') : List D → Mu → List (NestedKey × D × D) → Mu → List (NestedKey × D × D) → Prop where
  | nil {μ : Mu} {acc : List (NestedKey × D × D)} : DcN K g tt tk tv vs C ρ [] μ acc μ acc
  | skip {x : D} {xs : List D} {ρ1 : Env'} {μ μ1 μ' : Mu} {acc out : List (NestedKey × D × D)} : EvGc K g x vs ρ ρ1 → EvB K tt ρ1 μ false μ1 → C μ1 → DcN K g tt tk tv vs C ρ xs μ1 acc μ' out → DcN K g tt tk tv vs C ρ (x :: xs) μ acc μ' out
  | take {x y d : D} {k : NestedKey} {xs : List D} {ρ1 : Env'} {μ μ1 μ2 μ3 μ' : Mu} {acc out : List (NestedKey × D × D)} : EvGc K g x vs ρ ρ1 → EvB K tt ρ1 μ true μ1 → Ev K tk ρ1 μ1 (.val d) μ2 → nkT d = some k → Ev K tv ρ1 μ2 (.val y) μ3 → C μ3 →
      DcN K g tt tk tv vs C ρ xs μ3 (putP acc k d y) μ' out → DcN K g tt tk tv vs C ρ (x :: xs) μ acc μ' out
end
end DX
namespace DK
open PySem PySem.Spec PyProof.Rows L2
end DK
namespace DX
open PySem PySem.Spec PyProof.Rows L2 DK
section
variable {X : Cx} {d : Addr}
end
section
variable {K : PySem.W.Frag} [HasW K] {w : World}
end
end DX
namespace DX
open PySem PySem.Spec PyProof.Rows L2 DK
section
variable {K : PySem.W.Frag} [HasW K]
end
section
variable {K : PySem.W.Frag}
end
end DX
namespace DX
open PySem PySem.Spec PyProof.Rows L2 DK
section
variable {K : PySem.W.Frag} [HasW K]
end
end DX
namespace DX
open PySem PySem.Spec PyProof.Rows L2 DK
section
variable {X : Cx}
end
end DX
namespace DX
open PySem PySem.Spec PyProof.Rows L2 DK
section
variable {K : PySem.W.Frag} [HasW K]
end
end DX
namespace DX.RR
open PySem PySem.Spec L2 DK
local macro_rules
  | `(tactic| push_cast [$ts,*]) => `(tactic| simp only [q_seq, q_ifS, q_if, q_and, q_or, q_not, q_andV, q_orV, q_notV, q_test, q_op, q_un, q_asg, q_ret, q_drop, q_cons, q_dat, q_dat1, q_tup, q_lst, q_call, q_meth, q_for, q_lc, q_seqI, q_sl, q_var, q_c, q_nil, q_next, q_cont, q_break, q_retN, q_yes, q_noPart, q_partB, q_isN, q_ixB, q_fld, q_enum, q_par, q_body, varW_some, view_val, view_loc, viewM_lst, viewM_frz, isBl_bl, partW_int, name_set, ixW_val, ixF_l, ixF_t, fld_row_word, fld_row_tests, fld_row_deeds, fld_row_opens, fld_tool_window, fld_tool_rows, fld_tool_marks, recv_row, recv_tool, bodyE_rt, bodyE_nx, exit_any, exit_dst, negF_int, plusF_int, minusF_int, ltF_int, leF_int, gtF_int, geF_int, eqF_int, eqF_str, eqF_bl, intF_int, maxF_int, minF_int, lenF_l, lenF_t, lenF_s, tupF_l, tupF_t, lstF_l, lstF_t, strF_s, seqOf_t, seqOf_l, guard_val, guard_loc, isNW_val, isNW_loc, enumW_1, parW_2, tup_set, cons_set, nil_set, frzL_nil, frzL_cons, frz1_val, frz1_loc, frzM_lst, frzM_frz, ofS, ite_bind, Option.bind_some, then_nx, then_rt, then_ct, then_bk, start, List.length_cons, List.length_nil, List.map_cons, List.map_nil, List.replicate, List.cons_append, List.nil_append, List.append_nil, List.getElem?_cons_succ, List.getElem?_cons_zero, List.set_cons_succ, List.set_cons_zero, Nat.sub_self, Nat.reduceSub, Nat.reduceAdd, Nat.reduceEqDiff, if_true, if_false, reduceIte, decide_eq_true_eq, decide_true, decide_false, Bool.false_xor, Bool.true_xor, Nat.zero_add, eq_self, String.reduceEq, Bool.false_eq_true, wipeE, List.foldl_cons, List.foldl_nil, Bool.not_true, Bool.not_false, inF_strsT, inF_strsL, q_fldS, q_make, isNon_int, isNon_non, isNon_bl, isNon_str, isNon_tup, isNon_lst, q_lcM, q_setI, q_addM, addW_val, seqOf_loc, seqM_lst, seqM_frz, ixW_loc, ixM_lsW, ixM_lst, ixM_frz, setIW_loc, setIM_lst, exit_val, exit_loc, exitV_if, List.take_succ_cons, List.take_zero, List.take_nil, List.all_cons, List.all_nil, Bool.and_true, Bool.true_and, Bool.and_self, Nat.reduceLT, Nat.reduceLeDiff, Nat.zero_le, Nat.lt_add_one, exitM_lst, exitM_frz, below_lst, below_frz, below_dK, below_scr, below_lsW, below_ins, below_dW, wbelow_val, wbelow_loc, q_append, appA_loc, appW_1, appM_lst, q_lstOfM, lstM_lst, q_lstM, q_rng1, standB_none, standB_some, standM_lst, standM_frz, q_join, joinA_str, q_joined, q_jNil, q_jCons, jW_str, q_star, q_own1, ownW_val, okStr_str, isIns_row, isIns_tool, q_kget, kgetW_str, q_indexC, indexW_lst, q_makeL, mkL_cls, q_cmeth, cmW_cls, q_star1, star1W_cons, q_chain, chainW_bl, chainE_bl, q_eqOwn, fmtF_s, and_self, q_aug, augM_int, q_parN, setAll_cons, setAll_nil, q_never, intF_bl, q_extend, extA_loc, extW_1, extD_lst, extM_lst, q_asgT, uTup_tup, uCons_cons, uNil_nil, uName_eq, uFld_eq, ufW_loc, ufM_ins, fldSW_loc, fldSM_ins, fldW_loc, fldM_ins, look_cons, putW_nil, putW_cons, $ts,*])
variable {μ : Mu}
def lettersS : Str := "abcdefghijklmnopqrstuvwxyz"
def nmB (s : Str) : Bool := decide (1 ≤ s.length) && (decide (s.length ≤ 4) && ((s.cps.toList.all fun c => decide (c ∈ lettersS.cps.toList)) && !decide (s ∈ cc_BARRED)))
def wdB (ws : List Str) : Str := ws.getD 1 ""
def tsW (ws : List Str) : Bool := decide (ws.length = 2) && (decide (fst ws = "marked") && nmB (wdB ws))
def tsB (s : Str) : Bool := tsW (if fst (wds s) = "not" then (wds s).drop 1 else wds s)
def dsB1 (ws : List Str) : Bool := decide (ws = [("learn" : Str)]) || (decide (ws.length = 2) && (decide (fst ws ∈ (["mark", "clear"] : List Str)) && nmB (wdB ws)))
def dsB (s : Str) : Bool := dsB1 (wds s)
def dsS (w : Str) (ds : List Str) : Bool := ds.all dsB && (decide (ds = []) || (decide (w ∈ cc_LEARNING) && decide (("learn" : Str) ∈ ds)))
structure RG (r : RowM) : Prop where
  w : r.word ∈ cc_WORDS
  ts : r.tests.all tsB = true
  ds : dsS r.word r.deeds = true
  o : r.opens = true ∨ r.word ≠ "house"
  lt : (r.tests.map (·.length)).sum + r.tests.length * 5 ≤ 900
  ld : (r.deeds.map (·.length)).sum + r.deeds.length * 6 ≤ 900
  ct : ∀ s ∈ r.tests, s.cps.all (· < 0x110000) = true
  cd : ∀ s ∈ r.deeds, s.cps.all (· < 0x110000) = true
section
variable {r : RowM}
theorem RG.zt (h : RG r) : r.tests.length ≤ 200 := by
  have := h.lt
  omega
end
end DX.RR
namespace DX
open PySem PySem.Spec PyProof.Rows L2 DK
section
variable {K : PySem.W.Frag} [HasW K]
end
end DX
namespace DX
open PySem PySem.Spec L2
end DX
namespace DX
open PySem PySem.Spec PyProof.Rows L2 DK
section
variable {X : Cx} {CX : CXT} {k : Nat} {f C : Addr} {fd : FuncData} {ps : List Str} {sp : Sp} {dvs : List V} {ds : List Value} {E : L2.St → XK} {x : Str} {p pos : Pos} {e : Expr} {es : List Expr} {t : TA} {i : Nat}
end
section
variable {K : PySem.W.Frag} [HasW K]
variable {G H : Hp} {as : List Addr} {P : Addr → Prop} {ρ : Env'} {μ : Mu} {σ : L2.St} {i : Nat} {a d : Addr} {f : Str} {v : V} {y : D}
end
end DX
namespace DK
open PySem PySem.Spec PyProof.Rows L2
section
variable {X : Cx} {W : WX} {C : Addr}
end
end DK
namespace DK
open PySem PySem.Spec PyProof.Rows L2
section
variable {X : Cx} {W : WX}
end
end DK
namespace DX
open PySem PySem.Spec PyProof.Rows L2 DK
abbrev LR := List D ⊕ (Str × Option (Str × D))
def conR (y : D) : LR → LR
  | .inl ys => .inl (y :: ys)
  | .inr e => .inr e
def EvX (K : PySem.W.Frag) [HasW K] (te : WX → TE) (ρ : Env') (μ : Mu) (r : XR) (μ' : Mu) : Prop := ∀ (P : Addr → Prop) (as : List Addr) (σ : L2.St) (G H : Hp), Rl K G H as P ρ μ σ → ∀ (W : WX) (Q : VK), XrOk K P as G H ρ σ μ' Q (fun cls d H2 => W cls d σ H2) r → te W σ H Q
inductive LcX (K : PySem.W.Frag) [HasW K] (g : TG) (tt : TT) (te : WX → TE) (vs : List Nat) (C : Mu → Prop) (ρ : Env') : List D → Mu → LR → Mu → Prop where
  | nil {μ : Mu} : LcX K g tt te vs C ρ [] μ (.inl []) μ
  | skip {x : D} {xs : List D} {r : LR} {ρ1 : Env'} {μ μ1 μ' : Mu} : EvGc K g x vs ρ ρ1 → EvB K tt ρ1 μ false μ1 → C μ1 → LcX K g tt te vs C ρ xs μ1 r μ' → LcX K g tt te vs C ρ (x :: xs) μ r μ'
  | take {x y : D} {xs : List D} {r : LR} {ρ1 : Env'} {μ μ1 μ2 μ' : Mu} : EvGc K g x vs ρ ρ1 → EvB K tt ρ1 μ true μ1 → EvX K te ρ1 μ1 (.val (.val y)) μ2 → C μ2 → LcX K g tt te vs C ρ xs μ2 r μ' → LcX K g tt te vs C ρ (x :: xs) μ (conR y r) μ'
  | exc {x : D} {xs : List D} {k : Str} {z : Option (Str × D)} {ρ1 : Env'} {μ μ1 μ2 : Mu} : EvGc K g x vs ρ ρ1 → EvB K tt ρ1 μ true μ1 → EvX K te ρ1 μ1 (.exc k z) μ2 → LcX K g tt te vs C ρ (x :: xs) μ (.inr (k, z)) μ2
section
variable {K : PySem.W.Frag} [HasW K]
variable {ρ : Env'} {μ μ1 μ2 : Mu}
end
end DX
namespace DX
open PySem PySem.Spec PyProof.Rows L2 DK
section
variable {K : PySem.W.Frag} [HasW K]
end
end DX
namespace DK
open PySem PySem.Spec PyProof.Rows L2
end DK
namespace DX
open PySem PySem.Spec PyProof.Rows L2 DK
section
variable {K : PySem.W.Frag} [HasW K] {ρ : Env'} {μ μ1 μ2 : Mu} {ta tb : TE}
end
end DX
namespace DX
open PySem PySem.Spec PyProof.Rows L2 DK
section
variable {K : PySem.W.Frag} [HasW K]
end
end DX
namespace DX
open PySem PySem.Spec L2 DK
end DX
namespace DX
open PySem PySem.Spec PyProof.Rows L2 DK
section
variable {K : PySem.W.Frag} [HasW K]
end
end DX
namespace DX
open PySem PySem.Spec PyProof.Rows L2 DK
def wsM : Option MO → Option (List W)
  | some (.lst xs) => some (xs.map .val)
  | some (.frz xs) => some (xs.map .val)
  | some (.lsW ws) => some ws
  | _ => none
def wsOf (μ : Mu) : W → Option (List W)
  | .val (.lst xs) => some (xs.map .val)
  | .loc j => wsM μ[j]?
  | _ => none
section
variable {K : PySem.W.Frag} [HasW K]
theorem ws_ok {G H : Hp} {as : List Addr} {P : Addr → Prop} {ρ : Env'} {μ : Mu} {σ : L2.St} {w : W} {v : V} {ws : List W} (R : Rl K G H as P ρ μ σ) (r : RepW K G as w v) (h : wsOf μ w = some ws) : ∃ a vs, v = .ref a ∧ H a = some (.lst vs) ∧ RepWs K G as ws vs ∧ ws.length ≤ LB := by
  unfold wsOf at h
  split at h
  · rename_i xs
    cases h
    obtain ⟨z, a, vs, e, g, rl⟩ := r
    exact ⟨a, vs, e, R.sub a _ g, RepWs.vals.mpr rl, by rw [List.length_map]; exact z⟩
  · rename_i j
    obtain ⟨a, ha, e⟩ := r
    unfold wsM at h
    split at h
    · rename_i xs hm
      cases h
      obtain ⟨vs, h1, h2, z⟩ := at_loc R ha (.inl hm)
      exact ⟨a, vs, e, h1, RepWs.vals.mpr h2, by rw [List.length_map]; exact z⟩
    · rename_i xs hm
      cases h
      obtain ⟨vs, h1, h2, z⟩ := at_loc R ha (.inr hm)
      exact ⟨a, vs, e, h1, RepWs.vals.mpr h2, by rw [List.length_map]; exact z⟩
    · rename_i us hm
      cases h
      obtain ⟨g, z, vs, hh, rl⟩ := R.mu j a _ ha hm
      exact ⟨a, vs, e, hh, rl, z⟩
    · cases h
  · cases h
theorem below_succ {n : Nat} {w : W} (h : w.below n = true) : w.below (n + 1) = true := by
  cases w with
  | val d => rfl
  | loc j => exact decide_eq_true (Nat.lt_succ_of_lt (of_decide_eq_true h))
theorem all_succ {n : Nat} {ws : List W} (h : ws.all (W.below n) = true) : ws.all (W.below (n + 1)) = true := List.all_eq_true.mpr fun w hw => below_succ (List.all_eq_true.mp h w hw)
def mAddW (a b : RE) : RE := fun ρ μ => match a ρ μ with
  | some (x, μ1) => match b ρ μ1 with
    | some (y, μ2) => match wsOf μ2 x, wsOf μ2 y with
      | some ws, some us => if (ws ++ us).length ≤ LB ∧ (ws ++ us).all (W.below μ2.length) = true then some (.loc μ2.length, μ2 ++ [.lsW (ws ++ us)]) else none
      | _, _ => none
    | none => none
  | none => none
theorem sn_addW {ta tb : TE} {a b : RE} (ha : SnE K ta a) (hb : SnE K tb b) : SnE K (tOp (rPlus K) ta tb) (mAddW a b) := fun ρ μ w μ' h => by
  unfold mAddW at h
  split at h
  · rename_i x μ1 e1
    split at h
    · rename_i y μ2 e2
      split at h
      · rename_i ws us v1 v2
        split at h
        · rename_i hc
          cases h
          exact fun P as σ G H R Q q => ha _ _ _ _ e1 P as σ G H R _ fun x' as1 G1 H1 n1 R1 r1 => hb _ _ _ _ e2 P as1 σ G1 H1 R1 _ fun y' as2 G2 H2 n2 R2 r2 => by
            obtain ⟨a, vs, ex, ga, ra, _⟩ := ws_ok R2 (r1.mono n2.gr n2.pre) v1
            obtain ⟨b, vu, ey, gb, rb, _⟩ := ws_ok R2 r2 v2
            have rr := RepWs.append ra rb
            refine .inr (.inr (.inl ⟨a, b, vs, vu, ex, ey, ga, gb, ?_, fun p hp => ?_⟩))
            · rw [← List.length_append, rr.length]
              exact Nat.le_trans hc.1 (by decide)
            · have hp' := R2.sub.free hp
              exact new_loc R2 hp (m := .lsW (ws ++ us)) (o := .lst (vs ++ vu)) ⟨hp', hc.1, _, upd_same, RepWs.mono (Same.refl _) ⟨[p], rfl⟩ rr⟩ (all_succ hc.2) fun v as' G' H' n R' r => q v as' G' H' ((n1.trans n2).trans n) R' r
        · cases h
      · cases h
    · cases h
  · cases h
end
end DX
namespace DX
open PySem PySem.Spec PyProof.Rows L2 DK
section
variable {K : PySem.W.Frag} [HasW K]
def loopRW (g : RG) (b : RS) : List W → Env' → Mu → Option Out
  | [], ρ, μ => some (.nx ρ μ)
  | w :: ws, ρ, μ => match g w ρ with
    | some ρ1 => match b ρ1 μ with
      | some (.nx ρ2 μ2) => loopRW g b ws ρ2 μ2
      | some (.ct ρ2 μ2) => loopRW g b ws ρ2 μ2
      | some (.bk ρ2 μ2) => some (.nx ρ2 μ2)
      | some (.rt w μ2) => some (.rt w μ2)
      | none => none
    | none => none
def mForW (a : RE) (g : RG) (b : RS) : RS := fun ρ μ => match a ρ μ with
  | some (.loc j, μ1) => match μ1[j]? with
    | some (.lsW ws) => if μ.length ≤ j ∧ (μ1.take j).all (MO.below j) = true ∧ ws.all (W.below j) = true then loopRW g b ws (ρ.map (clr j)) (μ1.take j) else none
    | _ => none
  | _ => none
theorem RepW.take {G : Hp} {as : List Addr} {w : W} {v : V} {j : Nat} (h : RepW K G as w v) (hb : w.below j = true) : RepW K G (as.take j) w v := by
  cases w with
  | val d => exact h
  | loc k =>
    obtain ⟨a, ha, e⟩ := h
    have hk : k < j := of_decide_eq_true hb
    exact ⟨a, by rw [List.getElem?_take_of_lt hk]; exact ha, e⟩
theorem RepWs.takeA {G : Hp} {as : List Addr} {j : Nat} : ∀ {ws : List W} {vs : List V}, RepWs K G as ws vs → ws.all (W.below j) = true → RepWs K G (as.take j) ws vs
  | [], vs, h, _ => h
  | w :: ws, vs, ⟨v, r, ev, h1, h2⟩, hb => by
    rw [List.all_cons, Bool.and_eq_true] at hb
    exact ⟨v, r, ev, RepW.take h1 hb.1, RepWs.takeA h2 hb.2⟩
theorem loopW_core {g : TG} {tb : TS} {m : RG} {b : RS} (hg : SnG K g m) (hb : SnS K tb b) {P : Addr → Prop} {as0 : List Addr} {G0 H0 : Hp} {ρ0 : Env'} {μ0 : Mu} {σ0 : L2.St} {p0 : Addr} {vs : List V} {ws : List W} {o : Out} {E : Ends}
    (R0 : Rl K G0 H0 as0 P ρ0 μ0 σ0) (hP : P p0) (h0 : H0 p0 = some (.lst vs)) (rv : RepWs K G0 as0 ws vs) (hl : loopRW m b ws ρ0 μ0 = some o) (q : OutOk K P as0 G0 H0 E o) :
    ∃ W0 : Nat → Nat → L2.St → Hp → Prop, (∃ k, W0 0 k σ0 H0) ∧ ∀ i k σ' H', W0 i k σ' H' → ((Itl K p0).stop i H' ∧ E.nx σ' H') ∨ ((Itl K p0).go i H' ∧ ∃ N : L2.St → Hp → Prop, (∀ σ2 H2, N σ2 H2 → ∃ k', k' < k ∧ W0 (i + 1) k' σ2 H2) ∧ ∀ x H2, (Itl K p0).yld i H' x H2 → g x σ' H2 fun σ3 H3 => tb { nx := N, rt := E.rt, bk := E.nx, ct := N } σ3 H3) := by
  refine ⟨fun i k σ' H' => k = ws.length - i ∧ i ≤ ws.length ∧ ∃ as' G' ρ' μ', Nx P as0 G0 H0 as' G' H' ∧ (∃ t, as' = as0 ++ t) ∧ Same G0 G' ∧ Rl K G' H' as' P ρ' μ' σ' ∧ loopRW m b (ws.drop i) ρ' μ' = some o, ⟨ws.length, rfl, Nat.zero_le _, as0, G0, ρ0, μ0, .refl, ⟨[], by simp⟩, Same.refl _, R0, hl⟩, ?_⟩
  rintro i k σ' H' ⟨rfl, hi, as', G', ρ', μ', n', a', s', R', l'⟩
  have ht : H' p0 = some (.lst vs) := (n'.kp p0 hP).trans h0
  have hs : SqL K H' p0 vs := SqL.of ht
  have rv' : RepWs K G' as' ws vs := RepWs.mono s' a' rv
  cases ew : ws[i]? with
  | none =>
    have hd : ws.drop i = [] := List.drop_eq_nil_of_le (List.getElem?_eq_none_iff.mp ew)
    rw [hd] at l'
    cases l'
    exact .inl ⟨⟨vs, hs, by rw [rv.length]; exact List.getElem?_eq_none_iff.mp ew⟩, q as' σ' G' H' n' R'⟩
  | some w =>
    have hlt : i < ws.length := (List.getElem?_eq_some_iff.mp ew).1
    have hd : ws.drop i = w :: ws.drop (i + 1) := by
      rw [List.drop_eq_getElem_cons hlt]
      have := (List.getElem?_eq_some_iff.mp ew).2
      rw [this]
    obtain ⟨x0, hx0, rx0⟩ := RepWs.get rv' ew
    refine .inr ⟨⟨vs, x0, hs, hx0⟩, _, fun σ2 H2 z => ⟨ws.length - (i + 1), by omega, z⟩, fun x H2 y => ?_⟩
    obtain ⟨eh, hy⟩ := y
    subst eh
    have ex : x = x0 := by
      have := hy vs hs
      rw [hx0] at this
      exact (Option.some.inj this).symm
    subst ex
    rw [hd, loopRW] at l'
    split at l'
    · rename_i ρ1 e1
      refine hg _ _ _ e1 P as' μ' σ' G' H2 x R' rx0 _ fun σ3 R3 => ?_
      split at l'
      · rename_i ρ2 μ2 e2
        exact hb _ _ _ e2 P as' σ3 G' H2 R3 _ fun as4 σ4 G4 H4 n4 R4 => ⟨rfl, hlt, as4, G4, _, _, n'.trans n4, pre_tr a' n4.pre, s'.trans n4.gr, R4, l'⟩
      · rename_i ρ2 μ2 e2
        exact hb _ _ _ e2 P as' σ3 G' H2 R3 _ fun as4 σ4 G4 H4 n4 R4 => ⟨rfl, hlt, as4, G4, _, _, n'.trans n4, pre_tr a' n4.pre, s'.trans n4.gr, R4, l'⟩
      · rename_i ρ2 μ2 e2
        cases l'
        exact hb _ _ _ e2 P as' σ3 G' H2 R3 _ fun as4 σ4 G4 H4 n4 R4 => q as4 σ4 G4 H4 (n'.trans n4) R4
      · rename_i w2 μ2 e2
        cases l'
        exact hb _ _ _ e2 P as' σ3 G' H2 R3 _ fun v as4 G4 H4 n4 R4 r4 => q v as4 G4 H4 (n'.trans n4) R4 r4
      · cases l'
    · cases l'
theorem OutOk.weakP {P P' : Addr → Prop} {as : List Addr} {G H : Hp} {E : Ends} {o : Out} (hp : ∀ a, P a → P' a) (q : OutOk K P as G H E o) : OutOk K P' as G H E o := by
  cases o with
  | nx ρ μ => exact fun as' σ' G' H' n R => q as' σ' G' H' (n.weak hp) (R.weak hp)
  | bk ρ μ => exact fun as' σ' G' H' n R => q as' σ' G' H' (n.weak hp) (R.weak hp)
  | ct ρ μ => exact fun as' σ' G' H' n R => q as' σ' G' H' (n.weak hp) (R.weak hp)
  | rt w μ => exact fun v as' G' H' n R r => q v as' G' H' (n.weak hp) (R.weak hp) r
theorem OutOk.fromTake {P : Addr → Prop} {as as1 : List Addr} {G H G1 H1 : Hp} {E : Ends} {o : Out} {j : Nat} (n : Nx P as G H as1 G1 H1) (hj : as.length ≤ j) (q : OutOk K P as G H E o) : OutOk K P (as1.take j) G1 H1 E o := by
  have n1 : Nx P as G H (as1.take j) G1 H1 := ⟨by
    obtain ⟨t, e⟩ := n.pre
    exact ⟨t.take (j - as.length), by rw [e, List.take_append, List.take_of_length_le hj]⟩, n.gr, n.kp⟩
  exact OutOk.after n1 q
theorem sn_forW {te : TE} {g : TG} {tb : TS} {a : RE} {m : RG} {b : RS} (ha : SnE K te a) (hg : SnG K g m) (hb : SnS K tb b) : SnS K (tFor (iSeq K te) g tb) (mForW a m b) := fun ρ μ o h P as σ G H R E q => by
  unfold mForW at h
  split at h
  · rename_i j μ1 e1
    split at h
    · rename_i ws hm
      split at h
      · rename_i hc
        obtain ⟨hj, hb1, hb2⟩ := hc
        refine .inl (ha _ _ _ _ e1 P as σ G H R _ fun v as1 G1 H1 n1 R1 r1 => ?_)
        obtain ⟨a0, ha', ev⟩ := r1
        obtain ⟨g0, z0, vs, hh, rl⟩ := R1.mu j a0 _ ha' hm
        subst ev
        refine ⟨a0, rfl, ⟨vs, SqL.of hh⟩, ?_⟩
        have hjl : j < μ1.length := (List.getElem?_eq_some_iff.mp hm).1
        have R2 := rl_cut R1 (Nat.le_of_lt hjl) (List.all_eq_true.mp hb1)
        have nin : a0 ∉ as1.take j := fun z => by
          obtain ⟨k, hk, e⟩ := List.mem_iff_getElem.mp z
          rw [List.length_take] at hk
          rw [List.getElem_take] at e
          obtain ⟨hjk, hja⟩ := List.getElem?_eq_some_iff.mp ha'
          exact List.pairwise_iff_getElem.mp R1.nd k j (by omega) hjk (by omega) (e.trans hja.symm)
        have R3 := R2.guard g0 (by rw [hh]; simp) nin (fun q hq z => (R1.tb.2 q hq).2.2.1 (by rw [z]; exact List.mem_of_getElem? ha'))
        have hq : OutOk K (fun b => P b ∨ b = a0) (as1.take j) G1 H1 E o := OutOk.weakP (fun b hb => .inl hb) (OutOk.fromTake n1 (by rw [R.len]; exact hj) q)
        exact loopW_core hg hb R3 (.inr rfl) hh (RepWs.takeA rl hb2) h hq
      · cases h
    · cases h
  · cases h
end
end DX
namespace DX
open PySem PySem.Spec PyProof.Rows L2 DK
section
variable {K : PySem.W.Frag} [HasW K]
end
end DX
namespace DX
open PySem PySem.Spec PyProof.Rows L2 DK
section
variable {K : PySem.W.Frag} [HasW K]
end
end DX
namespace DX
open PySem PySem.Spec PyProof.Rows L2 DK
section
variable {K : PySem.W.Frag} [HasW K]
def lcFR (i : Nat) (t : RB) (e : RE) (ρ : Env') : List W → Mu → Option (List D × Mu)
  | [], μ => some ([], μ)
  | w :: ws, μ => match t (ρ.set i (some w)) μ with
    | some (true, μ1) => match dat1 e (ρ.set i (some w)) μ1 with
      | some (y, μ2) => match lcFR i t e ρ ws μ2 with
        | some (ys, μ3) => some (y :: ys, μ3)
        | none => none
      | none => none
    | some (false, μ1) => lcFR i t e ρ ws μ1
    | none => none
theorem lcF_core {P : Addr → Prop} {as0 : List Addr} {G0 H0 : Hp} {ρ : Env'} {μ1 μ2 : Mu} {σ : L2.St} {p0 : Addr} {vs : List V} {ws : List W} {ys : List D} {i : Nat} {te : TE} {tt : TT} {t : RB} {e : RE} (ht0 : SnB K tt t) (he : SnE K te e) (R0 : Rl K G0 H0 as0 P ρ μ1 σ) (hP : P p0) (h0 : H0 p0 = some (.lst vs)) (rv : RepWs K G0 as0 ws vs)
    (hl : lcFR i t e (wipeE ρ [i]) ws μ1 = some (ys, μ2)) (hz : ws.length ≤ 100) (Q : VK) (q : ∀ v as' G' H', Nx P as0 G0 H0 as' G' H' → Rl K G' H' as' P ρ μ2 σ → RepW K G' as' (.val (.lst ys)) v → Q v H') : ∀ p, H0 p = none → ∃ W0 : Nat → Nat → Hp → Prop, (∃ m, W0 0 m (upd H0 p (.lst []))) ∧ ∀ k m H, W0 k m H →
  ((Itl K p0).stop k H ∧ Q (.ref p) H) ∨ ((Itl K p0).go k H ∧ ∃ N : Hp → Prop, (∀ H', N H' → ∃ m', m' < m ∧ W0 (k + 1) m' H') ∧ ∀ x H', (Itl K p0).yld k H x H' → gName i x (wipe σ [i]) H' fun σ2 H2 => wipe σ2 [i] = wipe σ [i] ∧ tt σ2 H2 fun b H3 =>
    if b = true then te σ2 H3 fun y H4 => ∃ acc, H4 p = some (.lst acc) ∧ acc.length < sizeLine ∧ N (upd H4 p (.lst (acc ++ [y]))) else N H3) := by
  have hlb : LB = 100000 := rfl
  intro p hp
  have gp : G0 p = none := R0.sub.free hp
  have np : ∀ a, P a → a ≠ p := fun a ha z => (R0.pro a ha).2.1 (by rw [z]; exact hp)
  have pas : p ∉ as0 := fun z => R0.here z hp
  refine ⟨fun k m H' => m = ws.length - k ∧ k ≤ ws.length ∧ ∃ as' G' μ' acc done rest, ys = done ++ rest ∧ Nx P as0 G0 H0 as' G' H' ∧ (∃ t, as' = as0 ++ t) ∧ Same G0 G' ∧ Rl K G' H' as' (fun a => P a ∨ a = p) ρ μ' σ ∧ H' p = some (.lst acc) ∧ RepL K G' done acc ∧ lcFR i t e (wipeE ρ [i]) (ws.drop k) μ' = some (rest, μ2) ∧ done.length ≤ k,
    ⟨ws.length, rfl, Nat.zero_le _, as0, G0, μ1, [], [], ys, rfl, ?_, ⟨[], by simp⟩, Same.refl _, ?_, upd_same, rfl, hl, Nat.le_refl _⟩, ?_⟩
  · exact ⟨⟨[], by simp⟩, Same.refl _, fun a ha => by rw [upd_ne (np a ha)]⟩
  · have R1 := (R0.mut (m := .gone) hp (o := .lst []) (by show upd H0 p _ p ≠ none; rw [upd_same]; simp) rfl).1
    have R2 : Rl K G0 (upd H0 p (.lst [])) as0 P ρ μ1 σ := by
      refine ⟨R1.sub, fun a ha => ?_, R0.nd, R0.len, fun j a m h1 h2 => ?_, R0.wf, R0.sz, R0.env, R0.tb.mono (Same.refl _) R0.tb.1 fun a t0 t1 t2 t3 => ⟨t0, t1, t2, upd_ne fun z => t3 (by rw [z]; exact hp)⟩⟩
      · obtain ⟨h1, h2, h3⟩ := R0.pro a ha
        exact ⟨h1, by rw [upd_ne (np a ha)]; exact h2, h3⟩
      · have z : a ≠ p := fun e => pas (e ▸ List.mem_of_getElem? h1)
        exact (R0.mu j a m h1 h2).mono (Same.refl _) id (upd_ne z) ⟨[], by simp⟩
    exact R2.guard gp (by rw [upd_same]; simp) pas (R0.tb.ne hp)
  rintro k m H' ⟨rfl, hk, as', G', μ', acc, done, rest, ey, n', a', s', R', hH, rl, l', dl⟩
  have ht : H' p0 = some (.lst vs) := (n'.kp p0 hP).trans h0
  have hs : SqL K H' p0 vs := SqL.of ht
  have rv' : RepWs K G' as' ws vs := RepWs.mono s' a' rv
  cases ew : ws[k]? with
  | none =>
    have hd : ws.drop k = [] := List.drop_eq_nil_of_le (List.getElem?_eq_none_iff.mp ew)
    rw [hd] at l'
    cases l'
    rw [List.append_nil] at ey
    subst ey
    refine .inl ⟨⟨vs, hs, by rw [rv.length]; exact List.getElem?_eq_none_iff.mp ew⟩, ?_⟩
    have R3 : Rl K (upd G' p (.lst acc)) H' as' P ρ μ2 σ := R'.adopt (p := p) (.inr rfl) (fun a ha => ⟨.inl ha, np a ha⟩) hH
    have g' : G' p = none := (R'.pro p (.inr rfl)).1
    have s3 : Same G' (upd G' p (.lst acc)) := fun b u h => by rw [upd_ne (ne_of_none h g')]; exact h
    refine q _ as' _ H' ⟨n'.pre, n'.gr.trans s3, n'.kp⟩ R3 ⟨?_, p, acc, rfl, upd_same, RepL.mono s3 _ _ rl⟩
    have := List.getElem?_eq_none_iff.mp ew
    omega
  | some w =>
    have hlt : k < ws.length := (List.getElem?_eq_some_iff.mp ew).1
    have hd : ws.drop k = w :: ws.drop (k + 1) := by
      rw [List.drop_eq_getElem_cons hlt]
      have := (List.getElem?_eq_some_iff.mp ew).2
      rw [this]
    obtain ⟨x0, hx0, rx0⟩ := RepWs.get rv' ew
    refine .inr ⟨⟨vs, x0, hs, hx0⟩, _, fun H2 z => ⟨ws.length - (k + 1), by omega, z⟩, fun x H2 y => ?_⟩
    obtain ⟨eh, hy⟩ := y
    subst eh
    have ex : x = x0 := by
      have := hy vs hs
      rw [hx0] at this
      exact (Option.some.inj this).symm
    subst ex
    rw [hd] at l'
    have R3 : Rl K G' H2 as' (fun a => P a ∨ a = p) ((wipeE ρ [i]).set i (some w)) μ' ((wipe σ [i]).set i (some x)) := (R'.wipe [i]).set rx0
    refine ⟨(wipe_set (by simp)).trans wipe_wipe, ?_⟩
    have np2 : ∀ a, P a → P a ∨ a = p := fun a ha => .inl ha
    rw [lcFR] at l'
    split at l'
    · rename_i μt et
      split at l'
      · rename_i yv μn d1
        split at l'
        · rename_i ys' μ3 l2
          cases l'
          refine ht0 _ _ _ _ et _ as' _ G' H2 R3 _ fun as4 G4 H4 n4 R4 => ?_
          rw [if_pos rfl]
          refine dat1_ok he d1 _ as4 _ G4 H4 R4 _ fun v5 as5 G5 H5 n5 R5 r5 => ?_
          have h5 : H5 p = some (.lst acc) := (n5.kp p (.inr rfl)).trans ((n4.kp p (.inr rfl)).trans hH)
          have al : acc.length = done.length := rl.length
          refine ⟨acc, h5, by rw [al, sizeLine_eq]; omega, ?_⟩
          refine ⟨rfl, hlt, as5, G5, _, acc ++ [v5], done ++ [yv], _, by rw [ey, List.append_assoc]; rfl, ?_, pre_tr (pre_tr a' n4.pre) n5.pre, (s'.trans n4.gr).trans n5.gr, ?_, upd_same, (RepL.mono n5.gr _ _ (RepL.mono n4.gr _ _ rl)).append (RepL.cons r5 RepL.nil), l2, by rw [List.length_append]; exact Nat.succ_le_succ dl⟩
          · have n6 := n'.trans ((n4.trans n5).weak np2)
            exact ⟨n6.pre, n6.gr, fun a ha => by rw [upd_ne (np a ha)]; exact n6.kp a ha⟩
          · have R6 : Rl K G5 H5 as5 (fun a => P a ∨ a = p) ρ _ σ := R5.to R'.sz fun j w hj => by
              obtain ⟨v, h1, h2⟩ := R'.env j w hj
              exact ⟨v, h1, (h2.mono n4.gr n4.pre).mono n5.gr n5.pre⟩
            exact R6.touch (.inr rfl) _
        · cases l'
      · cases l'
    · rename_i μt et
      refine ht0 _ _ _ _ et _ as' _ G' H2 R3 _ fun as4 G4 H4 n4 R4 => ?_
      rw [if_neg (by simp)]
      refine ⟨rfl, hlt, as4, G4, _, acc, done, rest, ey, n'.trans (n4.weak np2), pre_tr a' n4.pre, s'.trans n4.gr, R4.to R'.sz fun j w hj => by
          obtain ⟨v, h1, h2⟩ := R'.env j w hj
          exact ⟨v, h1, h2.mono n4.gr n4.pre⟩, (n4.kp p (.inr rfl)).trans hH, RepL.mono n4.gr _ _ rl, l', Nat.le_succ_of_le dl⟩
    · cases l'
def mLcWf (a : RE) (i : Nat) (t : RB) (e : RE) : RE := fun ρ μ => match a ρ μ with
  | some (.loc j, μ1) => match μ1[j]? with
    | some (.lsW ws) => if μ.length ≤ j ∧ (μ1.take j).all (MO.below j) = true ∧ ws.all (W.below j) = true ∧ ws.length ≤ 100 then match lcFR i t e (wipeE (ρ.map (clr j)) [i]) ws (μ1.take j) with
        | some (ys, μ2) => some (.val (.lst ys), μ2)
        | none => none
      else none
    | _ => none
  | _ => none
theorem sn_lcWf {te : TE} {ta : TE} {tt : TT} {a : RE} {t : RB} {e : RE} {i : Nat} (ha : SnE K ta a) (ht : SnB K tt t) (he : SnE K te e) : SnE K (tLc (iSeq K ta) (gName i) tt te [i]) (mLcWf a i t e) := fun ρ μ w μ' h => by
  unfold mLcWf at h
  split at h
  · rename_i j μ1 e1
    split at h
    · rename_i ws hm
      split at h
      · rename_i hc
        obtain ⟨hj, hb1, hb2, hz⟩ := hc
        split at h
        · rename_i ys μ2 hl
          cases h
          refine fun P as σ G H R Q q => .inl (ha _ _ _ _ e1 P as σ G H R _ fun v as1 G1 H1 n1 R1 r1 => ?_)
          obtain ⟨a0, ha', ev⟩ := r1
          obtain ⟨g0, z0, vs, hh, rl⟩ := R1.mu j a0 _ ha' hm
          subst ev
          refine ⟨a0, rfl, ⟨vs, SqL.of hh⟩, ?_⟩
          have hjl : j < μ1.length := (List.getElem?_eq_some_iff.mp hm).1
          have R2 := rl_cut R1 (Nat.le_of_lt hjl) (List.all_eq_true.mp hb1)
          have nin : a0 ∉ as1.take j := fun z => by
            obtain ⟨k, hk, e⟩ := List.mem_iff_getElem.mp z
            rw [List.length_take] at hk
            rw [List.getElem_take] at e
            obtain ⟨hjk, hja⟩ := List.getElem?_eq_some_iff.mp ha'
            exact List.pairwise_iff_getElem.mp R1.nd k j (by omega) hjk (by omega) (e.trans hja.symm)
          have R3 := R2.guard g0 (by rw [hh]; simp) nin (fun q hq z => (R1.tb.2 q hq).2.2.1 (by rw [z]; exact List.mem_of_getElem? ha'))
          have nn : Nx P as G H (as1.take j) G1 H1 := ⟨by
            obtain ⟨t, e⟩ := n1.pre
            exact ⟨t.take (j - as.length), by rw [e, List.take_append, List.take_of_length_le (by rw [R.len]; exact hj)]⟩, n1.gr, n1.kp⟩
          exact lcF_core ht he R3 (.inr rfl) hh (RepWs.takeA rl hb2) hl hz Q fun v as' G' H' n' R' rr => by
            have n3 := nn.trans (n'.weak fun b hb => .inl hb)
            exact q v as' G' H' n3 ((R'.weak fun b hb => .inl hb).to R.sz fun k w hk => by
              obtain ⟨v, h1, h2⟩ := R.env k w hk
              exact ⟨v, h1, h2.mono n3.gr n3.pre⟩) rr
        · cases h
      · cases h
    · cases h
  · cases h
end
end DX
namespace DX.K01
open PySem PySem.Spec L2 DK
def m_law_sorts_p1 : RS :=
  mAsg (mLst (mCons (mExIs [("InvalidRow", true), ("InvalidTool", false), ("InvalidTerms", false), ("InvalidText", false), ("InvalidEvent", false), ("InvalidFault", false), ("InvalidSeen", false), ("InvalidCommand", false), ("Refused", false)] (mVar 0)) (mCons (mExIs [("InvalidRow", false), ("InvalidTool", true), ("InvalidTerms", false), ("InvalidText", false), ("InvalidEvent", false), ("InvalidFault", false), ("InvalidSeen", false), ("InvalidCommand", false), ("Refused", false)] (mVar 0)) (mCons (mExIs [("InvalidRow", false), ("InvalidTool", false), ("InvalidTerms", true), ("InvalidText", false), ("InvalidEvent", false), ("InvalidFault", false), ("InvalidSeen", false), ("InvalidCommand", false), ("Refused", false)] (mVar 0)) mNil)))) (hName 1)
def m_law_sorts_p2 : RS :=
  mAsg (mOp plusF (mVar 1) (mLst (mCons (mExIs [("InvalidRow", false), ("InvalidTool", false), ("InvalidTerms", false), ("InvalidText", true), ("InvalidEvent", false), ("InvalidFault", false), ("InvalidSeen", false), ("InvalidCommand", false), ("Refused", false)] (mVar 0)) (mCons (mExIs [("InvalidRow", false), ("InvalidTool", false), ("InvalidTerms", false), ("InvalidText", false), ("InvalidEvent", true), ("InvalidFault", false), ("InvalidSeen", false), ("InvalidCommand", false), ("Refused", false)] (mVar 0)) (mCons (mExIs [("InvalidRow", false), ("InvalidTool", false), ("InvalidTerms", false), ("InvalidText", false), ("InvalidEvent", false), ("InvalidFault", true), ("InvalidSeen", false), ("InvalidCommand", false), ("Refused", false)] (mVar 0)) mNil))))) (hName 1)
def m_law_sorts_p3 : RS :=
  mAsg (mOp plusF (mVar 1) (mLst (mCons (mExIs [("InvalidRow", false), ("InvalidTool", false), ("InvalidTerms", false), ("InvalidText", false), ("InvalidEvent", false), ("InvalidFault", false), ("InvalidSeen", true), ("InvalidCommand", false), ("Refused", false)] (mVar 0)) (mCons (mExIs [("InvalidRow", false), ("InvalidTool", false), ("InvalidTerms", false), ("InvalidText", false), ("InvalidEvent", false), ("InvalidFault", false), ("InvalidSeen", false), ("InvalidCommand", true), ("Refused", false)] (mVar 0)) (mCons (mExIs [("InvalidRow", false), ("InvalidTool", false), ("InvalidTerms", false), ("InvalidText", false), ("InvalidEvent", false), ("InvalidFault", false), ("InvalidSeen", false), ("InvalidCommand", false), ("Refused", true)] (mVar 0)) mNil))))) (hName 1)
def m_law_sorts_p4 : RS :=
  mRet (mUn lenF (mLc (kSeq (mVar 1)) (hName 2) (mTest (mVar 2)) (mC (.int 1)) [2]))
def m_law_sorts : RS :=
  (mSeq (m_law_sorts_p1)
      (mSeq (m_law_sorts_p2)
      (mSeq (m_law_sorts_p3)
      (m_law_sorts_p4))))
def f_law_sorts : FX := bodyF true 1 3 m_law_sorts
def m_law_kept_p1 : RS :=
  mAsg (mLsW (mCons (mExvF ["InvalidRow"] "word" (mExV "InvalidRow" "word" (mCons (mVar 0) mNil))) (mCons (mExvF ["InvalidTool"] "word" (mExV "InvalidTool" "word" (mPerm [0] 1 (mCons (mVar 0) mNil)))) mNil))) (hName 1)
def m_law_kept_p2 : RS :=
  mAsg (mAddW (mVar 1) (mLsW (mCons (mExvF ["InvalidTerms"] "word" (mExV "InvalidTerms" "word" (mCons (mVar 0) mNil))) (mCons (mExvF ["InvalidRow"] "word" (mExV "InvalidRow" "word" (mPerm [0] 1 (mCons (mVar 0) mNil)))) mNil)))) (hName 1)
def m_law_kept_p3 : RS :=
  mAsg (mAddW (mVar 1) (mLsW (mCons (mExvF ["InvalidText"] "at" (mExV "InvalidText" "at" (mPerm [0] 1 (mCons (mVar 0) mNil)))) (mCons (mExvF ["InvalidEvent"] "at" (mExV "InvalidEvent" "at" (mCons (mVar 0) mNil))) (mCons (mExvF ["InvalidSeen"] "at" (mExV "InvalidSeen" "at" (mPerm [0] 1 (mCons (mVar 0) mNil)))) (mCons (mExvF ["Refused"] "at" (mExV "Refused" "at" (mCons (mVar 0) mNil))) mNil)))))) (hName 1)
def m_law_kept_p4 : RS :=
  mRet (mAddW (mVar 1) (mLsW (mCons (mExvF ["NoRow"] "at" (mExV "NoRow" "at" (mPerm [0] 1 (mCons (mVar 0) mNil)))) (mCons (mExvF ["NoRow"] "at" (mExV "NoRow" "at" (mCons (mVar 0) mNil))) (mCons (mExvF ["Refused"] "at" (mExV "Refused" "at" (mPerm [0] 1 (mCons (mVar 0) mNil)))) (mCons (mExvF ["InvalidTerms"] "word" (mExV "InvalidTerms" "word" (mPerm [0] 1 (mCons (mVar 0) mNil)))) mNil))))))
def m_law_kept : RS :=
  (mSeq (m_law_kept_p1)
      (mSeq (m_law_kept_p2)
      (mSeq (m_law_kept_p3)
      (m_law_kept_p4))))
def f_law_kept : FX := bodyF true 1 2 m_law_kept
def m_law_value_3 : RS :=
  (mSeq (mAsg (mCall f_law_draw [] (mCons (mVar 0) (mCons (mIf (mTest (mOp gtF (mVar 1) (mC (.int 0)))) (mC (.int 7)) (mC (.int 4))) mNil))) (hName 2))
      (mSeq (mIfS (mTest (mOp (eqF false) (mVar 2) (mC (.int 0)))) (mRet (mCall f_law_pick [] (mCons (mVar 0) (mCons (mLst (mCons (mC (.int 0)) (mCons (mC (.int 1)) (mCons (mOp minusF (mC (.int 0)) (mC (.int 7))) (mCons (mOp pwF (mC (.int 10)) (mC (.int 20))) mNil))))) mNil)))) mNext)
      (mSeq (mIfS (mTest (mOp (eqF false) (mVar 2) (mC (.int 1)))) (mRet (mCall f_law_pick [] (mCons (mVar 0) (mCons (mLst (mCons (mC .non) (mCons (mC (.bl true)) (mCons (mC (.bl false)) mNil)))) mNil)))) mNext)
      (mSeq (mIfS (mTest (mOp ltF (mVar 2) (mC (.int 4)))) (mRet (mCall f_law_pick [] (mCons (mVar 0) (mCons (mLst (mCons (mC (.str "")) (mCons (mC (.str "same")) (mCons (mC (.str "try 1")) (mCons (mC (.str "give")) (mCons (mC (.str "mark k")) (mCons (mC (.str "marked k")) (mCons (mC (.str "not")) (mCons (mC (.str "x y")) mNil))))))))) mNil)))) mNext)
      (mSeq (mAsg (mLc (kRng1 (mCons (mCall f_law_draw [] (mCons (mVar 0) (mCons (mC (.int 4)) mNil))) mNil)) (hName 3) mYes (mCall f_law_value_2 [] (mCons (mVar 0) (mCons (mOp minusF (mVar 1) (mC (.int 1))) mNil))) [3]) (hName 4))
      (mRet (mIf (mTest (mOp (eqF false) (mVar 2) (mC (.int 4)))) (mVar 4) (mUn tupF (mVar 4)))))))))
def f_law_value_3 : FX := bodyF true 2 5 m_law_value_3
def m_law_value_p1 : RS :=
  mAsg (mCall f_law_draw [] (mCons (mVar 0) (mCons (mIf (mTest (mOp gtF (mVar 1) (mC (.int 0)))) (mC (.int 7)) (mC (.int 4))) mNil))) (hName 2)
def m_law_value_p2 : RS :=
  mRet (mCall f_law_pick [] (mCons (mVar 0) (mCons (mLst (mCons (mC (.int 0)) (mCons (mC (.int 1)) (mCons (mOp minusF (mC (.int 0)) (mC (.int 7))) (mCons (mOp pwF (mC (.int 10)) (mC (.int 20))) mNil))))) mNil)))
def m_law_value_p3 : RS :=
  mIfS (mTest (mOp (eqF false) (mVar 2) (mC (.int 0)))) (m_law_value_p2) mNext
def m_law_value_p4 : RS :=
  mRet (mCall f_law_pick [] (mCons (mVar 0) (mCons (mLst (mCons (mC .non) (mCons (mC (.bl true)) (mCons (mC (.bl false)) mNil)))) mNil)))
def m_law_value_p5 : RS :=
  mIfS (mTest (mOp (eqF false) (mVar 2) (mC (.int 1)))) (m_law_value_p4) mNext
def m_law_value_p6 : RS :=
  mRet (mCall f_law_pick [] (mCons (mVar 0) (mCons (mLst (mCons (mC (.str "")) (mCons (mC (.str "same")) (mCons (mC (.str "try 1")) (mCons (mC (.str "give")) (mCons (mC (.str "mark k")) (mCons (mC (.str "marked k")) (mCons (mC (.str "not")) (mCons (mC (.str "x y")) mNil))))))))) mNil)))
def m_law_value_p7 : RS :=
  mIfS (mTest (mOp ltF (mVar 2) (mC (.int 4)))) (m_law_value_p6) mNext
def m_law_value_p8 : RS :=
  mAsg (mLc (kRng1 (mCons (mCall f_law_draw [] (mCons (mVar 0) (mCons (mC (.int 4)) mNil))) mNil)) (hName 3) mYes (mCall f_law_value_3 [] (mCons (mVar 0) (mCons (mOp minusF (mVar 1) (mC (.int 1))) mNil))) [3]) (hName 4)
def m_law_value_p9 : RS :=
  mRet (mIf (mTest (mOp (eqF false) (mVar 2) (mC (.int 4)))) (mVar 4) (mUn tupF (mVar 4)))
def m_law_value : RS :=
  (mSeq (m_law_value_p1)
      (mSeq (m_law_value_p3)
      (mSeq (m_law_value_p5)
      (mSeq (m_law_value_p7)
      (mSeq (m_law_value_p8)
      (m_law_value_p9))))))
def f_law_value : FX := bodyF true 2 5 m_law_value
def m_law_p1 : RS :=
  mAsg (mCall f_law_deal [] (mCons (mVar 0) (mCons (mC (.int 0)) mNil))) (hName 1)
def m_law_p2 : RS :=
  mAsg (mLstM (mCons (mCall f_law_value [] (mCons (mVar 1) (mCons (mC (.int 3)) mNil))) mNil)) (hName 3)
def m_law_p3 : RS :=
  mPar 4 5 (mCons (mExV "NoRow" "at" (mCons (mVar 3) mNil)) (mCons ((mReprW (mCall f_law_kept [] (mCons (mVar 3) mNil)))) mNil))
def m_law_p4 : RS :=
  mDrop (mAppend (mVar 3) (mCons (mCall f_law_value [] (mCons (mVar 1) (mCons (mC (.int 2)) mNil))) mNil))
def m_law_p5 : RS :=
  mRet (mC (.bl false))
def m_law_p6 : RS :=
  mIfS (mOr (mTest (mOp (eqF false) (mVar 5) ((mReprW (mCall f_law_kept [] (mCons (mVar 3) mNil)))))) (mTest (mReprC true (mExvF ["NoRow"] "at" (mVar 4)) (mVar 3)))) (m_law_p5) mNext
def m_law_p7 : RS :=
  mRet (mC (.bl false))
def m_law_p8 : RS :=
  mIfS (mTest (mOp (eqF true) (mLcWf (mCall f_law_kept [] (mCons (mVar 3) mNil)) 6 (mTest (mReprC true (mVar 6) (mVar 3))) (mC (.int 1))) (mLst mNil))) (m_law_p7) mNext
def m_law_1 : RS :=
  (mSeq (m_law_p2)
      (mSeq (m_law_p3)
      (mSeq (m_law_p4)
      (mSeq (m_law_p6)
      (m_law_p8)))))
def m_law_p9 : RS :=
  mFor (kRng1 (mCons (mC (.int 6)) mNil)) (hName 2) (mCut m_law_1)
def m_law_p10 : RS :=
  mAsg (mLsW (mCons (mExV "InvalidRow" "word" (mCons (mC (.str "a")) mNil)) (mCons (mExV "InvalidTool" "word" (mCons (mC (.str "b")) mNil)) (mCons (mExV "InvalidTerms" "word" (mCons (mC (.str "c")) mNil)) (mCons (mExV "InvalidText" "at" (mCons (mC (.int 0)) mNil)) (mCons (mExV "InvalidEvent" "at" (mCons (mC (.int 1)) mNil)) (mCons (mExV0 "InvalidFault") mNil))))))) (hName 7)
def m_law_p11 : RS :=
  mRet (mC (.bl false))
def m_law_p12 : RS :=
  mIfS (mOr (mNot (mTest (mExIs [("InvalidRow", true), ("InvalidTool", true), ("InvalidTerms", true), ("InvalidText", true), ("InvalidEvent", true), ("InvalidFault", true), ("InvalidSeen", true), ("InvalidCommand", true), ("Refused", true), ("NoRow", false)] (mVar 8)))) (mNot (mTest (mExIs [("InvalidRow", true), ("InvalidTool", true), ("InvalidTerms", true), ("InvalidText", true), ("InvalidEvent", true), ("InvalidFault", true), ("InvalidSeen", true), ("InvalidCommand", true), ("Refused", true), ("NoRow", false)] (mVar 8))))) (m_law_p11) mNext
def m_law_p13 : RS :=
  mRet (mC (.bl false))
def m_law_p14 : RS :=
  mIfS (mOr (mTest (mExIs [("InvalidRow", false), ("InvalidTool", false), ("InvalidTerms", false), ("InvalidText", false), ("InvalidEvent", false), ("InvalidFault", false), ("InvalidSeen", false), ("InvalidCommand", false), ("Refused", false), ("NoRow", true)] (mVar 8))) (mTest (mOp (eqF true) (mCall f_law_sorts [] (mCons (mVar 8) mNil)) (mC (.int 1))))) (m_law_p13) mNext
def m_law_2 : RS :=
  (mSeq (m_law_p12)
      (m_law_p14))
def m_law_p15 : RS :=
  mForW (mAddW (mVar 7) (mLsW (mCons (mExV "InvalidSeen" "at" (mCons (mC (.int 2)) mNil)) (mCons (mExV0 "InvalidCommand") (mCons (mExV "Refused" "at" (mCons (mC (.int 3)) mNil)) mNil))))) (hName 8) m_law_2
def m_law_p16 : RS :=
  mAsg (mExV "NoRow" "at" (mCons (mC (.int 3)) mNil)) (hName 8)
def m_law_p17 : RS :=
  mRet (mAndV (mExIs [("InvalidRow", false), ("InvalidTool", false), ("InvalidTerms", false), ("InvalidText", false), ("InvalidEvent", false), ("InvalidFault", false), ("InvalidSeen", false), ("InvalidCommand", false), ("Refused", false), ("NoRow", true)] (mVar 8)) (mAndV (mNotV (mExIs [("InvalidRow", true), ("InvalidTool", true), ("InvalidTerms", true), ("InvalidText", true), ("InvalidEvent", true), ("InvalidFault", true), ("InvalidSeen", true), ("InvalidCommand", true), ("Refused", true), ("NoRow", false)] (mVar 8))) (mNotV (mExIs [("InvalidRow", false), ("InvalidTool", false), ("InvalidTerms", false), ("InvalidText", false), ("InvalidEvent", false), ("InvalidFault", false), ("InvalidSeen", false), ("InvalidCommand", false), ("Refused", false), ("NoRow", false)] (mVar 8)))))
def m_law : RS :=
  (mSeq (m_law_p1)
      (mSeq (m_law_p9)
      (mSeq (m_law_p10)
      (mSeq (m_law_p15)
      (mSeq (m_law_p16)
      (m_law_p17))))))
def f_law : FX := bodyF true 1 9 m_law
end DX.K01
namespace DX.K01
open PySem PySem.Spec PyProof.Rows L2 DK
abbrev nm_law_deal : List Str := ["_law_script", "_law_base", "_law_cell", "_law_cells", "_law_mixed"]
abbrev ps_law_deal : List Str := ["_law_script", "_law_base"]
theorem sc_law_deal : FnScope nm_law_deal ps_law_deal (defScope st_law_deal) := ⟨rfl, rfl, rfl, by decide +kernel, rfl, by decide +kernel, by decide +kernel⟩
abbrev sp_law_deal (K : PySem.W.Frag) [HasW K] : Sp := spF K f_law_deal
abbrev nm_law_draw : List Str := ["_law_deal_here", "_law_many", "_law_rest"]
abbrev ps_law_draw : List Str := ["_law_deal_here", "_law_many"]
theorem sc_law_draw : FnScope nm_law_draw ps_law_draw (defScope st_law_draw) := ⟨rfl, rfl, rfl, by decide +kernel, rfl, by decide +kernel, by decide +kernel⟩
abbrev sp_law_draw (K : PySem.W.Frag) [HasW K] : Sp := spF K f_law_draw
abbrev nm_law_pick : List Str := ["_law_deal_here", "_law_some"]
abbrev ps_law_pick : List Str := ["_law_deal_here", "_law_some"]
theorem sc_law_pick : FnScope nm_law_pick ps_law_pick (defScope st_law_pick) := ⟨rfl, rfl, rfl, by decide +kernel, rfl, by decide +kernel, by decide +kernel⟩
abbrev sp_law_pick (K : PySem.W.Frag) [HasW K] : Sp := spF K f_law_pick
abbrev nm_law_value_0 : List Str := ["_law_deal_here", "_law_deep", "_law_form", "_law_k", "_law_some"]
abbrev ps_law_value_0 : List Str := ["_law_deal_here", "_law_deep"]
theorem sc_law_value_0 : FnScope nm_law_value_0 ps_law_value_0 (defScope st_law_value_0) := ⟨rfl, rfl, rfl, by decide +kernel, rfl, by decide +kernel, by decide +kernel⟩
abbrev sp_law_value_0 (K : PySem.W.Frag) [HasW K] : Sp := spF K f_law_value_0
abbrev nm_law_value_1 : List Str := ["_law_deal_here", "_law_deep", "_law_form", "_law_k", "_law_some"]
abbrev ps_law_value_1 : List Str := ["_law_deal_here", "_law_deep"]
theorem sc_law_value_1 : FnScope nm_law_value_1 ps_law_value_1 (defScope st_law_value_1) := ⟨rfl, rfl, rfl, by decide +kernel, rfl, by decide +kernel, by decide +kernel⟩
abbrev sp_law_value_1 (K : PySem.W.Frag) [HasW K] : Sp := spF K f_law_value_1
abbrev nm_law_value_2 : List Str := ["_law_deal_here", "_law_deep", "_law_form", "_law_k", "_law_some"]
abbrev ps_law_value_2 : List Str := ["_law_deal_here", "_law_deep"]
theorem sc_law_value_2 : FnScope nm_law_value_2 ps_law_value_2 (defScope st_law_value_2) := ⟨rfl, rfl, rfl, by decide +kernel, rfl, by decide +kernel, by decide +kernel⟩
abbrev sp_law_value_2 (K : PySem.W.Frag) [HasW K] : Sp := spF K f_law_value_2
abbrev nm_law_value_3 : List Str := ["_law_deal_here", "_law_deep", "_law_form", "_law_k", "_law_some"]
abbrev ps_law_value_3 : List Str := ["_law_deal_here", "_law_deep"]
theorem sc_law_value_3 : FnScope nm_law_value_3 ps_law_value_3 (defScope st_law_value_3) := ⟨rfl, rfl, rfl, by decide +kernel, rfl, by decide +kernel, by decide +kernel⟩
abbrev sp_law_value_3 (K : PySem.W.Frag) [HasW K] : Sp := spF K f_law_value_3
abbrev nm_law_value : List Str := ["_law_deal_here", "_law_deep", "_law_form", "_law_k", "_law_some"]
abbrev ps_law_value : List Str := ["_law_deal_here", "_law_deep"]
theorem sc_law_value : FnScope nm_law_value ps_law_value (defScope st_law_value) := ⟨rfl, rfl, rfl, by decide +kernel, rfl, by decide +kernel, by decide +kernel⟩
abbrev sp_law_value (K : PySem.W.Frag) [HasW K] : Sp := spF K f_law_value
abbrev nm_law_sorts : List Str := ["_law_one", "_law_found", "_law_is_so"]
abbrev ps_law_sorts : List Str := ["_law_one"]
theorem sc_law_sorts : FnScope nm_law_sorts ps_law_sorts (defScope st_law_sorts) := ⟨rfl, rfl, rfl, by decide +kernel, rfl, by decide +kernel, by decide +kernel⟩
abbrev sp_law_sorts (K : PySem.W.Frag) [HasW K] : Sp := spF K f_law_sorts
abbrev nm_law_kept : List Str := ["_law_thing", "_law_one"]
abbrev ps_law_kept : List Str := ["_law_thing"]
theorem sc_law_kept : FnScope nm_law_kept ps_law_kept (defScope st_law_kept) := ⟨rfl, rfl, rfl, by decide +kernel, rfl, by decide +kernel, by decide +kernel⟩
abbrev sp_law_kept (K : PySem.W.Frag) [HasW K] : Sp := spF K f_law_kept
abbrev nm_law : List Str := ["_law_script", "_law_deal_here", "_law_turn", "_law_thing", "_law_early", "_law_before", "_law_kept_here", "_law_made", "_law_one"]
abbrev ps_law : List Str := ["_law_script"]
theorem sc_law : FnScope nm_law ps_law (defScope st_law) := ⟨rfl, rfl, rfl, by decide +kernel, rfl, by decide +kernel, by decide +kernel⟩
abbrev sp_law (K : PySem.W.Frag) [HasW K] : Sp := spF K f_law
abbrev nm_InvalidRow_init : List Str := ["self", "word"]
abbrev ps_InvalidRow_init : List Str := ["self", "word"]
theorem sc_InvalidRow_init : SupScope nm_InvalidRow_init ps_InvalidRow_init (defScope st_InvalidRow_init) := ⟨rfl, rfl, rfl, by decide +kernel, rfl, by decide +kernel, by decide +kernel, by decide +kernel, rfl, rfl⟩
abbrev nm_InvalidTool_init : List Str := ["self", "word"]
abbrev ps_InvalidTool_init : List Str := ["self", "word"]
theorem sc_InvalidTool_init : SupScope nm_InvalidTool_init ps_InvalidTool_init (defScope st_InvalidTool_init) := ⟨rfl, rfl, rfl, by decide +kernel, rfl, by decide +kernel, by decide +kernel, by decide +kernel, rfl, rfl⟩
abbrev nm_InvalidTerms_init : List Str := ["self", "word"]
abbrev ps_InvalidTerms_init : List Str := ["self", "word"]
theorem sc_InvalidTerms_init : SupScope nm_InvalidTerms_init ps_InvalidTerms_init (defScope st_InvalidTerms_init) := ⟨rfl, rfl, rfl, by decide +kernel, rfl, by decide +kernel, by decide +kernel, by decide +kernel, rfl, rfl⟩
abbrev nm_InvalidText_init : List Str := ["self", "at"]
abbrev ps_InvalidText_init : List Str := ["self", "at"]
theorem sc_InvalidText_init : SupScope nm_InvalidText_init ps_InvalidText_init (defScope st_InvalidText_init) := ⟨rfl, rfl, rfl, by decide +kernel, rfl, by decide +kernel, by decide +kernel, by decide +kernel, rfl, rfl⟩
abbrev nm_InvalidEvent_init : List Str := ["self", "at"]
abbrev ps_InvalidEvent_init : List Str := ["self", "at"]
theorem sc_InvalidEvent_init : SupScope nm_InvalidEvent_init ps_InvalidEvent_init (defScope st_InvalidEvent_init) := ⟨rfl, rfl, rfl, by decide +kernel, rfl, by decide +kernel, by decide +kernel, by decide +kernel, rfl, rfl⟩
abbrev nm_InvalidFault_init : List Str := ["self"]
abbrev ps_InvalidFault_init : List Str := ["self"]
theorem sc_InvalidFault_init : SupScope nm_InvalidFault_init ps_InvalidFault_init (defScope st_InvalidFault_init) := ⟨rfl, rfl, rfl, by decide +kernel, rfl, by decide +kernel, by decide +kernel, by decide +kernel, rfl, rfl⟩
abbrev nm_InvalidSeen_init : List Str := ["self", "at"]
abbrev ps_InvalidSeen_init : List Str := ["self", "at"]
theorem sc_InvalidSeen_init : SupScope nm_InvalidSeen_init ps_InvalidSeen_init (defScope st_InvalidSeen_init) := ⟨rfl, rfl, rfl, by decide +kernel, rfl, by decide +kernel, by decide +kernel, by decide +kernel, rfl, rfl⟩
abbrev nm_InvalidCommand_init : List Str := ["self"]
abbrev ps_InvalidCommand_init : List Str := ["self"]
theorem sc_InvalidCommand_init : SupScope nm_InvalidCommand_init ps_InvalidCommand_init (defScope st_InvalidCommand_init) := ⟨rfl, rfl, rfl, by decide +kernel, rfl, by decide +kernel, by decide +kernel, by decide +kernel, rfl, rfl⟩
abbrev nm_Refused_init : List Str := ["self", "at"]
abbrev ps_Refused_init : List Str := ["self", "at"]
theorem sc_Refused_init : SupScope nm_Refused_init ps_Refused_init (defScope st_Refused_init) := ⟨rfl, rfl, rfl, by decide +kernel, rfl, by decide +kernel, by decide +kernel, by decide +kernel, rfl, rfl⟩
abbrev nm_NoRow_init : List Str := ["self", "at"]
abbrev ps_NoRow_init : List Str := ["self", "at"]
theorem sc_NoRow_init : SupScope nm_NoRow_init ps_NoRow_init (defScope st_NoRow_init) := ⟨rfl, rfl, rfl, by decide +kernel, rfl, by decide +kernel, by decide +kernel, by decide +kernel, rfl, rfl⟩
def t_law_deal (K : PySem.W.Frag) [HasW K] : TS :=
  (tSeq (tAsg (tLc (iSeq K (tSl (rSlc K) (tVar 0) (tPart (tVar 1)) (tPart (tC (.int 60))))) (gName 2) tYes (tCB (rAbs) (tCons (tVar 2) tNil)) [2]) (gName 3))
      (tSeq (tAsg (tOp (rPlus K) (tC (.int 36195017)) (tOp (rTimes K) (tC (.int 43)) (tVar 1))) (gName 4))
      (tSeq (tFor (iSeq K (tVar 3)) (gName 2) (tAsg (tOp (rMd) (tCB (rInt1) (tCons (tOp (rPlus K) (tOp (rTimes K) (tVar 4) (tC (.int 16807))) (tOp (rMd) (tCB (rInt1) (tCons (tVar 2) tNil)) (tC (.int 2147483629)))) tNil)) (tC (.int 2147483647))) (gName 4)))
      (tRet (tLst (tCons (tRevL K (tLc (iSeq K (tVar 3)) (gName 2) (tTest (tOp (rGe') (tVar 2) (tOp (rPw) (tC (.int 10)) (tC (.int 18))))) (tVar 2) [2])) (tCons (tVar 4) tNil)))))))
def t_law_draw (K : PySem.W.Frag) [HasW K] : TS :=
  (tSeq (tWhile (tAnd (tTest (tOp (rNee K) (tOp (rIx K) (tVar 0) (tC (.int 0))) (tLst tNil))) (tTest (tOp (rEqq K) (tOp (rIx K) (tOp (rIx K) (tVar 0) (tC (.int 0))) (tUn (rU fun i => .int (-i)) (tC (.int 1)))) (tC (.int 0))))) (tDrop (tBM0 K "list" rPop (tOp (rIx K) (tVar 0) (tC (.int 0))))))
      (tSeq (tIfS (tTest (tOp (rNee K) (tOp (rIx K) (tVar 0) (tC (.int 0))) (tLst tNil))) (tSeq (tAsg (tBM0 K "list" rPop (tOp (rIx K) (tVar 0) (tC (.int 0)))) (gName 2))
      (tSeq (tDrop (tBM K "list" rAppend (tOp (rIx K) (tVar 0) (tC (.int 0))) (tCons (tOp (rFd) (tVar 2) (tVar 1)) tNil)))
      (tRet (tOp (rMd) (tCB (rInt1) (tCons (tVar 2) tNil)) (tVar 1))))) tNext)
      (tSeq (tAsg (tOp (rMd) (tCB (rInt1) (tCons (tOp (rPlus K) (tOp (rTimes K) (tOp (rIx K) (tVar 0) (tC (.int 1))) (tC (.int 48271))) (tC (.int 11))) tNil)) (tC (.int 2147483647))) (gSub (tVar 0) (tC (.int 1)) rSetL))
      (tRet (tOp (rMd) (tCB (rInt1) (tCons (tOp (rFd) (tOp (rIx K) (tVar 0) (tC (.int 1))) (tC (.int 8))) tNil)) (tVar 1))))))
def t_law_value_0 (K : PySem.W.Frag) [HasW K] : TS :=
  tNever
def t_law_sorts (K : PySem.W.Frag) [HasW K] : TS :=
  (tSeq (tAsg (tLst (tCons (tCB (rIsVs K) (tCons (tVar 0) (tCons (tC (V.ref (He.ga K "InvalidRow"))) tNil))) (tCons (tCB (rIsVs K) (tCons (tVar 0) (tCons (tC (V.ref (He.ga K "InvalidTool"))) tNil))) (tCons (tCB (rIsVs K) (tCons (tVar 0) (tCons (tC (V.ref (He.ga K "InvalidTerms"))) tNil))) tNil)))) (gName 1))
      (tSeq (tAsg (tOp (rPlus K) (tVar 1) (tLst (tCons (tCB (rIsVs K) (tCons (tVar 0) (tCons (tC (V.ref (He.ga K "InvalidText"))) tNil))) (tCons (tCB (rIsVs K) (tCons (tVar 0) (tCons (tC (V.ref (He.ga K "InvalidEvent"))) tNil))) (tCons (tCB (rIsVs K) (tCons (tVar 0) (tCons (tC (V.ref (He.ga K "InvalidFault"))) tNil))) tNil))))) (gName 1))
      (tSeq (tAsg (tOp (rPlus K) (tVar 1) (tLst (tCons (tCB (rIsVs K) (tCons (tVar 0) (tCons (tC (V.ref (He.ga K "InvalidSeen"))) tNil))) (tCons (tCB (rIsVs K) (tCons (tVar 0) (tCons (tC (V.ref (He.ga K "InvalidCommand"))) tNil))) (tCons (tCB (rIsVs K) (tCons (tVar 0) (tCons (tC (V.ref (He.ga K "Refused"))) tNil))) tNil))))) (gName 1))
      (tRet (tCB (rLenA K) (tCons (tLc (iSeq K (tVar 1)) (gName 2) (tB (tVar 2)) (tC (.int 1)) [2]) tNil))))))
def t_law_pick (K : PySem.W.Frag) [HasW K] : TS :=
  (tRet (tOp (rIx K) (tVar 1) (tCall (sp_law_draw K) [] E0 (tCons (tVar 0) (tCons (tCB (rLenA K) (tCons (tVar 1) tNil)) tNil)))))
def t_law_value_1 (K : PySem.W.Frag) [HasW K] : TS :=
  (tSeq (tAsg (tCall (sp_law_draw K) [] E0 (tCons (tVar 0) (tCons (tIf (tTest (tOp (rGt') (tVar 1) (tC (.int 0)))) (tC (.int 7)) (tC (.int 4))) tNil))) (gName 2))
      (tSeq (tIfS (tTest (tOp (rEqq K) (tVar 2) (tC (.int 0)))) (tRet (tCall (sp_law_pick K) [] E0 (tCons (tVar 0) (tCons (tLst (tCons (tC (.int 0)) (tCons (tC (.int 1)) (tCons (tOp (rMinus) (tC (.int 0)) (tC (.int 7))) (tCons (tOp (rPw) (tC (.int 10)) (tC (.int 20))) tNil))))) tNil)))) tNext)
      (tSeq (tIfS (tTest (tOp (rEqq K) (tVar 2) (tC (.int 1)))) (tRet (tCall (sp_law_pick K) [] E0 (tCons (tVar 0) (tCons (tLst (tCons (tC .non) (tCons (tC (.bl true)) (tCons (tC (.bl false)) tNil)))) tNil)))) tNext)
      (tSeq (tIfS (tTest (tOp (rLt') (tVar 2) (tC (.int 4)))) (tRet (tCall (sp_law_pick K) [] E0 (tCons (tVar 0) (tCons (tLst (tCons (tC (.str "")) (tCons (tC (.str "same")) (tCons (tC (.str "try 1")) (tCons (tC (.str "give")) (tCons (tC (.str "mark k")) (tCons (tC (.str "marked k")) (tCons (tC (.str "not")) (tCons (tC (.str "x y")) tNil))))))))) tNil)))) tNext)
      (tSeq (tAsg (tLc (iRng1 (tCons (tCall (sp_law_draw K) [] E0 (tCons (tVar 0) (tCons (tC (.int 4)) tNil))) tNil)) (gName 3) tYes (tCall (sp_law_value_0 K) [] E0 (tCons (tVar 0) (tCons (tOp (rMinus) (tVar 1) (tC (.int 1))) tNil))) [3]) (gName 4))
      (tRet (tIf (tTest (tOp (rEqq K) (tVar 2) (tC (.int 4)))) (tVar 4) (tCB (rTupOf K) (tCons (tVar 4) tNil)))))))))
def t_law_kept (K : PySem.W.Frag) [HasW K] : TS :=
  (tSeq (tAsg (tLst (tCons (tExF K "word" (tExV (He.ga K "InvalidRow") (spXI K (He.ga K "InvalidRow") "word") [] (tCons (tVar 0) tNil))) (tCons (tExF K "word" (tExV (He.ga K "InvalidTool") (spXI K (He.ga K "InvalidTool") "word") [] (tPerm [0] 1 (tCons (tVar 0) tNil)))) tNil))) (gName 1))
      (tSeq (tAsg (tOp (rPlus K) (tVar 1) (tLst (tCons (tExF K "word" (tExV (He.ga K "InvalidTerms") (spXI K (He.ga K "InvalidTerms") "word") [] (tCons (tVar 0) tNil))) (tCons (tExF K "word" (tExV (He.ga K "InvalidRow") (spXI K (He.ga K "InvalidRow") "word") [] (tPerm [0] 1 (tCons (tVar 0) tNil)))) tNil)))) (gName 1))
      (tSeq (tAsg (tOp (rPlus K) (tVar 1) (tLst (tCons (tExF K "at" (tExV (He.ga K "InvalidText") (spXI K (He.ga K "InvalidText") "at") [] (tPerm [0] 1 (tCons (tVar 0) tNil)))) (tCons (tExF K "at" (tExV (He.ga K "InvalidEvent") (spXI K (He.ga K "InvalidEvent") "at") [] (tCons (tVar 0) tNil))) (tCons (tExF K "at" (tExV (He.ga K "InvalidSeen") (spXI K (He.ga K "InvalidSeen") "at") [] (tPerm [0] 1 (tCons (tVar 0) tNil)))) (tCons (tExF K "at" (tExV (He.ga K "Refused") (spXI K (He.ga K "Refused") "at") [] (tCons (tVar 0) tNil))) tNil)))))) (gName 1))
      (tRet (tOp (rPlus K) (tVar 1) (tLst (tCons (tExF K "at" (tExV (He.ga K "NoRow") (spXI K (He.ga K "NoRow") "at") [] (tPerm [0] 1 (tCons (tVar 0) tNil)))) (tCons (tExF K "at" (tExV (He.ga K "NoRow") (spXI K (He.ga K "NoRow") "at") [] (tCons (tVar 0) tNil))) (tCons (tExF K "at" (tExV (He.ga K "Refused") (spXI K (He.ga K "Refused") "at") [] (tPerm [0] 1 (tCons (tVar 0) tNil)))) (tCons (tExF K "word" (tExV (He.ga K "InvalidTerms") (spXI K (He.ga K "InvalidTerms") "word") [] (tPerm [0] 1 (tCons (tVar 0) tNil)))) tNil))))))))))
def t_law_value_2 (K : PySem.W.Frag) [HasW K] : TS :=
  (tSeq (tAsg (tCall (sp_law_draw K) [] E0 (tCons (tVar 0) (tCons (tIf (tTest (tOp (rGt') (tVar 1) (tC (.int 0)))) (tC (.int 7)) (tC (.int 4))) tNil))) (gName 2))
      (tSeq (tIfS (tTest (tOp (rEqq K) (tVar 2) (tC (.int 0)))) (tRet (tCall (sp_law_pick K) [] E0 (tCons (tVar 0) (tCons (tLst (tCons (tC (.int 0)) (tCons (tC (.int 1)) (tCons (tOp (rMinus) (tC (.int 0)) (tC (.int 7))) (tCons (tOp (rPw) (tC (.int 10)) (tC (.int 20))) tNil))))) tNil)))) tNext)
      (tSeq (tIfS (tTest (tOp (rEqq K) (tVar 2) (tC (.int 1)))) (tRet (tCall (sp_law_pick K) [] E0 (tCons (tVar 0) (tCons (tLst (tCons (tC .non) (tCons (tC (.bl true)) (tCons (tC (.bl false)) tNil)))) tNil)))) tNext)
      (tSeq (tIfS (tTest (tOp (rLt') (tVar 2) (tC (.int 4)))) (tRet (tCall (sp_law_pick K) [] E0 (tCons (tVar 0) (tCons (tLst (tCons (tC (.str "")) (tCons (tC (.str "same")) (tCons (tC (.str "try 1")) (tCons (tC (.str "give")) (tCons (tC (.str "mark k")) (tCons (tC (.str "marked k")) (tCons (tC (.str "not")) (tCons (tC (.str "x y")) tNil))))))))) tNil)))) tNext)
      (tSeq (tAsg (tLc (iRng1 (tCons (tCall (sp_law_draw K) [] E0 (tCons (tVar 0) (tCons (tC (.int 4)) tNil))) tNil)) (gName 3) tYes (tCall (sp_law_value_1 K) [] E0 (tCons (tVar 0) (tCons (tOp (rMinus) (tVar 1) (tC (.int 1))) tNil))) [3]) (gName 4))
      (tRet (tIf (tTest (tOp (rEqq K) (tVar 2) (tC (.int 4)))) (tVar 4) (tCB (rTupOf K) (tCons (tVar 4) tNil)))))))))
def t_law_value_3 (K : PySem.W.Frag) [HasW K] : TS :=
  (tSeq (tAsg (tCall (sp_law_draw K) [] E0 (tCons (tVar 0) (tCons (tIf (tTest (tOp (rGt') (tVar 1) (tC (.int 0)))) (tC (.int 7)) (tC (.int 4))) tNil))) (gName 2))
      (tSeq (tIfS (tTest (tOp (rEqq K) (tVar 2) (tC (.int 0)))) (tRet (tCall (sp_law_pick K) [] E0 (tCons (tVar 0) (tCons (tLst (tCons (tC (.int 0)) (tCons (tC (.int 1)) (tCons (tOp (rMinus) (tC (.int 0)) (tC (.int 7))) (tCons (tOp (rPw) (tC (.int 10)) (tC (.int 20))) tNil))))) tNil)))) tNext)
      (tSeq (tIfS (tTest (tOp (rEqq K) (tVar 2) (tC (.int 1)))) (tRet (tCall (sp_law_pick K) [] E0 (tCons (tVar 0) (tCons (tLst (tCons (tC .non) (tCons (tC (.bl true)) (tCons (tC (.bl false)) tNil)))) tNil)))) tNext)
      (tSeq (tIfS (tTest (tOp (rLt') (tVar 2) (tC (.int 4)))) (tRet (tCall (sp_law_pick K) [] E0 (tCons (tVar 0) (tCons (tLst (tCons (tC (.str "")) (tCons (tC (.str "same")) (tCons (tC (.str "try 1")) (tCons (tC (.str "give")) (tCons (tC (.str "mark k")) (tCons (tC (.str "marked k")) (tCons (tC (.str "not")) (tCons (tC (.str "x y")) tNil))))))))) tNil)))) tNext)
      (tSeq (tAsg (tLc (iRng1 (tCons (tCall (sp_law_draw K) [] E0 (tCons (tVar 0) (tCons (tC (.int 4)) tNil))) tNil)) (gName 3) tYes (tCall (sp_law_value_2 K) [] E0 (tCons (tVar 0) (tCons (tOp (rMinus) (tVar 1) (tC (.int 1))) tNil))) [3]) (gName 4))
      (tRet (tIf (tTest (tOp (rEqq K) (tVar 2) (tC (.int 4)))) (tVar 4) (tCB (rTupOf K) (tCons (tVar 4) tNil)))))))))
def t_law_value (K : PySem.W.Frag) [HasW K] : TS :=
  (tSeq (tAsg (tCall (sp_law_draw K) [] E0 (tCons (tVar 0) (tCons (tIf (tTest (tOp (rGt') (tVar 1) (tC (.int 0)))) (tC (.int 7)) (tC (.int 4))) tNil))) (gName 2))
      (tSeq (tIfS (tTest (tOp (rEqq K) (tVar 2) (tC (.int 0)))) (tRet (tCall (sp_law_pick K) [] E0 (tCons (tVar 0) (tCons (tLst (tCons (tC (.int 0)) (tCons (tC (.int 1)) (tCons (tOp (rMinus) (tC (.int 0)) (tC (.int 7))) (tCons (tOp (rPw) (tC (.int 10)) (tC (.int 20))) tNil))))) tNil)))) tNext)
      (tSeq (tIfS (tTest (tOp (rEqq K) (tVar 2) (tC (.int 1)))) (tRet (tCall (sp_law_pick K) [] E0 (tCons (tVar 0) (tCons (tLst (tCons (tC .non) (tCons (tC (.bl true)) (tCons (tC (.bl false)) tNil)))) tNil)))) tNext)
      (tSeq (tIfS (tTest (tOp (rLt') (tVar 2) (tC (.int 4)))) (tRet (tCall (sp_law_pick K) [] E0 (tCons (tVar 0) (tCons (tLst (tCons (tC (.str "")) (tCons (tC (.str "same")) (tCons (tC (.str "try 1")) (tCons (tC (.str "give")) (tCons (tC (.str "mark k")) (tCons (tC (.str "marked k")) (tCons (tC (.str "not")) (tCons (tC (.str "x y")) tNil))))))))) tNil)))) tNext)
      (tSeq (tAsg (tLc (iRng1 (tCons (tCall (sp_law_draw K) [] E0 (tCons (tVar 0) (tCons (tC (.int 4)) tNil))) tNil)) (gName 3) tYes (tCall (sp_law_value_3 K) [] E0 (tCons (tVar 0) (tCons (tOp (rMinus) (tVar 1) (tC (.int 1))) tNil))) [3]) (gName 4))
      (tRet (tIf (tTest (tOp (rEqq K) (tVar 2) (tC (.int 4)))) (tVar 4) (tCB (rTupOf K) (tCons (tVar 4) tNil)))))))))
def t_law (K : PySem.W.Frag) [HasW K] : TS :=
  (tSeq (tAsg (tCall (sp_law_deal K) [] E0 (tCons (tVar 0) (tCons (tC (.int 0)) tNil))) (gName 1))
      (tSeq (tFor (iRng1 (tCons (tC (.int 6)) tNil)) (gName 2) (tSeq (tAsg (tLstM (tCons (tCall (sp_law_value K) [] E0 (tCons (tVar 1) (tCons (tC (.int 3)) tNil))) tNil)) (gName 3))
      (tSeq (tPar 4 5 (tCons (tExV (He.ga K "NoRow") (spXI K (He.ga K "NoRow") "at") [] (tCons (tVar 3) tNil)) (tCons ((tCB (rRepr K) (tCons (tCall (sp_law_kept K) [] E0 (tCons (tVar 3) tNil)) tNil))) tNil)))
      (tSeq (tDrop (tBM K "list" rAppend (tVar 3) (tCons (tCall (sp_law_value K) [] E0 (tCons (tVar 1) (tCons (tC (.int 2)) tNil))) tNil)))
      (tSeq (tIfS (tOr (tTest (tOp (rEqq K) (tVar 5) ((tCB (rRepr K) (tCons (tCall (sp_law_kept K) [] E0 (tCons (tVar 3) tNil)) tNil))))) (tTest (tOp (rNee K) (tCB (rRepr K) (tCons (tExF K "at" (tVar 4)) tNil)) (tCB (rRepr K) (tCons (tVar 3) tNil))))) (tRet (tC (.bl false))) tNext)
      (tIfS (tTest (tOp (rNee K) (tLc (iSeq K (tCall (sp_law_kept K) [] E0 (tCons (tVar 3) tNil))) (gName 6) (tTest (tOp (rNee K) (tCB (rRepr K) (tCons (tVar 6) tNil)) (tCB (rRepr K) (tCons (tVar 3) tNil)))) (tC (.int 1)) [6]) (tLst tNil))) (tRet (tC (.bl false))) tNext))))))
      (tSeq (tAsg (tLst (tCons (tExV (He.ga K "InvalidRow") (spXI K (He.ga K "InvalidRow") "word") [] (tCons (tC (.str "a")) tNil)) (tCons (tExV (He.ga K "InvalidTool") (spXI K (He.ga K "InvalidTool") "word") [] (tCons (tC (.str "b")) tNil)) (tCons (tExV (He.ga K "InvalidTerms") (spXI K (He.ga K "InvalidTerms") "word") [] (tCons (tC (.str "c")) tNil)) (tCons (tExV (He.ga K "InvalidText") (spXI K (He.ga K "InvalidText") "at") [] (tCons (tC (.int 0)) tNil)) (tCons (tExV (He.ga K "InvalidEvent") (spXI K (He.ga K "InvalidEvent") "at") [] (tCons (tC (.int 1)) tNil)) (tCons (tExV (He.ga K "InvalidFault") (spXN (He.ga K "InvalidFault")) [] tNil) tNil))))))) (gName 7))
      (tSeq (tFor (iSeq K (tOp (rPlus K) (tVar 7) (tLst (tCons (tExV (He.ga K "InvalidSeen") (spXI K (He.ga K "InvalidSeen") "at") [] (tCons (tC (.int 2)) tNil)) (tCons (tExV (He.ga K "InvalidCommand") (spXN (He.ga K "InvalidCommand")) [] tNil) (tCons (tExV (He.ga K "Refused") (spXI K (He.ga K "Refused") "at") [] (tCons (tC (.int 3)) tNil)) tNil)))))) (gName 8) (tSeq (tIfS (tOr (tNot (tB (tCB (rIsVs K) (tCons (tVar 8) (tCons (tC (V.ref (He.ga K "CardError"))) tNil))))) (tNot (tB (tCB (rIsVs K) (tCons (tVar 8) (tCons (tC (V.ty "ValueError")) tNil)))))) (tRet (tC (.bl false))) tNext)
      (tIfS (tOr (tB (tCB (rIsVt K) (tCons (tVar 8) (tCons (tTup (tCons (tC (V.ty "KeyError")) (tCons (tC (V.ty "IndexError")) tNil))) tNil)))) (tTest (tOp (rNee K) (tCall (sp_law_sorts K) [] E0 (tCons (tVar 8) tNil)) (tC (.int 1))))) (tRet (tC (.bl false))) tNext)))
      (tSeq (tAsg (tExV (He.ga K "NoRow") (spXI K (He.ga K "NoRow") "at") [] (tCons (tC (.int 3)) tNil)) (gName 8))
      (tRet (tAndV (tCB (rIsVs K) (tCons (tVar 8) (tCons (tC (V.ty "IndexError")) tNil))) (tAndV (tNotV (tCB (rIsVs K) (tCons (tVar 8) (tCons (tC (V.ty "ValueError")) tNil)))) (tNotV (tCB (rIsVs K) (tCons (tVar 8) (tCons (tC (V.ty "KeyError")) tNil))))))))))))
structure Tx (P : Program) (K : PySem.W.Frag) [HasW K] (mg : Str → Option Value) (wld : World) where
  hww : HasW.w K = wld
  f_IndexError : mg "IndexError" = none
  f_KeyError : mg "KeyError" = none
  f_ValueError : mg "ValueError" = none
  f_abs : mg "abs" = none
  f_int : mg "int" = none
  f_isinstance : mg "isinstance" = none
  f_len : mg "len" = none
  f_range : mg "range" = none
  f_repr : mg "repr" = none
  f_super : mg "super" = none
  f_tuple : mg "tuple" = none
  g_CardError : mg "CardError" = some (.ref (He.ga K "CardError"))
  g_InvalidCommand : mg "InvalidCommand" = some (.ref (He.ga K "InvalidCommand"))
  g_InvalidEvent : mg "InvalidEvent" = some (.ref (He.ga K "InvalidEvent"))
  g_InvalidFault : mg "InvalidFault" = some (.ref (He.ga K "InvalidFault"))
  g_InvalidRow : mg "InvalidRow" = some (.ref (He.ga K "InvalidRow"))
  g_InvalidSeen : mg "InvalidSeen" = some (.ref (He.ga K "InvalidSeen"))
  g_InvalidTerms : mg "InvalidTerms" = some (.ref (He.ga K "InvalidTerms"))
  g_InvalidText : mg "InvalidText" = some (.ref (He.ga K "InvalidText"))
  g_InvalidTool : mg "InvalidTool" = some (.ref (He.ga K "InvalidTool"))
  g_NoRow : mg "NoRow" = some (.ref (He.ga K "NoRow"))
  g_Refused : mg "Refused" = some (.ref (He.ga K "Refused"))
  g_law_deal : mg "_law_deal" = some (.ref (He.ga K "_law_deal"))
  g_law_draw : mg "_law_draw" = some (.ref (He.ga K "_law_draw"))
  g_law_pick : mg "_law_pick" = some (.ref (He.ga K "_law_pick"))
  g_law_value_0 : mg "_law_value" = some (.ref (He.ga K "_law_value"))
  g_law_value_1 : mg "_law_value" = some (.ref (He.ga K "_law_value"))
  g_law_value_2 : mg "_law_value" = some (.ref (He.ga K "_law_value"))
  g_law_value_3 : mg "_law_value" = some (.ref (He.ga K "_law_value"))
  g_law_value : mg "_law_value" = some (.ref (He.ga K "_law_value"))
  g_law_sorts : mg "_law_sorts" = some (.ref (He.ga K "_law_sorts"))
  g_law_kept : mg "_law_kept" = some (.ref (He.ga K "_law_kept"))
  g_law : mg "law" = some (.ref (He.ga K "law"))
  xs_InvalidCommand : SupC K (He.ga K "InvalidCommand")
  xi_InvalidCommand : PySem.W.findIn K (.ref (He.ga K "InvalidCommand")) "__init__" = some (some (.ref (He.ma K (He.ga K "InvalidCommand") "__init__"))) ∧ PySem.W.typeIn K (.ref (He.ma K (He.ga K "InvalidCommand") "__init__")) = some (.type "function")
  xd_InvalidCommand : supkB K theFile (He.ga K "InvalidCommand") (He.ma K (He.ga K "InvalidCommand") "__init__") = true
  xs_InvalidEvent : SupC K (He.ga K "InvalidEvent")
  xi_InvalidEvent : PySem.W.findIn K (.ref (He.ga K "InvalidEvent")) "__init__" = some (some (.ref (He.ma K (He.ga K "InvalidEvent") "__init__"))) ∧ PySem.W.typeIn K (.ref (He.ma K (He.ga K "InvalidEvent") "__init__")) = some (.type "function")
  xd_InvalidEvent : supkB K theFile (He.ga K "InvalidEvent") (He.ma K (He.ga K "InvalidEvent") "__init__") = true
  xs_InvalidFault : SupC K (He.ga K "InvalidFault")
  xi_InvalidFault : PySem.W.findIn K (.ref (He.ga K "InvalidFault")) "__init__" = some (some (.ref (He.ma K (He.ga K "InvalidFault") "__init__"))) ∧ PySem.W.typeIn K (.ref (He.ma K (He.ga K "InvalidFault") "__init__")) = some (.type "function")
  xd_InvalidFault : supkB K theFile (He.ga K "InvalidFault") (He.ma K (He.ga K "InvalidFault") "__init__") = true
  xs_InvalidRow : SupC K (He.ga K "InvalidRow")
  xi_InvalidRow : PySem.W.findIn K (.ref (He.ga K "InvalidRow")) "__init__" = some (some (.ref (He.ma K (He.ga K "InvalidRow") "__init__"))) ∧ PySem.W.typeIn K (.ref (He.ma K (He.ga K "InvalidRow") "__init__")) = some (.type "function")
  xd_InvalidRow : supkB K theFile (He.ga K "InvalidRow") (He.ma K (He.ga K "InvalidRow") "__init__") = true
  xs_InvalidSeen : SupC K (He.ga K "InvalidSeen")
  xi_InvalidSeen : PySem.W.findIn K (.ref (He.ga K "InvalidSeen")) "__init__" = some (some (.ref (He.ma K (He.ga K "InvalidSeen") "__init__"))) ∧ PySem.W.typeIn K (.ref (He.ma K (He.ga K "InvalidSeen") "__init__")) = some (.type "function")
  xd_InvalidSeen : supkB K theFile (He.ga K "InvalidSeen") (He.ma K (He.ga K "InvalidSeen") "__init__") = true
  xs_InvalidTerms : SupC K (He.ga K "InvalidTerms")
  xi_InvalidTerms : PySem.W.findIn K (.ref (He.ga K "InvalidTerms")) "__init__" = some (some (.ref (He.ma K (He.ga K "InvalidTerms") "__init__"))) ∧ PySem.W.typeIn K (.ref (He.ma K (He.ga K "InvalidTerms") "__init__")) = some (.type "function")
  xd_InvalidTerms : supkB K theFile (He.ga K "InvalidTerms") (He.ma K (He.ga K "InvalidTerms") "__init__") = true
  xs_InvalidText : SupC K (He.ga K "InvalidText")
  xi_InvalidText : PySem.W.findIn K (.ref (He.ga K "InvalidText")) "__init__" = some (some (.ref (He.ma K (He.ga K "InvalidText") "__init__"))) ∧ PySem.W.typeIn K (.ref (He.ma K (He.ga K "InvalidText") "__init__")) = some (.type "function")
  xd_InvalidText : supkB K theFile (He.ga K "InvalidText") (He.ma K (He.ga K "InvalidText") "__init__") = true
  xs_InvalidTool : SupC K (He.ga K "InvalidTool")
  xi_InvalidTool : PySem.W.findIn K (.ref (He.ga K "InvalidTool")) "__init__" = some (some (.ref (He.ma K (He.ga K "InvalidTool") "__init__"))) ∧ PySem.W.typeIn K (.ref (He.ma K (He.ga K "InvalidTool") "__init__")) = some (.type "function")
  xd_InvalidTool : supkB K theFile (He.ga K "InvalidTool") (He.ma K (He.ga K "InvalidTool") "__init__") = true
  xs_NoRow : SupCI K (He.ga K "NoRow")
  xi_NoRow : PySem.W.findIn K (.ref (He.ga K "NoRow")) "__init__" = some (some (.ref (He.ma K (He.ga K "NoRow") "__init__"))) ∧ PySem.W.typeIn K (.ref (He.ma K (He.ga K "NoRow") "__init__")) = some (.type "function")
  xd_NoRow : supkB K theFile (He.ga K "NoRow") (He.ma K (He.ga K "NoRow") "__init__") = true
  xs_Refused : SupC K (He.ga K "Refused")
  xi_Refused : PySem.W.findIn K (.ref (He.ga K "Refused")) "__init__" = some (some (.ref (He.ma K (He.ga K "Refused") "__init__"))) ∧ PySem.W.typeIn K (.ref (He.ma K (He.ga K "Refused") "__init__")) = some (.type "function")
  xd_Refused : supkB K theFile (He.ga K "Refused") (He.ma K (He.ga K "Refused") "__init__") = true
  xn_InvalidEvent : PySem.W.findIn K (.ref (He.ga K "InvalidEvent")) "at" = some none
  xn_InvalidRow : PySem.W.findIn K (.ref (He.ga K "InvalidRow")) "word" = some none
  xn_InvalidSeen : PySem.W.findIn K (.ref (He.ga K "InvalidSeen")) "at" = some none
  xn_InvalidTerms : PySem.W.findIn K (.ref (He.ga K "InvalidTerms")) "word" = some none
  xn_InvalidText : PySem.W.findIn K (.ref (He.ga K "InvalidText")) "at" = some none
  xn_InvalidTool : PySem.W.findIn K (.ref (He.ga K "InvalidTool")) "word" = some none
  xn_NoRow : PySem.W.findIn K (.ref (He.ga K "NoRow")) "at" = some none
  xn_Refused : PySem.W.findIn K (.ref (He.ga K "Refused")) "at" = some none
  xe_InvalidCommand : ExcC K (He.ga K "InvalidCommand") ∧ XfC K (He.ga K "InvalidCommand") ∧ PySem.W.exmOne K (.ref (He.ga K "InvalidCommand")) (.ref (He.ga K "InvalidCommand")) = some true
  xe_InvalidEvent : ExcC K (He.ga K "InvalidEvent") ∧ XfC K (He.ga K "InvalidEvent") ∧ PySem.W.exmOne K (.ref (He.ga K "InvalidEvent")) (.ref (He.ga K "InvalidEvent")) = some true
  xe_InvalidFault : ExcC K (He.ga K "InvalidFault") ∧ XfC K (He.ga K "InvalidFault") ∧ PySem.W.exmOne K (.ref (He.ga K "InvalidFault")) (.ref (He.ga K "InvalidFault")) = some true
  xe_InvalidRow : ExcC K (He.ga K "InvalidRow") ∧ XfC K (He.ga K "InvalidRow") ∧ PySem.W.exmOne K (.ref (He.ga K "InvalidRow")) (.ref (He.ga K "InvalidRow")) = some true
  xe_InvalidSeen : ExcC K (He.ga K "InvalidSeen") ∧ XfC K (He.ga K "InvalidSeen") ∧ PySem.W.exmOne K (.ref (He.ga K "InvalidSeen")) (.ref (He.ga K "InvalidSeen")) = some true
  xe_InvalidTerms : ExcC K (He.ga K "InvalidTerms") ∧ XfC K (He.ga K "InvalidTerms") ∧ PySem.W.exmOne K (.ref (He.ga K "InvalidTerms")) (.ref (He.ga K "InvalidTerms")) = some true
  xe_InvalidText : ExcC K (He.ga K "InvalidText") ∧ XfC K (He.ga K "InvalidText") ∧ PySem.W.exmOne K (.ref (He.ga K "InvalidText")) (.ref (He.ga K "InvalidText")) = some true
  xe_InvalidTool : ExcC K (He.ga K "InvalidTool") ∧ XfC K (He.ga K "InvalidTool") ∧ PySem.W.exmOne K (.ref (He.ga K "InvalidTool")) (.ref (He.ga K "InvalidTool")) = some true
  xe_NoRow : ExcC K (He.ga K "NoRow") ∧ XfC K (He.ga K "NoRow") ∧ PySem.W.exmOne K (.ref (He.ga K "NoRow")) (.ref (He.ga K "NoRow")) = some true
  xe_Refused : ExcC K (He.ga K "Refused") ∧ XfC K (He.ga K "Refused") ∧ PySem.W.exmOne K (.ref (He.ga K "Refused")) (.ref (He.ga K "Refused")) = some true
  xa_InvalidCommand_KeyError_IndexError : PySem.W.kitAny K (.ref (He.ga K "InvalidCommand")) [(Value.type "KeyError"), (Value.type "IndexError")] = some false
  xa_InvalidEvent_KeyError_IndexError : PySem.W.kitAny K (.ref (He.ga K "InvalidEvent")) [(Value.type "KeyError"), (Value.type "IndexError")] = some false
  xa_InvalidFault_KeyError_IndexError : PySem.W.kitAny K (.ref (He.ga K "InvalidFault")) [(Value.type "KeyError"), (Value.type "IndexError")] = some false
  xa_InvalidRow_KeyError_IndexError : PySem.W.kitAny K (.ref (He.ga K "InvalidRow")) [(Value.type "KeyError"), (Value.type "IndexError")] = some false
  xa_InvalidSeen_KeyError_IndexError : PySem.W.kitAny K (.ref (He.ga K "InvalidSeen")) [(Value.type "KeyError"), (Value.type "IndexError")] = some false
  xa_InvalidTerms_KeyError_IndexError : PySem.W.kitAny K (.ref (He.ga K "InvalidTerms")) [(Value.type "KeyError"), (Value.type "IndexError")] = some false
  xa_InvalidText_KeyError_IndexError : PySem.W.kitAny K (.ref (He.ga K "InvalidText")) [(Value.type "KeyError"), (Value.type "IndexError")] = some false
  xa_InvalidTool_KeyError_IndexError : PySem.W.kitAny K (.ref (He.ga K "InvalidTool")) [(Value.type "KeyError"), (Value.type "IndexError")] = some false
  xa_NoRow_KeyError_IndexError : PySem.W.kitAny K (.ref (He.ga K "NoRow")) [(Value.type "KeyError"), (Value.type "IndexError")] = some true
  xa_Refused_KeyError_IndexError : PySem.W.kitAny K (.ref (He.ga K "Refused")) [(Value.type "KeyError"), (Value.type "IndexError")] = some false
  xt_InvalidCommand_CardError : PySem.W.kitOne K (.ref (He.ga K "InvalidCommand")) (Value.ref (He.ga K "CardError")) = some true
  xt_InvalidCommand_IndexError : PySem.W.kitOne K (.ref (He.ga K "InvalidCommand")) (Value.type "IndexError") = some false
  xt_InvalidCommand_InvalidCommand : PySem.W.kitOne K (.ref (He.ga K "InvalidCommand")) (Value.ref (He.ga K "InvalidCommand")) = some true
  xt_InvalidCommand_InvalidEvent : PySem.W.kitOne K (.ref (He.ga K "InvalidCommand")) (Value.ref (He.ga K "InvalidEvent")) = some false
  xt_InvalidCommand_InvalidFault : PySem.W.kitOne K (.ref (He.ga K "InvalidCommand")) (Value.ref (He.ga K "InvalidFault")) = some false
  xt_InvalidCommand_InvalidRow : PySem.W.kitOne K (.ref (He.ga K "InvalidCommand")) (Value.ref (He.ga K "InvalidRow")) = some false
  xt_InvalidCommand_InvalidSeen : PySem.W.kitOne K (.ref (He.ga K "InvalidCommand")) (Value.ref (He.ga K "InvalidSeen")) = some false
  xt_InvalidCommand_InvalidTerms : PySem.W.kitOne K (.ref (He.ga K "InvalidCommand")) (Value.ref (He.ga K "InvalidTerms")) = some false
  xt_InvalidCommand_InvalidText : PySem.W.kitOne K (.ref (He.ga K "InvalidCommand")) (Value.ref (He.ga K "InvalidText")) = some false
  xt_InvalidCommand_InvalidTool : PySem.W.kitOne K (.ref (He.ga K "InvalidCommand")) (Value.ref (He.ga K "InvalidTool")) = some false
  xt_InvalidCommand_KeyError : PySem.W.kitOne K (.ref (He.ga K "InvalidCommand")) (Value.type "KeyError") = some false
  xt_InvalidCommand_Refused : PySem.W.kitOne K (.ref (He.ga K "InvalidCommand")) (Value.ref (He.ga K "Refused")) = some false
  xt_InvalidCommand_ValueError : PySem.W.kitOne K (.ref (He.ga K "InvalidCommand")) (Value.type "ValueError") = some true
  xt_InvalidEvent_CardError : PySem.W.kitOne K (.ref (He.ga K "InvalidEvent")) (Value.ref (He.ga K "CardError")) = some true
  xt_InvalidEvent_IndexError : PySem.W.kitOne K (.ref (He.ga K "InvalidEvent")) (Value.type "IndexError") = some false
  xt_InvalidEvent_InvalidCommand : PySem.W.kitOne K (.ref (He.ga K "InvalidEvent")) (Value.ref (He.ga K "InvalidCommand")) = some false
  xt_InvalidEvent_InvalidEvent : PySem.W.kitOne K (.ref (He.ga K "InvalidEvent")) (Value.ref (He.ga K "InvalidEvent")) = some true
  xt_InvalidEvent_InvalidFault : PySem.W.kitOne K (.ref (He.ga K "InvalidEvent")) (Value.ref (He.ga K "InvalidFault")) = some false
  xt_InvalidEvent_InvalidRow : PySem.W.kitOne K (.ref (He.ga K "InvalidEvent")) (Value.ref (He.ga K "InvalidRow")) = some false
  xt_InvalidEvent_InvalidSeen : PySem.W.kitOne K (.ref (He.ga K "InvalidEvent")) (Value.ref (He.ga K "InvalidSeen")) = some false
  xt_InvalidEvent_InvalidTerms : PySem.W.kitOne K (.ref (He.ga K "InvalidEvent")) (Value.ref (He.ga K "InvalidTerms")) = some false
  xt_InvalidEvent_InvalidText : PySem.W.kitOne K (.ref (He.ga K "InvalidEvent")) (Value.ref (He.ga K "InvalidText")) = some false
  xt_InvalidEvent_InvalidTool : PySem.W.kitOne K (.ref (He.ga K "InvalidEvent")) (Value.ref (He.ga K "InvalidTool")) = some false
  xt_InvalidEvent_KeyError : PySem.W.kitOne K (.ref (He.ga K "InvalidEvent")) (Value.type "KeyError") = some false
  xt_InvalidEvent_Refused : PySem.W.kitOne K (.ref (He.ga K "InvalidEvent")) (Value.ref (He.ga K "Refused")) = some false
  xt_InvalidEvent_ValueError : PySem.W.kitOne K (.ref (He.ga K "InvalidEvent")) (Value.type "ValueError") = some true
  xt_InvalidFault_CardError : PySem.W.kitOne K (.ref (He.ga K "InvalidFault")) (Value.ref (He.ga K "CardError")) = some true
  xt_InvalidFault_IndexError : PySem.W.kitOne K (.ref (He.ga K "InvalidFault")) (Value.type "IndexError") = some false
  xt_InvalidFault_InvalidCommand : PySem.W.kitOne K (.ref (He.ga K "InvalidFault")) (Value.ref (He.ga K "InvalidCommand")) = some false
  xt_InvalidFault_InvalidEvent : PySem.W.kitOne K (.ref (He.ga K "InvalidFault")) (Value.ref (He.ga K "InvalidEvent")) = some false
  xt_InvalidFault_InvalidFault : PySem.W.kitOne K (.ref (He.ga K "InvalidFault")) (Value.ref (He.ga K "InvalidFault")) = some true
  xt_InvalidFault_InvalidRow : PySem.W.kitOne K (.ref (He.ga K "InvalidFault")) (Value.ref (He.ga K "InvalidRow")) = some false
  xt_InvalidFault_InvalidSeen : PySem.W.kitOne K (.ref (He.ga K "InvalidFault")) (Value.ref (He.ga K "InvalidSeen")) = some false
  xt_InvalidFault_InvalidTerms : PySem.W.kitOne K (.ref (He.ga K "InvalidFault")) (Value.ref (He.ga K "InvalidTerms")) = some false
  xt_InvalidFault_InvalidText : PySem.W.kitOne K (.ref (He.ga K "InvalidFault")) (Value.ref (He.ga K "InvalidText")) = some false
  xt_InvalidFault_InvalidTool : PySem.W.kitOne K (.ref (He.ga K "InvalidFault")) (Value.ref (He.ga K "InvalidTool")) = some false
  xt_InvalidFault_KeyError : PySem.W.kitOne K (.ref (He.ga K "InvalidFault")) (Value.type "KeyError") = some false
  xt_InvalidFault_Refused : PySem.W.kitOne K (.ref (He.ga K "InvalidFault")) (Value.ref (He.ga K "Refused")) = some false
  xt_InvalidFault_ValueError : PySem.W.kitOne K (.ref (He.ga K "InvalidFault")) (Value.type "ValueError") = some true
  xt_InvalidRow_CardError : PySem.W.kitOne K (.ref (He.ga K "InvalidRow")) (Value.ref (He.ga K "CardError")) = some true
  xt_InvalidRow_IndexError : PySem.W.kitOne K (.ref (He.ga K "InvalidRow")) (Value.type "IndexError") = some false
  xt_InvalidRow_InvalidCommand : PySem.W.kitOne K (.ref (He.ga K "InvalidRow")) (Value.ref (He.ga K "InvalidCommand")) = some false
  xt_InvalidRow_InvalidEvent : PySem.W.kitOne K (.ref (He.ga K "InvalidRow")) (Value.ref (He.ga K "InvalidEvent")) = some false
  xt_InvalidRow_InvalidFault : PySem.W.kitOne K (.ref (He.ga K "InvalidRow")) (Value.ref (He.ga K "InvalidFault")) = some false
  xt_InvalidRow_InvalidRow : PySem.W.kitOne K (.ref (He.ga K "InvalidRow")) (Value.ref (He.ga K "InvalidRow")) = some true
  xt_InvalidRow_InvalidSeen : PySem.W.kitOne K (.ref (He.ga K "InvalidRow")) (Value.ref (He.ga K "InvalidSeen")) = some false
  xt_InvalidRow_InvalidTerms : PySem.W.kitOne K (.ref (He.ga K "InvalidRow")) (Value.ref (He.ga K "InvalidTerms")) = some false
  xt_InvalidRow_InvalidText : PySem.W.kitOne K (.ref (He.ga K "InvalidRow")) (Value.ref (He.ga K "InvalidText")) = some false
  xt_InvalidRow_InvalidTool : PySem.W.kitOne K (.ref (He.ga K "InvalidRow")) (Value.ref (He.ga K "InvalidTool")) = some false
  xt_InvalidRow_KeyError : PySem.W.kitOne K (.ref (He.ga K "InvalidRow")) (Value.type "KeyError") = some false
  xt_InvalidRow_Refused : PySem.W.kitOne K (.ref (He.ga K "InvalidRow")) (Value.ref (He.ga K "Refused")) = some false
  xt_InvalidRow_ValueError : PySem.W.kitOne K (.ref (He.ga K "InvalidRow")) (Value.type "ValueError") = some true
  xt_InvalidSeen_CardError : PySem.W.kitOne K (.ref (He.ga K "InvalidSeen")) (Value.ref (He.ga K "CardError")) = some true
  xt_InvalidSeen_IndexError : PySem.W.kitOne K (.ref (He.ga K "InvalidSeen")) (Value.type "IndexError") = some false
  xt_InvalidSeen_InvalidCommand : PySem.W.kitOne K (.ref (He.ga K "InvalidSeen")) (Value.ref (He.ga K "InvalidCommand")) = some false
  xt_InvalidSeen_InvalidEvent : PySem.W.kitOne K (.ref (He.ga K "InvalidSeen")) (Value.ref (He.ga K "InvalidEvent")) = some false
  xt_InvalidSeen_InvalidFault : PySem.W.kitOne K (.ref (He.ga K "InvalidSeen")) (Value.ref (He.ga K "InvalidFault")) = some false
  xt_InvalidSeen_InvalidRow : PySem.W.kitOne K (.ref (He.ga K "InvalidSeen")) (Value.ref (He.ga K "InvalidRow")) = some false
  xt_InvalidSeen_InvalidSeen : PySem.W.kitOne K (.ref (He.ga K "InvalidSeen")) (Value.ref (He.ga K "InvalidSeen")) = some true
  xt_InvalidSeen_InvalidTerms : PySem.W.kitOne K (.ref (He.ga K "InvalidSeen")) (Value.ref (He.ga K "InvalidTerms")) = some false
  xt_InvalidSeen_InvalidText : PySem.W.kitOne K (.ref (He.ga K "InvalidSeen")) (Value.ref (He.ga K "InvalidText")) = some false
  xt_InvalidSeen_InvalidTool : PySem.W.kitOne K (.ref (He.ga K "InvalidSeen")) (Value.ref (He.ga K "InvalidTool")) = some false
  xt_InvalidSeen_KeyError : PySem.W.kitOne K (.ref (He.ga K "InvalidSeen")) (Value.type "KeyError") = some false
  xt_InvalidSeen_Refused : PySem.W.kitOne K (.ref (He.ga K "InvalidSeen")) (Value.ref (He.ga K "Refused")) = some false
  xt_InvalidSeen_ValueError : PySem.W.kitOne K (.ref (He.ga K "InvalidSeen")) (Value.type "ValueError") = some true
  xt_InvalidTerms_CardError : PySem.W.kitOne K (.ref (He.ga K "InvalidTerms")) (Value.ref (He.ga K "CardError")) = some true
  xt_InvalidTerms_IndexError : PySem.W.kitOne K (.ref (He.ga K "InvalidTerms")) (Value.type "IndexError") = some false
  xt_InvalidTerms_InvalidCommand : PySem.W.kitOne K (.ref (He.ga K "InvalidTerms")) (Value.ref (He.ga K "InvalidCommand")) = some false
  xt_InvalidTerms_InvalidEvent : PySem.W.kitOne K (.ref (He.ga K "InvalidTerms")) (Value.ref (He.ga K "InvalidEvent")) = some false
  xt_InvalidTerms_InvalidFault : PySem.W.kitOne K (.ref (He.ga K "InvalidTerms")) (Value.ref (He.ga K "InvalidFault")) = some false
  xt_InvalidTerms_InvalidRow : PySem.W.kitOne K (.ref (He.ga K "InvalidTerms")) (Value.ref (He.ga K "InvalidRow")) = some false
  xt_InvalidTerms_InvalidSeen : PySem.W.kitOne K (.ref (He.ga K "InvalidTerms")) (Value.ref (He.ga K "InvalidSeen")) = some false
  xt_InvalidTerms_InvalidTerms : PySem.W.kitOne K (.ref (He.ga K "InvalidTerms")) (Value.ref (He.ga K "InvalidTerms")) = some true
  xt_InvalidTerms_InvalidText : PySem.W.kitOne K (.ref (He.ga K "InvalidTerms")) (Value.ref (He.ga K "InvalidText")) = some false
  xt_InvalidTerms_InvalidTool : PySem.W.kitOne K (.ref (He.ga K "InvalidTerms")) (Value.ref (He.ga K "InvalidTool")) = some false
  xt_InvalidTerms_KeyError : PySem.W.kitOne K (.ref (He.ga K "InvalidTerms")) (Value.type "KeyError") = some false
  xt_InvalidTerms_Refused : PySem.W.kitOne K (.ref (He.ga K "InvalidTerms")) (Value.ref (He.ga K "Refused")) = some false
  xt_InvalidTerms_ValueError : PySem.W.kitOne K (.ref (He.ga K "InvalidTerms")) (Value.type "ValueError") = some true
  xt_InvalidText_CardError : PySem.W.kitOne K (.ref (He.ga K "InvalidText")) (Value.ref (He.ga K "CardError")) = some true
  xt_InvalidText_IndexError : PySem.W.kitOne K (.ref (He.ga K "InvalidText")) (Value.type "IndexError") = some false
  xt_InvalidText_InvalidCommand : PySem.W.kitOne K (.ref (He.ga K "InvalidText")) (Value.ref (He.ga K "InvalidCommand")) = some false
  xt_InvalidText_InvalidEvent : PySem.W.kitOne K (.ref (He.ga K "InvalidText")) (Value.ref (He.ga K "InvalidEvent")) = some false
  xt_InvalidText_InvalidFault : PySem.W.kitOne K (.ref (He.ga K "InvalidText")) (Value.ref (He.ga K "InvalidFault")) = some false
  xt_InvalidText_InvalidRow : PySem.W.kitOne K (.ref (He.ga K "InvalidText")) (Value.ref (He.ga K "InvalidRow")) = some false
  xt_InvalidText_InvalidSeen : PySem.W.kitOne K (.ref (He.ga K "InvalidText")) (Value.ref (He.ga K "InvalidSeen")) = some false
  xt_InvalidText_InvalidTerms : PySem.W.kitOne K (.ref (He.ga K "InvalidText")) (Value.ref (He.ga K "InvalidTerms")) = some false
  xt_InvalidText_InvalidText : PySem.W.kitOne K (.ref (He.ga K "InvalidText")) (Value.ref (He.ga K "InvalidText")) = some true
  xt_InvalidText_InvalidTool : PySem.W.kitOne K (.ref (He.ga K "InvalidText")) (Value.ref (He.ga K "InvalidTool")) = some false
  xt_InvalidText_KeyError : PySem.W.kitOne K (.ref (He.ga K "InvalidText")) (Value.type "KeyError") = some false
  xt_InvalidText_Refused : PySem.W.kitOne K (.ref (He.ga K "InvalidText")) (Value.ref (He.ga K "Refused")) = some false
  xt_InvalidText_ValueError : PySem.W.kitOne K (.ref (He.ga K "InvalidText")) (Value.type "ValueError") = some true
  xt_InvalidTool_CardError : PySem.W.kitOne K (.ref (He.ga K "InvalidTool")) (Value.ref (He.ga K "CardError")) = some true
  xt_InvalidTool_IndexError : PySem.W.kitOne K (.ref (He.ga K "InvalidTool")) (Value.type "IndexError") = some false
  xt_InvalidTool_InvalidCommand : PySem.W.kitOne K (.ref (He.ga K "InvalidTool")) (Value.ref (He.ga K "InvalidCommand")) = some false
  xt_InvalidTool_InvalidEvent : PySem.W.kitOne K (.ref (He.ga K "InvalidTool")) (Value.ref (He.ga K "InvalidEvent")) = some false
  xt_InvalidTool_InvalidFault : PySem.W.kitOne K (.ref (He.ga K "InvalidTool")) (Value.ref (He.ga K "InvalidFault")) = some false
  xt_InvalidTool_InvalidRow : PySem.W.kitOne K (.ref (He.ga K "InvalidTool")) (Value.ref (He.ga K "InvalidRow")) = some false
  xt_InvalidTool_InvalidSeen : PySem.W.kitOne K (.ref (He.ga K "InvalidTool")) (Value.ref (He.ga K "InvalidSeen")) = some false
  xt_InvalidTool_InvalidTerms : PySem.W.kitOne K (.ref (He.ga K "InvalidTool")) (Value.ref (He.ga K "InvalidTerms")) = some false
  xt_InvalidTool_InvalidText : PySem.W.kitOne K (.ref (He.ga K "InvalidTool")) (Value.ref (He.ga K "InvalidText")) = some false
  xt_InvalidTool_InvalidTool : PySem.W.kitOne K (.ref (He.ga K "InvalidTool")) (Value.ref (He.ga K "InvalidTool")) = some true
  xt_InvalidTool_KeyError : PySem.W.kitOne K (.ref (He.ga K "InvalidTool")) (Value.type "KeyError") = some false
  xt_InvalidTool_Refused : PySem.W.kitOne K (.ref (He.ga K "InvalidTool")) (Value.ref (He.ga K "Refused")) = some false
  xt_InvalidTool_ValueError : PySem.W.kitOne K (.ref (He.ga K "InvalidTool")) (Value.type "ValueError") = some true
  xt_NoRow_CardError : PySem.W.kitOne K (.ref (He.ga K "NoRow")) (Value.ref (He.ga K "CardError")) = some false
  xt_NoRow_IndexError : PySem.W.kitOne K (.ref (He.ga K "NoRow")) (Value.type "IndexError") = some true
  xt_NoRow_KeyError : PySem.W.kitOne K (.ref (He.ga K "NoRow")) (Value.type "KeyError") = some false
  xt_NoRow_ValueError : PySem.W.kitOne K (.ref (He.ga K "NoRow")) (Value.type "ValueError") = some false
  xt_Refused_CardError : PySem.W.kitOne K (.ref (He.ga K "Refused")) (Value.ref (He.ga K "CardError")) = some true
  xt_Refused_IndexError : PySem.W.kitOne K (.ref (He.ga K "Refused")) (Value.type "IndexError") = some false
  xt_Refused_InvalidCommand : PySem.W.kitOne K (.ref (He.ga K "Refused")) (Value.ref (He.ga K "InvalidCommand")) = some false
  xt_Refused_InvalidEvent : PySem.W.kitOne K (.ref (He.ga K "Refused")) (Value.ref (He.ga K "InvalidEvent")) = some false
  xt_Refused_InvalidFault : PySem.W.kitOne K (.ref (He.ga K "Refused")) (Value.ref (He.ga K "InvalidFault")) = some false
  xt_Refused_InvalidRow : PySem.W.kitOne K (.ref (He.ga K "Refused")) (Value.ref (He.ga K "InvalidRow")) = some false
  xt_Refused_InvalidSeen : PySem.W.kitOne K (.ref (He.ga K "Refused")) (Value.ref (He.ga K "InvalidSeen")) = some false
  xt_Refused_InvalidTerms : PySem.W.kitOne K (.ref (He.ga K "Refused")) (Value.ref (He.ga K "InvalidTerms")) = some false
  xt_Refused_InvalidText : PySem.W.kitOne K (.ref (He.ga K "Refused")) (Value.ref (He.ga K "InvalidText")) = some false
  xt_Refused_InvalidTool : PySem.W.kitOne K (.ref (He.ga K "Refused")) (Value.ref (He.ga K "InvalidTool")) = some false
  xt_Refused_KeyError : PySem.W.kitOne K (.ref (He.ga K "Refused")) (Value.type "KeyError") = some false
  xt_Refused_Refused : PySem.W.kitOne K (.ref (He.ga K "Refused")) (Value.ref (He.ga K "Refused")) = some true
  xt_Refused_ValueError : PySem.W.kitOne K (.ref (He.ga K "Refused")) (Value.type "ValueError") = some true
  fd_law_deal : FuncData
  F_law_deal : FunD K "_law_deal" "_law_deal" (defArgs st_law_deal) (defBody st_law_deal) (defScope st_law_deal) [] [] (He.ga K "_law_deal") fd_law_deal
  fd_law_draw : FuncData
  F_law_draw : FunD K "_law_draw" "_law_draw" (defArgs st_law_draw) (defBody st_law_draw) (defScope st_law_draw) [] [] (He.ga K "_law_draw") fd_law_draw
  fd_law_pick : FuncData
  F_law_pick : FunD K "_law_pick" "_law_pick" (defArgs st_law_pick) (defBody st_law_pick) (defScope st_law_pick) [] [] (He.ga K "_law_pick") fd_law_pick
  fd_law_value_0 : FuncData
  F_law_value_0 : FunD K "_law_value" "_law_value" (defArgs st_law_value_0) (defBody st_law_value_0) (defScope st_law_value_0) [] [] (He.ga K "_law_value") fd_law_value_0
  fd_law_value_1 : FuncData
  F_law_value_1 : FunD K "_law_value" "_law_value" (defArgs st_law_value_1) (defBody st_law_value_1) (defScope st_law_value_1) [] [] (He.ga K "_law_value") fd_law_value_1
  fd_law_value_2 : FuncData
  F_law_value_2 : FunD K "_law_value" "_law_value" (defArgs st_law_value_2) (defBody st_law_value_2) (defScope st_law_value_2) [] [] (He.ga K "_law_value") fd_law_value_2
  fd_law_value_3 : FuncData
  F_law_value_3 : FunD K "_law_value" "_law_value" (defArgs st_law_value_3) (defBody st_law_value_3) (defScope st_law_value_3) [] [] (He.ga K "_law_value") fd_law_value_3
  fd_law_value : FuncData
  F_law_value : FunD K "_law_value" "_law_value" (defArgs st_law_value) (defBody st_law_value) (defScope st_law_value) [] [] (He.ga K "_law_value") fd_law_value
  fd_law_sorts : FuncData
  F_law_sorts : FunD K "_law_sorts" "_law_sorts" (defArgs st_law_sorts) (defBody st_law_sorts) (defScope st_law_sorts) [] [] (He.ga K "_law_sorts") fd_law_sorts
  fd_law_kept : FuncData
  F_law_kept : FunD K "_law_kept" "_law_kept" (defArgs st_law_kept) (defBody st_law_kept) (defScope st_law_kept) [] [] (He.ga K "_law_kept") fd_law_kept
  fd_law : FuncData
  F_law : FunD K "law" "law" (defArgs st_law) (defBody st_law) (defScope st_law) [] [] (He.ga K "law") fd_law
  fd_InvalidRow_init : FuncData
  F_InvalidRow_init : FunS K theFile (He.ga K "InvalidRow") "__init__" "InvalidRow.__init__" (defArgs st_InvalidRow_init) (defBody st_InvalidRow_init) (defScope st_InvalidRow_init) (He.ma K (He.ga K "InvalidRow") "__init__") fd_InvalidRow_init
  fd_InvalidTool_init : FuncData
  F_InvalidTool_init : FunS K theFile (He.ga K "InvalidTool") "__init__" "InvalidTool.__init__" (defArgs st_InvalidTool_init) (defBody st_InvalidTool_init) (defScope st_InvalidTool_init) (He.ma K (He.ga K "InvalidTool") "__init__") fd_InvalidTool_init
  fd_InvalidTerms_init : FuncData
  F_InvalidTerms_init : FunS K theFile (He.ga K "InvalidTerms") "__init__" "InvalidTerms.__init__" (defArgs st_InvalidTerms_init) (defBody st_InvalidTerms_init) (defScope st_InvalidTerms_init) (He.ma K (He.ga K "InvalidTerms") "__init__") fd_InvalidTerms_init
  fd_InvalidText_init : FuncData
  F_InvalidText_init : FunS K theFile (He.ga K "InvalidText") "__init__" "InvalidText.__init__" (defArgs st_InvalidText_init) (defBody st_InvalidText_init) (defScope st_InvalidText_init) (He.ma K (He.ga K "InvalidText") "__init__") fd_InvalidText_init
  fd_InvalidEvent_init : FuncData
  F_InvalidEvent_init : FunS K theFile (He.ga K "InvalidEvent") "__init__" "InvalidEvent.__init__" (defArgs st_InvalidEvent_init) (defBody st_InvalidEvent_init) (defScope st_InvalidEvent_init) (He.ma K (He.ga K "InvalidEvent") "__init__") fd_InvalidEvent_init
  fd_InvalidFault_init : FuncData
  F_InvalidFault_init : FunS K theFile (He.ga K "InvalidFault") "__init__" "InvalidFault.__init__" (defArgs st_InvalidFault_init) (defBody st_InvalidFault_init) (defScope st_InvalidFault_init) (He.ma K (He.ga K "InvalidFault") "__init__") fd_InvalidFault_init
  fd_InvalidSeen_init : FuncData
  F_InvalidSeen_init : FunS K theFile (He.ga K "InvalidSeen") "__init__" "InvalidSeen.__init__" (defArgs st_InvalidSeen_init) (defBody st_InvalidSeen_init) (defScope st_InvalidSeen_init) (He.ma K (He.ga K "InvalidSeen") "__init__") fd_InvalidSeen_init
  fd_InvalidCommand_init : FuncData
  F_InvalidCommand_init : FunS K theFile (He.ga K "InvalidCommand") "__init__" "InvalidCommand.__init__" (defArgs st_InvalidCommand_init) (defBody st_InvalidCommand_init) (defScope st_InvalidCommand_init) (He.ma K (He.ga K "InvalidCommand") "__init__") fd_InvalidCommand_init
  fd_Refused_init : FuncData
  F_Refused_init : FunS K theFile (He.ga K "Refused") "__init__" "Refused.__init__" (defArgs st_Refused_init) (defBody st_Refused_init) (defScope st_Refused_init) (He.ma K (He.ga K "Refused") "__init__") fd_Refused_init
  fd_NoRow_init : FuncData
  F_NoRow_init : FunS K theFile (He.ga K "NoRow") "__init__" "NoRow.__init__" (defArgs st_NoRow_init) (defBody st_NoRow_init) (defScope st_NoRow_init) (He.ma K (He.ga K "NoRow") "__init__") fd_NoRow_init
  hP : SupP P theFile
section
variable {P : Program} {w : World} {K : PySem.W.Frag} [HasW K] {mg : Str → Option Value} {base : Heap}
theorem okx_InvalidRow_init (T : Tx P K mg w) : FnOk P w K mg base CX0 1 (He.ma K (He.ga K "InvalidRow") "__init__") T.fd_InvalidRow_init ps_InvalidRow_init (spXI K (He.ga K "InvalidRow") "word") :=
  T.F_InvalidRow_init.xok T.hP T.xs_InvalidRow T.xn_InvalidRow sc_InvalidRow_init T.f_super rfl rfl rfl rfl (fun _ _ _ => rfl) (fun _ _ _ => rfl) (fun _ _ _ => rfl) fun cda cc A outer s H E => pss_one (ps_ost (pv 0) (pv 1))
theorem bi_InvalidRow_init (T : Tx P K mg w) : Binds K T.fd_InvalidRow_init ps_InvalidRow_init [] := T.F_InvalidRow_init.bind fun _ _ _ _ _ _ _ us hl => match us, hl with | [_, _], _ => rfl
theorem okx_InvalidTool_init (T : Tx P K mg w) : FnOk P w K mg base CX0 1 (He.ma K (He.ga K "InvalidTool") "__init__") T.fd_InvalidTool_init ps_InvalidTool_init (spXI K (He.ga K "InvalidTool") "word") :=
  T.F_InvalidTool_init.xok T.hP T.xs_InvalidTool T.xn_InvalidTool sc_InvalidTool_init T.f_super rfl rfl rfl rfl (fun _ _ _ => rfl) (fun _ _ _ => rfl) (fun _ _ _ => rfl) fun cda cc A outer s H E => pss_one (ps_ost (pv 0) (pv 1))
theorem bi_InvalidTool_init (T : Tx P K mg w) : Binds K T.fd_InvalidTool_init ps_InvalidTool_init [] := T.F_InvalidTool_init.bind fun _ _ _ _ _ _ _ us hl => match us, hl with | [_, _], _ => rfl
theorem okx_InvalidTerms_init (T : Tx P K mg w) : FnOk P w K mg base CX0 1 (He.ma K (He.ga K "InvalidTerms") "__init__") T.fd_InvalidTerms_init ps_InvalidTerms_init (spXI K (He.ga K "InvalidTerms") "word") :=
  T.F_InvalidTerms_init.xok T.hP T.xs_InvalidTerms T.xn_InvalidTerms sc_InvalidTerms_init T.f_super rfl rfl rfl rfl (fun _ _ _ => rfl) (fun _ _ _ => rfl) (fun _ _ _ => rfl) fun cda cc A outer s H E => pss_one (ps_ost (pv 0) (pv 1))
theorem bi_InvalidTerms_init (T : Tx P K mg w) : Binds K T.fd_InvalidTerms_init ps_InvalidTerms_init [] := T.F_InvalidTerms_init.bind fun _ _ _ _ _ _ _ us hl => match us, hl with | [_, _], _ => rfl
theorem okx_InvalidText_init (T : Tx P K mg w) : FnOk P w K mg base CX0 1 (He.ma K (He.ga K "InvalidText") "__init__") T.fd_InvalidText_init ps_InvalidText_init (spXI K (He.ga K "InvalidText") "at") :=
  T.F_InvalidText_init.xok T.hP T.xs_InvalidText T.xn_InvalidText sc_InvalidText_init T.f_super rfl rfl rfl rfl (fun _ _ _ => rfl) (fun _ _ _ => rfl) (fun _ _ _ => rfl) fun cda cc A outer s H E => pss_one (ps_ost (pv 0) (pv 1))
theorem bi_InvalidText_init (T : Tx P K mg w) : Binds K T.fd_InvalidText_init ps_InvalidText_init [] := T.F_InvalidText_init.bind fun _ _ _ _ _ _ _ us hl => match us, hl with | [_, _], _ => rfl
theorem okx_InvalidEvent_init (T : Tx P K mg w) : FnOk P w K mg base CX0 1 (He.ma K (He.ga K "InvalidEvent") "__init__") T.fd_InvalidEvent_init ps_InvalidEvent_init (spXI K (He.ga K "InvalidEvent") "at") :=
  T.F_InvalidEvent_init.xok T.hP T.xs_InvalidEvent T.xn_InvalidEvent sc_InvalidEvent_init T.f_super rfl rfl rfl rfl (fun _ _ _ => rfl) (fun _ _ _ => rfl) (fun _ _ _ => rfl) fun cda cc A outer s H E => pss_one (ps_ost (pv 0) (pv 1))
theorem bi_InvalidEvent_init (T : Tx P K mg w) : Binds K T.fd_InvalidEvent_init ps_InvalidEvent_init [] := T.F_InvalidEvent_init.bind fun _ _ _ _ _ _ _ us hl => match us, hl with | [_, _], _ => rfl
theorem okx_InvalidFault_init (T : Tx P K mg w) : FnOk P w K mg base CX0 1 (He.ma K (He.ga K "InvalidFault") "__init__") T.fd_InvalidFault_init ps_InvalidFault_init (spXN (He.ga K "InvalidFault")) :=
  T.F_InvalidFault_init.xok0 T.hP T.xs_InvalidFault sc_InvalidFault_init T.f_super rfl rfl rfl rfl (fun _ _ _ => rfl) (fun _ _ _ => rfl) (fun _ _ _ => rfl)
theorem bi_InvalidFault_init (T : Tx P K mg w) : Binds K T.fd_InvalidFault_init ps_InvalidFault_init [] := T.F_InvalidFault_init.bind fun _ _ _ _ _ _ _ us hl => match us, hl with | [_], _ => rfl
theorem okx_InvalidSeen_init (T : Tx P K mg w) : FnOk P w K mg base CX0 1 (He.ma K (He.ga K "InvalidSeen") "__init__") T.fd_InvalidSeen_init ps_InvalidSeen_init (spXI K (He.ga K "InvalidSeen") "at") :=
  T.F_InvalidSeen_init.xok T.hP T.xs_InvalidSeen T.xn_InvalidSeen sc_InvalidSeen_init T.f_super rfl rfl rfl rfl (fun _ _ _ => rfl) (fun _ _ _ => rfl) (fun _ _ _ => rfl) fun cda cc A outer s H E => pss_one (ps_ost (pv 0) (pv 1))
theorem bi_InvalidSeen_init (T : Tx P K mg w) : Binds K T.fd_InvalidSeen_init ps_InvalidSeen_init [] := T.F_InvalidSeen_init.bind fun _ _ _ _ _ _ _ us hl => match us, hl with | [_, _], _ => rfl
theorem okx_InvalidCommand_init (T : Tx P K mg w) : FnOk P w K mg base CX0 1 (He.ma K (He.ga K "InvalidCommand") "__init__") T.fd_InvalidCommand_init ps_InvalidCommand_init (spXN (He.ga K "InvalidCommand")) :=
  T.F_InvalidCommand_init.xok0 T.hP T.xs_InvalidCommand sc_InvalidCommand_init T.f_super rfl rfl rfl rfl (fun _ _ _ => rfl) (fun _ _ _ => rfl) (fun _ _ _ => rfl)
theorem bi_InvalidCommand_init (T : Tx P K mg w) : Binds K T.fd_InvalidCommand_init ps_InvalidCommand_init [] := T.F_InvalidCommand_init.bind fun _ _ _ _ _ _ _ us hl => match us, hl with | [_], _ => rfl
theorem okx_Refused_init (T : Tx P K mg w) : FnOk P w K mg base CX0 1 (He.ma K (He.ga K "Refused") "__init__") T.fd_Refused_init ps_Refused_init (spXI K (He.ga K "Refused") "at") :=
  T.F_Refused_init.xok T.hP T.xs_Refused T.xn_Refused sc_Refused_init T.f_super rfl rfl rfl rfl (fun _ _ _ => rfl) (fun _ _ _ => rfl) (fun _ _ _ => rfl) fun cda cc A outer s H E => pss_one (ps_ost (pv 0) (pv 1))
theorem bi_Refused_init (T : Tx P K mg w) : Binds K T.fd_Refused_init ps_Refused_init [] := T.F_Refused_init.bind fun _ _ _ _ _ _ _ us hl => match us, hl with | [_, _], _ => rfl
theorem okx_NoRow_init (T : Tx P K mg w) : FnOk P w K mg base CX0 1 (He.ma K (He.ga K "NoRow") "__init__") T.fd_NoRow_init ps_NoRow_init (spXI K (He.ga K "NoRow") "at") :=
  T.F_NoRow_init.xokI T.hP T.xs_NoRow T.xn_NoRow sc_NoRow_init T.f_super rfl rfl rfl rfl (fun _ _ _ => rfl) (fun _ _ _ => rfl) (fun _ _ _ => rfl) fun cda cc A outer s H E => pss_one (ps_ostI (pv 0) (pv 1))
theorem bi_NoRow_init (T : Tx P K mg w) : Binds K T.fd_NoRow_init ps_NoRow_init [] := T.F_NoRow_init.bind fun _ _ _ _ _ _ _ us hl => match us, hl with | [_, _], _ => rfl
theorem sd_law_deal (T : Tx P K mg w) : SnS K (t_law_deal K) m_law_deal := by
  unfold t_law_deal m_law_deal
  exact (sn_seq (sn_asg (sn_lc (sn_iSeq (sn_sl (sn_var) (sn_part (sn_var)) (sn_part (sn_int)))) sn_cName sn_yes (sn_cb1 ou_abs (sn_var))) sn_gName)
      (sn_seq (sn_asg (sn_op ov_plus (sn_int) (sn_op ov_times (sn_int) (sn_var))) sn_gName)
      (sn_seq (sn_for (sn_iSeq (sn_var)) sn_gName (sn_asg (sn_op ov_md (sn_cb1 ou_int (sn_op ov_plus (sn_op ov_times (sn_var) (sn_int)) (sn_op ov_md (sn_cb1 ou_int (sn_var)) (sn_int)))) (sn_int)) sn_gName))
      (sn_ret (sn_lsW (sn_cons (sn_revM (sn_lc (sn_iSeq (sn_var)) sn_cName (sn_test (sn_op ov_ge (sn_var) (sn_op ov_pw (sn_int) (sn_int)))) (sn_var))) (sn_cons (sn_var) sn_nil)))))))
theorem ok_law_deal (T : Tx P K mg w) : FnOk P w K mg base CX0 1 (He.ga K "_law_deal") T.fd_law_deal ps_law_deal (sp_law_deal K) := by
  refine T.F_law_deal.ok sc_law_deal (fun vs H Q E h => ln_body h) (fun cdv A outer s H vs Q E hr h => ⟨t_law_deal K, PSs.nox ?_, fn_rd (N := nm_law_deal) (fn_body (sd_law_deal T)) h⟩)
  exact (pss_cons (ps_setLc (i := 3) (own := [("_law_cell", 2)]) rfl sc_law_deal.nd rfl rfl (sw_true rfl rfl rfl (by decide +kernel)) (pi_seq (pe_slice sl_any (pv 0) (po_some (pv 1)) (po_some (pe_int)))) (blkOk_by (own := [("_law_cell", 2)]) (N := nm_law_deal) (sc := defScope st_law_deal) (by decide +kernel)) (fun _ _ _ _ _ => (pg_n 2 sc_law_deal.nd)) (fun _ _ _ _ _ => pts_nil) (fun _ _ _ _ _ => (pe_callB (call_abs') (by rfl) T.f_abs (by decide +kernel) (pa_cons (pv 2) pa_nil))))
      (pss_cons (ps_a 4 sc_law_deal.nd (pe_op op_plus (pe_int) (pe_op op_times (pe_int) (pv 1))))
      (pss_cons (ps_for PassesOwn.never rfl (pi_seq (pv 3)) (pg_n 2 sc_law_deal.nd) (pss_one (ps_a 4 sc_law_deal.nd (pe_op op_md (pe_callTy (call_int1') (by rfl) T.f_int (by decide +kernel) (pa_cons (pe_op op_plus (pe_op op_times (pv 4) (pe_int)) (pe_op op_md (pe_callTy (call_int1') (by rfl) T.f_int (by decide +kernel) (pa_cons (pv 2) pa_nil)) (pe_int))) pa_nil)) (pe_int)))))
      (pss_one (ps_ret (pe_lst (pa_cons (pe_revL (pe_lc (own := [("_law_cell", 2)]) rfl sc_law_deal.nd (pi_seq (pv 3)) (blkOk_by (own := [("_law_cell", 2)]) (N := nm_law_deal) (sc := defScope st_law_deal) (by decide +kernel)) (fun _ _ _ _ _ => (pg_n 2 sc_law_deal.nd)) (fun _ _ _ _ _ => pts_one (pt_cmpR (op_ge') (pv 2) (pe_op op_pw (pe_int) (pe_int)) (nomark _))) (fun _ _ _ _ _ => (pv 2)))) (pa_cons (pv 4) pa_nil))))))))
theorem b_law_deal (T : Tx P K mg w) : Binds K T.fd_law_deal ps_law_deal [] := T.F_law_deal.bindsN fun _ _ _ _ _ _ us hl => match us, hl with | [_, _], _ => rfl
theorem sd_law_draw (T : Tx P K mg w) : SnS K (t_law_draw K) m_law_draw := by
  unfold t_law_draw m_law_draw
  exact (sn_seq (sn_while (sn_and (sn_test (sn_op ov_ne (sn_ix (sn_var) (sn_int)) (sn_lst sn_nil))) (sn_test (sn_op ov_eq (sn_ix (sn_ix (sn_var) (sn_int)) (sn_un ou_neg (sn_int))) (sn_int)))) (sn_drop (sn_pop (sn_ix (sn_var) (sn_int)))))
      (sn_seq (sn_ifS (sn_test (sn_op ov_ne (sn_ix (sn_var) (sn_int)) (sn_lst sn_nil))) (sn_seq (sn_asg (sn_pop (sn_ix (sn_var) (sn_int))) sn_gName)
      (sn_seq (sn_drop (sn_append (sn_ix (sn_var) (sn_int)) (sn_cons (sn_op ov_fd (sn_var) (sn_var)) sn_nil)))
      (sn_ret (sn_op ov_md (sn_cb1 ou_int (sn_var)) (sn_var))))) sn_next)
      (sn_seq (sn_setI (sn_op ov_md (sn_cb1 ou_int (sn_op ov_plus (sn_op ov_times (sn_ix (sn_var) (sn_int)) (sn_int)) (sn_int))) (sn_int)) (sn_var) (sn_int))
      (sn_ret (sn_op ov_md (sn_cb1 ou_int (sn_op ov_fd (sn_ix (sn_var) (sn_int)) (sn_int))) (sn_var))))))
theorem ok_law_draw (T : Tx P K mg w) : FnOk P w K mg base CX0 1 (He.ga K "_law_draw") T.fd_law_draw ps_law_draw (sp_law_draw K) := by
  refine T.F_law_draw.ok sc_law_draw (fun vs H Q E h => ln_body h) (fun cdv A outer s H vs Q E hr h => ⟨t_law_draw K, PSs.nox ?_, fn_rd (N := nm_law_draw) (fn_body (sd_law_draw T)) h⟩)
  exact (pss_cons (ps_while PassesOwn.never (PW.pt (pw_and (pt_cmpR (op_nee hr.units) (pe_ix ix_seq (pv 0) (pe_int) (fun _ _ => rfl)) (pe_lst pa_nil) (nomark _)) (pw_and1 (pt_cmpR (op_eqq hr.units) (pe_ix ix_seq (pe_ix ix_seq (pv 0) (pe_int) (fun _ _ => rfl)) (pe_un un_neg (pe_int)) (fun _ _ => rfl)) (pe_int) (nomark _))))) (pss_one (ps_expr (pe_bm0 PySem.F.plainAttrs_list PySem.F.slot_list_pop PySem.F.type_list_pop mt_pop (pe_ix ix_seq (pv 0) (pe_int) (fun _ _ => rfl))))))
      (pss_cons (ps_if (pt_cmpR (op_nee hr.units) (pe_ix ix_seq (pv 0) (pe_int) (fun _ _ => rfl)) (pe_lst pa_nil) (nomark _)) (pss_cons (ps_a 2 sc_law_draw.nd (pe_bm0 PySem.F.plainAttrs_list PySem.F.slot_list_pop PySem.F.type_list_pop mt_pop (pe_ix ix_seq (pv 0) (pe_int) (fun _ _ => rfl))))
      (pss_cons (ps_expr (pe_bm PySem.F.plainAttrs_list PySem.F.slot_list_append PySem.F.type_list_append mt_append (pe_ix ix_seq (pv 0) (pe_int) (fun _ _ => rfl)) (pa_cons (pe_op op_fd (pv 2) (pv 1)) pa_nil)))
      (pss_one (ps_ret (pe_op op_md (pe_callTy (call_int1') (by rfl) T.f_int (by decide +kernel) (pa_cons (pv 2) pa_nil)) (pv 1)))))) pss_nil)
      (pss_cons (ps_asg (pe_op op_md (pe_callTy (call_int1') (by rfl) T.f_int (by decide +kernel) (pa_cons (pe_op op_plus (pe_op op_times (pe_ix ix_seq (pv 0) (pe_int) (fun _ _ => rfl)) (pe_int)) (pe_int)) pa_nil)) (pe_int)) (pg_sub (pv 0) (pe_int) set_list))
      (pss_one (ps_ret (pe_op op_md (pe_callTy (call_int1') (by rfl) T.f_int (by decide +kernel) (pa_cons (pe_op op_fd (pe_ix ix_seq (pv 0) (pe_int) (fun _ _ => rfl)) (pe_int)) pa_nil)) (pv 1)))))))
theorem b_law_draw (T : Tx P K mg w) : Binds K T.fd_law_draw ps_law_draw [] := T.F_law_draw.bindsN fun _ _ _ _ _ _ us hl => match us, hl with | [_, _], _ => rfl
theorem sd_law_value_0 (T : Tx P K mg w) : SnS K (t_law_value_0 K) m_law_value_0 := by
  unfold t_law_value_0 m_law_value_0
  exact sn_never
theorem ok_law_value_0 (T : Tx P K mg w) : FnOk P w K mg base CX0 1 (He.ga K "_law_value") T.fd_law_value_0 ps_law_value_0 (sp_law_value_0 K) := by
  refine T.F_law_value_0.ok sc_law_value_0 (fun vs H Q E h => ln_body h) (fun cdv A outer s H vs Q E hr h => ⟨t_law_value_0 K, PSs.nox ?_, fn_rd (N := nm_law_value_0) (fn_body (sd_law_value_0 T)) h⟩)
  exact pss_never
theorem b_law_value_0 (T : Tx P K mg w) : Binds K T.fd_law_value_0 ps_law_value_0 [] := T.F_law_value_0.bindsN fun _ _ _ _ _ _ us hl => match us, hl with | [_, _], _ => rfl
theorem sd_law_sorts (T : Tx P K mg w) : SnS K (t_law_sorts K) m_law_sorts := by
  unfold t_law_sorts m_law_sorts
  exact (sn_seq (sn_asg (sn_lst (sn_cons (sn_exIs (cv := (Value.ref (He.ga K "InvalidRow"))) (fun u h => h) (by intro c b hc; simp only [List.mem_cons, List.not_mem_nil, or_false, Prod.mk.injEq] at hc; rcases hc with ⟨rfl, rfl⟩ | ⟨rfl, rfl⟩ | ⟨rfl, rfl⟩ | ⟨rfl, rfl⟩ | ⟨rfl, rfl⟩ | ⟨rfl, rfl⟩ | ⟨rfl, rfl⟩ | ⟨rfl, rfl⟩ | ⟨rfl, rfl⟩ <;> first | exact ⟨T.xe_InvalidRow.1, T.xt_InvalidRow_InvalidRow⟩ | exact ⟨T.xe_InvalidTool.1, T.xt_InvalidTool_InvalidRow⟩ | exact ⟨T.xe_InvalidTerms.1, T.xt_InvalidTerms_InvalidRow⟩ | exact ⟨T.xe_InvalidText.1, T.xt_InvalidText_InvalidRow⟩ | exact ⟨T.xe_InvalidEvent.1, T.xt_InvalidEvent_InvalidRow⟩ | exact ⟨T.xe_InvalidFault.1, T.xt_InvalidFault_InvalidRow⟩ | exact ⟨T.xe_InvalidSeen.1, T.xt_InvalidSeen_InvalidRow⟩ | exact ⟨T.xe_InvalidCommand.1, T.xt_InvalidCommand_InvalidRow⟩ | exact ⟨T.xe_Refused.1, T.xt_Refused_InvalidRow⟩) (sn_var)) (sn_cons (sn_exIs (cv := (Value.ref (He.ga K "InvalidTool"))) (fun u h => h) (by intro c b hc; simp only [List.mem_cons, List.not_mem_nil, or_false, Prod.mk.injEq] at hc; rcases hc with ⟨rfl, rfl⟩ | ⟨rfl, rfl⟩ | ⟨rfl, rfl⟩ | ⟨rfl, rfl⟩ | ⟨rfl, rfl⟩ | ⟨rfl, rfl⟩ | ⟨rfl, rfl⟩ | ⟨rfl, rfl⟩ | ⟨rfl, rfl⟩ <;> first | exact ⟨T.xe_InvalidRow.1, T.xt_InvalidRow_InvalidTool⟩ | exact ⟨T.xe_InvalidTool.1, T.xt_InvalidTool_InvalidTool⟩ | exact ⟨T.xe_InvalidTerms.1, T.xt_InvalidTerms_InvalidTool⟩ | exact ⟨T.xe_InvalidText.1, T.xt_InvalidText_InvalidTool⟩ | exact ⟨T.xe_InvalidEvent.1, T.xt_InvalidEvent_InvalidTool⟩ | exact ⟨T.xe_InvalidFault.1, T.xt_InvalidFault_InvalidTool⟩ | exact ⟨T.xe_InvalidSeen.1, T.xt_InvalidSeen_InvalidTool⟩ | exact ⟨T.xe_InvalidCommand.1, T.xt_InvalidCommand_InvalidTool⟩ | exact ⟨T.xe_Refused.1, T.xt_Refused_InvalidTool⟩) (sn_var)) (sn_cons (sn_exIs (cv := (Value.ref (He.ga K "InvalidTerms"))) (fun u h => h) (by intro c b hc; simp only [List.mem_cons, List.not_mem_nil, or_false, Prod.mk.injEq] at hc; rcases hc with ⟨rfl, rfl⟩ | ⟨rfl, rfl⟩ | ⟨rfl, rfl⟩ | ⟨rfl, rfl⟩ | ⟨rfl, rfl⟩ | ⟨rfl, rfl⟩ | ⟨rfl, rfl⟩ | ⟨rfl, rfl⟩ | ⟨rfl, rfl⟩ <;> first | exact ⟨T.xe_InvalidRow.1, T.xt_InvalidRow_InvalidTerms⟩ | exact ⟨T.xe_InvalidTool.1, T.xt_InvalidTool_InvalidTerms⟩ | exact ⟨T.xe_InvalidTerms.1, T.xt_InvalidTerms_InvalidTerms⟩ | exact ⟨T.xe_InvalidText.1, T.xt_InvalidText_InvalidTerms⟩ | exact ⟨T.xe_InvalidEvent.1, T.xt_InvalidEvent_InvalidTerms⟩ | exact ⟨T.xe_InvalidFault.1, T.xt_InvalidFault_InvalidTerms⟩ | exact ⟨T.xe_InvalidSeen.1, T.xt_InvalidSeen_InvalidTerms⟩ | exact ⟨T.xe_InvalidCommand.1, T.xt_InvalidCommand_InvalidTerms⟩ | exact ⟨T.xe_Refused.1, T.xt_Refused_InvalidTerms⟩) (sn_var)) sn_nil)))) sn_gName)
      (sn_seq (sn_asg (sn_op ov_plus (sn_var) (sn_lst (sn_cons (sn_exIs (cv := (Value.ref (He.ga K "InvalidText"))) (fun u h => h) (by intro c b hc; simp only [List.mem_cons, List.not_mem_nil, or_false, Prod.mk.injEq] at hc; rcases hc with ⟨rfl, rfl⟩ | ⟨rfl, rfl⟩ | ⟨rfl, rfl⟩ | ⟨rfl, rfl⟩ | ⟨rfl, rfl⟩ | ⟨rfl, rfl⟩ | ⟨rfl, rfl⟩ | ⟨rfl, rfl⟩ | ⟨rfl, rfl⟩ <;> first | exact ⟨T.xe_InvalidRow.1, T.xt_InvalidRow_InvalidText⟩ | exact ⟨T.xe_InvalidTool.1, T.xt_InvalidTool_InvalidText⟩ | exact ⟨T.xe_InvalidTerms.1, T.xt_InvalidTerms_InvalidText⟩ | exact ⟨T.xe_InvalidText.1, T.xt_InvalidText_InvalidText⟩ | exact ⟨T.xe_InvalidEvent.1, T.xt_InvalidEvent_InvalidText⟩ | exact ⟨T.xe_InvalidFault.1, T.xt_InvalidFault_InvalidText⟩ | exact ⟨T.xe_InvalidSeen.1, T.xt_InvalidSeen_InvalidText⟩ | exact ⟨T.xe_InvalidCommand.1, T.xt_InvalidCommand_InvalidText⟩ | exact ⟨T.xe_Refused.1, T.xt_Refused_InvalidText⟩) (sn_var)) (sn_cons (sn_exIs (cv := (Value.ref (He.ga K "InvalidEvent"))) (fun u h => h) (by intro c b hc; simp only [List.mem_cons, List.not_mem_nil, or_false, Prod.mk.injEq] at hc; rcases hc with ⟨rfl, rfl⟩ | ⟨rfl, rfl⟩ | ⟨rfl, rfl⟩ | ⟨rfl, rfl⟩ | ⟨rfl, rfl⟩ | ⟨rfl, rfl⟩ | ⟨rfl, rfl⟩ | ⟨rfl, rfl⟩ | ⟨rfl, rfl⟩ <;> first | exact ⟨T.xe_InvalidRow.1, T.xt_InvalidRow_InvalidEvent⟩ | exact ⟨T.xe_InvalidTool.1, T.xt_InvalidTool_InvalidEvent⟩ | exact ⟨T.xe_InvalidTerms.1, T.xt_InvalidTerms_InvalidEvent⟩ | exact ⟨T.xe_InvalidText.1, T.xt_InvalidText_InvalidEvent⟩ | exact ⟨T.xe_InvalidEvent.1, T.xt_InvalidEvent_InvalidEvent⟩ | exact ⟨T.xe_InvalidFault.1, T.xt_InvalidFault_InvalidEvent⟩ | exact ⟨T.xe_InvalidSeen.1, T.xt_InvalidSeen_InvalidEvent⟩ | exact ⟨T.xe_InvalidCommand.1, T.xt_InvalidCommand_InvalidEvent⟩ | exact ⟨T.xe_Refused.1, T.xt_Refused_InvalidEvent⟩) (sn_var)) (sn_cons (sn_exIs (cv := (Value.ref (He.ga K "InvalidFault"))) (fun u h => h) (by intro c b hc; simp only [List.mem_cons, List.not_mem_nil, or_false, Prod.mk.injEq] at hc; rcases hc with ⟨rfl, rfl⟩ | ⟨rfl, rfl⟩ | ⟨rfl, rfl⟩ | ⟨rfl, rfl⟩ | ⟨rfl, rfl⟩ | ⟨rfl, rfl⟩ | ⟨rfl, rfl⟩ | ⟨rfl, rfl⟩ | ⟨rfl, rfl⟩ <;> first | exact ⟨T.xe_InvalidRow.1, T.xt_InvalidRow_InvalidFault⟩ | exact ⟨T.xe_InvalidTool.1, T.xt_InvalidTool_InvalidFault⟩ | exact ⟨T.xe_InvalidTerms.1, T.xt_InvalidTerms_InvalidFault⟩ | exact ⟨T.xe_InvalidText.1, T.xt_InvalidText_InvalidFault⟩ | exact ⟨T.xe_InvalidEvent.1, T.xt_InvalidEvent_InvalidFault⟩ | exact ⟨T.xe_InvalidFault.1, T.xt_InvalidFault_InvalidFault⟩ | exact ⟨T.xe_InvalidSeen.1, T.xt_InvalidSeen_InvalidFault⟩ | exact ⟨T.xe_InvalidCommand.1, T.xt_InvalidCommand_InvalidFault⟩ | exact ⟨T.xe_Refused.1, T.xt_Refused_InvalidFault⟩) (sn_var)) sn_nil))))) sn_gName)
      (sn_seq (sn_asg (sn_op ov_plus (sn_var) (sn_lst (sn_cons (sn_exIs (cv := (Value.ref (He.ga K "InvalidSeen"))) (fun u h => h) (by intro c b hc; simp only [List.mem_cons, List.not_mem_nil, or_false, Prod.mk.injEq] at hc; rcases hc with ⟨rfl, rfl⟩ | ⟨rfl, rfl⟩ | ⟨rfl, rfl⟩ | ⟨rfl, rfl⟩ | ⟨rfl, rfl⟩ | ⟨rfl, rfl⟩ | ⟨rfl, rfl⟩ | ⟨rfl, rfl⟩ | ⟨rfl, rfl⟩ <;> first | exact ⟨T.xe_InvalidRow.1, T.xt_InvalidRow_InvalidSeen⟩ | exact ⟨T.xe_InvalidTool.1, T.xt_InvalidTool_InvalidSeen⟩ | exact ⟨T.xe_InvalidTerms.1, T.xt_InvalidTerms_InvalidSeen⟩ | exact ⟨T.xe_InvalidText.1, T.xt_InvalidText_InvalidSeen⟩ | exact ⟨T.xe_InvalidEvent.1, T.xt_InvalidEvent_InvalidSeen⟩ | exact ⟨T.xe_InvalidFault.1, T.xt_InvalidFault_InvalidSeen⟩ | exact ⟨T.xe_InvalidSeen.1, T.xt_InvalidSeen_InvalidSeen⟩ | exact ⟨T.xe_InvalidCommand.1, T.xt_InvalidCommand_InvalidSeen⟩ | exact ⟨T.xe_Refused.1, T.xt_Refused_InvalidSeen⟩) (sn_var)) (sn_cons (sn_exIs (cv := (Value.ref (He.ga K "InvalidCommand"))) (fun u h => h) (by intro c b hc; simp only [List.mem_cons, List.not_mem_nil, or_false, Prod.mk.injEq] at hc; rcases hc with ⟨rfl, rfl⟩ | ⟨rfl, rfl⟩ | ⟨rfl, rfl⟩ | ⟨rfl, rfl⟩ | ⟨rfl, rfl⟩ | ⟨rfl, rfl⟩ | ⟨rfl, rfl⟩ | ⟨rfl, rfl⟩ | ⟨rfl, rfl⟩ <;> first | exact ⟨T.xe_InvalidRow.1, T.xt_InvalidRow_InvalidCommand⟩ | exact ⟨T.xe_InvalidTool.1, T.xt_InvalidTool_InvalidCommand⟩ | exact ⟨T.xe_InvalidTerms.1, T.xt_InvalidTerms_InvalidCommand⟩ | exact ⟨T.xe_InvalidText.1, T.xt_InvalidText_InvalidCommand⟩ | exact ⟨T.xe_InvalidEvent.1, T.xt_InvalidEvent_InvalidCommand⟩ | exact ⟨T.xe_InvalidFault.1, T.xt_InvalidFault_InvalidCommand⟩ | exact ⟨T.xe_InvalidSeen.1, T.xt_InvalidSeen_InvalidCommand⟩ | exact ⟨T.xe_InvalidCommand.1, T.xt_InvalidCommand_InvalidCommand⟩ | exact ⟨T.xe_Refused.1, T.xt_Refused_InvalidCommand⟩) (sn_var)) (sn_cons (sn_exIs (cv := (Value.ref (He.ga K "Refused"))) (fun u h => h) (by intro c b hc; simp only [List.mem_cons, List.not_mem_nil, or_false, Prod.mk.injEq] at hc; rcases hc with ⟨rfl, rfl⟩ | ⟨rfl, rfl⟩ | ⟨rfl, rfl⟩ | ⟨rfl, rfl⟩ | ⟨rfl, rfl⟩ | ⟨rfl, rfl⟩ | ⟨rfl, rfl⟩ | ⟨rfl, rfl⟩ | ⟨rfl, rfl⟩ <;> first | exact ⟨T.xe_InvalidRow.1, T.xt_InvalidRow_Refused⟩ | exact ⟨T.xe_InvalidTool.1, T.xt_InvalidTool_Refused⟩ | exact ⟨T.xe_InvalidTerms.1, T.xt_InvalidTerms_Refused⟩ | exact ⟨T.xe_InvalidText.1, T.xt_InvalidText_Refused⟩ | exact ⟨T.xe_InvalidEvent.1, T.xt_InvalidEvent_Refused⟩ | exact ⟨T.xe_InvalidFault.1, T.xt_InvalidFault_Refused⟩ | exact ⟨T.xe_InvalidSeen.1, T.xt_InvalidSeen_Refused⟩ | exact ⟨T.xe_InvalidCommand.1, T.xt_InvalidCommand_Refused⟩ | exact ⟨T.xe_Refused.1, T.xt_Refused_Refused⟩) (sn_var)) sn_nil))))) sn_gName)
      (sn_ret (sn_cb1 ou_len (sn_lc (sn_iSeq (sn_var)) sn_cName (sn_B (sn_var)) (sn_int)))))))
theorem ok_law_sorts (T : Tx P K mg w) : FnOk P w K mg base CX0 1 (He.ga K "_law_sorts") T.fd_law_sorts ps_law_sorts (sp_law_sorts K) := by
  refine T.F_law_sorts.ok sc_law_sorts (fun vs H Q E h => ln_body h) (fun cdv A outer s H vs Q E hr h => ⟨t_law_sorts K, PSs.nox ?_, fn_rd (N := nm_law_sorts) (fn_body (sd_law_sorts T)) h⟩)
  exact (pss_cons (ps_a 1 sc_law_sorts.nd (pe_lst (pa_cons (pe_callB call_isVs (by rfl) T.f_isinstance (by decide +kernel) (pa_cons (pv 0) (pa_cons (pe_glob (v := V.ref (He.ga K "InvalidRow")) (by rfl) T.g_InvalidRow rfl) pa_nil))) (pa_cons (pe_callB call_isVs (by rfl) T.f_isinstance (by decide +kernel) (pa_cons (pv 0) (pa_cons (pe_glob (v := V.ref (He.ga K "InvalidTool")) (by rfl) T.g_InvalidTool rfl) pa_nil))) (pa_cons (pe_callB call_isVs (by rfl) T.f_isinstance (by decide +kernel) (pa_cons (pv 0) (pa_cons (pe_glob (v := V.ref (He.ga K "InvalidTerms")) (by rfl) T.g_InvalidTerms rfl) pa_nil))) pa_nil)))))
      (pss_cons (ps_a 1 sc_law_sorts.nd (pe_op op_plus (pv 1) (pe_lst (pa_cons (pe_callB call_isVs (by rfl) T.f_isinstance (by decide +kernel) (pa_cons (pv 0) (pa_cons (pe_glob (v := V.ref (He.ga K "InvalidText")) (by rfl) T.g_InvalidText rfl) pa_nil))) (pa_cons (pe_callB call_isVs (by rfl) T.f_isinstance (by decide +kernel) (pa_cons (pv 0) (pa_cons (pe_glob (v := V.ref (He.ga K "InvalidEvent")) (by rfl) T.g_InvalidEvent rfl) pa_nil))) (pa_cons (pe_callB call_isVs (by rfl) T.f_isinstance (by decide +kernel) (pa_cons (pv 0) (pa_cons (pe_glob (v := V.ref (He.ga K "InvalidFault")) (by rfl) T.g_InvalidFault rfl) pa_nil))) pa_nil))))))
      (pss_cons (ps_a 1 sc_law_sorts.nd (pe_op op_plus (pv 1) (pe_lst (pa_cons (pe_callB call_isVs (by rfl) T.f_isinstance (by decide +kernel) (pa_cons (pv 0) (pa_cons (pe_glob (v := V.ref (He.ga K "InvalidSeen")) (by rfl) T.g_InvalidSeen rfl) pa_nil))) (pa_cons (pe_callB call_isVs (by rfl) T.f_isinstance (by decide +kernel) (pa_cons (pv 0) (pa_cons (pe_glob (v := V.ref (He.ga K "InvalidCommand")) (by rfl) T.g_InvalidCommand rfl) pa_nil))) (pa_cons (pe_callB call_isVs (by rfl) T.f_isinstance (by decide +kernel) (pa_cons (pv 0) (pa_cons (pe_glob (v := V.ref (He.ga K "Refused")) (by rfl) T.g_Refused rfl) pa_nil))) pa_nil))))))
      (pss_one (ps_ret (pe_callB (call_lenA) (by rfl) T.f_len (by decide +kernel) (pa_cons (pe_lc (own := [("_law_is_so", 2)]) rfl sc_law_sorts.nd (pi_seq (pv 1)) (blkOk_by (own := [("_law_is_so", 2)]) (N := nm_law_sorts) (sc := defScope st_law_sorts) (by decide +kernel)) (fun _ _ _ _ _ => (pg_n 2 sc_law_sorts.nd)) (fun _ _ _ _ _ => pts_one (pt_val (pv 2))) (fun _ _ _ _ _ => (pe_int))) pa_nil)))))))
theorem b_law_sorts (T : Tx P K mg w) : Binds K T.fd_law_sorts ps_law_sorts [] := T.F_law_sorts.bindsN fun _ _ _ _ _ _ us hl => match us, hl with | [_], _ => rfl
theorem sd_law_pick (T : Tx P K mg w) : SnS K (t_law_pick K) m_law_pick := by
  unfold t_law_pick m_law_pick
  exact (sn_ret (sn_ix (sn_var) (sn_call (sn_cons (sn_var) (sn_cons (sn_cb1 ou_len (sn_var)) sn_nil)) dfl_nil)))
theorem ok_law_pick (T : Tx P K mg w) : FnOk P w K mg base CX0 2 (He.ga K "_law_pick") T.fd_law_pick ps_law_pick (sp_law_pick K) := by
  refine T.F_law_pick.ok sc_law_pick (fun vs H Q E h => ln_body h) (fun cdv A outer s H vs Q E hr h => ⟨t_law_pick K, PSs.nox ?_, fn_rd (N := nm_law_pick) (fn_body (sd_law_pick T)) h⟩)
  exact (pss_one (ps_ret (pe_ix ix_seq (pv 1) (pe_call (ok_law_draw T) (hr.mono (by decide)) (by rfl) T.g_law_draw T.F_law_draw.kp (b_law_draw T) .nil pass0 (pa_cons (pv 0) (pa_cons (pe_callB (call_lenA) (by rfl) T.f_len (by decide +kernel) (pa_cons (pv 1) pa_nil)) pa_nil))) (fun _ _ => rfl))))
theorem b_law_pick (T : Tx P K mg w) : Binds K T.fd_law_pick ps_law_pick [] := T.F_law_pick.bindsN fun _ _ _ _ _ _ us hl => match us, hl with | [_, _], _ => rfl
theorem sd_law_value_1 (T : Tx P K mg w) : SnS K (t_law_value_1 K) m_law_value_1 := by
  unfold t_law_value_1 m_law_value_1
  exact (sn_seq (sn_asg (sn_call (sn_cons (sn_var) (sn_cons (sn_if (sn_test (sn_op ov_gt (sn_var) (sn_int))) (sn_int) (sn_int)) sn_nil)) dfl_nil) sn_gName)
      (sn_seq (sn_ifS (sn_test (sn_op ov_eq (sn_var) (sn_int))) (sn_ret (sn_call (sn_cons (sn_var) (sn_cons (sn_lst (sn_cons (sn_int) (sn_cons (sn_int) (sn_cons (sn_op ov_minus (sn_int) (sn_int)) (sn_cons (sn_op ov_pw (sn_int) (sn_int)) sn_nil))))) sn_nil)) dfl_nil)) sn_next)
      (sn_seq (sn_ifS (sn_test (sn_op ov_eq (sn_var) (sn_int))) (sn_ret (sn_call (sn_cons (sn_var) (sn_cons (sn_lst (sn_cons (sn_non) (sn_cons (sn_bl) (sn_cons (sn_bl) sn_nil)))) sn_nil)) dfl_nil)) sn_next)
      (sn_seq (sn_ifS (sn_test (sn_op ov_lt (sn_var) (sn_int))) (sn_ret (sn_call (sn_cons (sn_var) (sn_cons (sn_lst (sn_cons (sn_str) (sn_cons (sn_str) (sn_cons (sn_str) (sn_cons (sn_str) (sn_cons (sn_str) (sn_cons (sn_str) (sn_cons (sn_str) (sn_cons (sn_str) sn_nil))))))))) sn_nil)) dfl_nil)) sn_next)
      (sn_seq (sn_asg (sn_lc (sn_iRng1 (sn_cons (sn_call (sn_cons (sn_var) (sn_cons (sn_int) sn_nil)) dfl_nil) sn_nil)) sn_cName sn_yes (sn_call (sn_cons (sn_var) (sn_cons (sn_op ov_minus (sn_var) (sn_int)) sn_nil)) dfl_nil)) sn_gName)
      (sn_ret (sn_if (sn_test (sn_op ov_eq (sn_var) (sn_int))) (sn_var) (sn_cb1 ou_tup (sn_var)))))))))
theorem ok_law_value_1 (T : Tx P K mg w) : FnOk P w K mg base CX0 3 (He.ga K "_law_value") T.fd_law_value_1 ps_law_value_1 (sp_law_value_1 K) := by
  refine T.F_law_value_1.ok sc_law_value_1 (fun vs H Q E h => ln_body h) (fun cdv A outer s H vs Q E hr h => ⟨t_law_value_1 K, PSs.nox ?_, fn_rd (N := nm_law_value_1) (fn_body (sd_law_value_1 T)) h⟩)
  exact (pss_cons (ps_a 2 sc_law_value_1.nd (pe_call (ok_law_draw T) (hr.mono (by decide)) (by rfl) T.g_law_draw T.F_law_draw.kp (b_law_draw T) .nil pass0 (pa_cons (pv 0) (pa_cons (pe_ifExp (pt_cmpR (op_gt') (pv 1) (pe_int) (nomark _)) (pe_int) (pe_int)) pa_nil))))
      (pss_cons (ps_if (pt_cmpR (op_eqq hr.units) (pv 2) (pe_int) (nomark _)) (pss_one (ps_ret (pe_call (ok_law_pick T) (hr.mono (by decide)) (by rfl) T.g_law_pick T.F_law_pick.kp (b_law_pick T) .nil pass0 (pa_cons (pv 0) (pa_cons (pe_lst (pa_cons (pe_int) (pa_cons (pe_int) (pa_cons (pe_op op_minus (pe_int) (pe_int)) (pa_cons (pe_op op_pw (pe_int) (pe_int)) pa_nil))))) pa_nil))))) pss_nil)
      (pss_cons (ps_if (pt_cmpR (op_eqq hr.units) (pv 2) (pe_int) (nomark _)) (pss_one (ps_ret (pe_call (ok_law_pick T) (hr.mono (by decide)) (by rfl) T.g_law_pick T.F_law_pick.kp (b_law_pick T) .nil pass0 (pa_cons (pv 0) (pa_cons (pe_lst (pa_cons (pe_non) (pa_cons (pe_bl) (pa_cons (pe_bl) pa_nil)))) pa_nil))))) pss_nil)
      (pss_cons (ps_if (pt_cmpR (op_lt') (pv 2) (pe_int) (nomark _)) (pss_one (ps_ret (pe_call (ok_law_pick T) (hr.mono (by decide)) (by rfl) T.g_law_pick T.F_law_pick.kp (b_law_pick T) .nil pass0 (pa_cons (pv 0) (pa_cons (pe_lst (pa_cons (pe_str) (pa_cons (pe_str) (pa_cons (pe_str) (pa_cons (pe_str) (pa_cons (pe_str) (pa_cons (pe_str) (pa_cons (pe_str) (pa_cons (pe_str) pa_nil))))))))) pa_nil))))) pss_nil)
      (pss_cons (ps_setLc (i := 4) (own := [("_law_k", 3)]) rfl sc_law_value_1.nd rfl rfl (sw_true rfl rfl rfl (by decide +kernel)) (pi_range1 (by rfl) T.f_range (pa_cons (pe_call (ok_law_draw T) (hr.mono (by decide)) (by rfl) T.g_law_draw T.F_law_draw.kp (b_law_draw T) .nil pass0 (pa_cons (pv 0) (pa_cons (pe_int) pa_nil))) pa_nil)) (blkOk_by (own := [("_law_k", 3)]) (N := nm_law_value_1) (sc := defScope st_law_value_1) (by decide +kernel)) (fun _ _ _ _ _ => (pg_n 3 sc_law_value_1.nd)) (fun _ _ _ _ _ => pts_nil) (fun _ _ _ _ _ => (pe_call (ok_law_value_0 T) (hr.mono (by decide)) (by rfl) T.g_law_value_0 T.F_law_value_0.kp (b_law_value_0 T) .nil pass0 (pa_cons (pv 0) (pa_cons (pe_op op_minus (pv 1) (pe_int)) pa_nil)))))
      (pss_one (ps_ret (pe_ifExp (pt_cmpR (op_eqq hr.units) (pv 2) (pe_int) (nomark _)) (pv 4) (pe_callTy (call_tupOf) (by rfl) T.f_tuple (by decide +kernel) (pa_cons (pv 4) pa_nil))))))))))
theorem b_law_value_1 (T : Tx P K mg w) : Binds K T.fd_law_value_1 ps_law_value_1 [] := T.F_law_value_1.bindsN fun _ _ _ _ _ _ us hl => match us, hl with | [_, _], _ => rfl
theorem sd_law_kept (T : Tx P K mg w) : SnS K (t_law_kept K) m_law_kept := by
  unfold t_law_kept m_law_kept
  exact (sn_seq (sn_asg (sn_lsW (sn_cons (sn_exvF (by intro c hc; simp only [List.mem_cons, List.not_mem_nil, or_false] at hc; rcases hc with rfl <;> first | exact ⟨T.xe_InvalidRow.2.1, T.xn_InvalidRow⟩) (sn_exV (sn_cons (sn_var) sn_nil))) (sn_cons (sn_exvF (by intro c hc; simp only [List.mem_cons, List.not_mem_nil, or_false] at hc; rcases hc with rfl <;> first | exact ⟨T.xe_InvalidTool.2.1, T.xn_InvalidTool⟩) (sn_exV (sn_perm (sn_cons (sn_var) sn_nil)))) sn_nil))) sn_gName)
      (sn_seq (sn_asg (sn_addW (sn_var) (sn_lsW (sn_cons (sn_exvF (by intro c hc; simp only [List.mem_cons, List.not_mem_nil, or_false] at hc; rcases hc with rfl <;> first | exact ⟨T.xe_InvalidTerms.2.1, T.xn_InvalidTerms⟩) (sn_exV (sn_cons (sn_var) sn_nil))) (sn_cons (sn_exvF (by intro c hc; simp only [List.mem_cons, List.not_mem_nil, or_false] at hc; rcases hc with rfl <;> first | exact ⟨T.xe_InvalidRow.2.1, T.xn_InvalidRow⟩) (sn_exV (sn_perm (sn_cons (sn_var) sn_nil)))) sn_nil)))) sn_gName)
      (sn_seq (sn_asg (sn_addW (sn_var) (sn_lsW (sn_cons (sn_exvF (by intro c hc; simp only [List.mem_cons, List.not_mem_nil, or_false] at hc; rcases hc with rfl <;> first | exact ⟨T.xe_InvalidText.2.1, T.xn_InvalidText⟩) (sn_exV (sn_perm (sn_cons (sn_var) sn_nil)))) (sn_cons (sn_exvF (by intro c hc; simp only [List.mem_cons, List.not_mem_nil, or_false] at hc; rcases hc with rfl <;> first | exact ⟨T.xe_InvalidEvent.2.1, T.xn_InvalidEvent⟩) (sn_exV (sn_cons (sn_var) sn_nil))) (sn_cons (sn_exvF (by intro c hc; simp only [List.mem_cons, List.not_mem_nil, or_false] at hc; rcases hc with rfl <;> first | exact ⟨T.xe_InvalidSeen.2.1, T.xn_InvalidSeen⟩) (sn_exV (sn_perm (sn_cons (sn_var) sn_nil)))) (sn_cons (sn_exvF (by intro c hc; simp only [List.mem_cons, List.not_mem_nil, or_false] at hc; rcases hc with rfl <;> first | exact ⟨T.xe_Refused.2.1, T.xn_Refused⟩) (sn_exV (sn_cons (sn_var) sn_nil))) sn_nil)))))) sn_gName)
      (sn_ret (sn_addW (sn_var) (sn_lsW (sn_cons (sn_exvF (by intro c hc; simp only [List.mem_cons, List.not_mem_nil, or_false] at hc; rcases hc with rfl <;> first | exact ⟨T.xe_NoRow.2.1, T.xn_NoRow⟩) (sn_exV (sn_perm (sn_cons (sn_var) sn_nil)))) (sn_cons (sn_exvF (by intro c hc; simp only [List.mem_cons, List.not_mem_nil, or_false] at hc; rcases hc with rfl <;> first | exact ⟨T.xe_NoRow.2.1, T.xn_NoRow⟩) (sn_exV (sn_cons (sn_var) sn_nil))) (sn_cons (sn_exvF (by intro c hc; simp only [List.mem_cons, List.not_mem_nil, or_false] at hc; rcases hc with rfl <;> first | exact ⟨T.xe_Refused.2.1, T.xn_Refused⟩) (sn_exV (sn_perm (sn_cons (sn_var) sn_nil)))) (sn_cons (sn_exvF (by intro c hc; simp only [List.mem_cons, List.not_mem_nil, or_false] at hc; rcases hc with rfl <;> first | exact ⟨T.xe_InvalidTerms.2.1, T.xn_InvalidTerms⟩) (sn_exV (sn_perm (sn_cons (sn_var) sn_nil)))) sn_nil))))))))))
theorem ok_law_kept (T : Tx P K mg w) : FnOk P w K mg base CX0 3 (He.ga K "_law_kept") T.fd_law_kept ps_law_kept (sp_law_kept K) := by
  refine T.F_law_kept.ok sc_law_kept (fun vs H Q E h => ln_body h) (fun cdv A outer s H vs Q E hr h => ⟨t_law_kept K, PSs.nox ?_, fn_rd (N := nm_law_kept) (fn_body (sd_law_kept T)) h⟩)
  exact (pss_cons (ps_a 1 sc_law_kept.nd (pe_lst (pa_cons (pe_exF (pe_exV (CX := CX0) T.xs_InvalidRow.x T.xi_InvalidRow.1 T.xi_InvalidRow.2 (okx_InvalidRow_init T) (hr.mono (by decide)) (bi_InvalidRow_init T) .nil pass0 (by rfl) T.g_InvalidRow (pa_cons (pv 0) pa_nil))) (pa_cons (pe_exF (pe_exVK (CX := CX0) T.xs_InvalidTool.x T.xi_InvalidTool.1 T.xi_InvalidTool.2 (okx_InvalidTool_init T) (hr.mono (by decide)) (kbnS T.F_InvalidTool_init 1 ["word"] [0] fun _ _ _ _ _ _ _ us ws hu hw => match us, ws, hu, hw with | [_], [_], _, _ => rfl) pass0 (by rfl) T.g_InvalidTool (pk_cons (pv 0) pk_nil))) pa_nil))))
      (pss_cons (ps_a 1 sc_law_kept.nd (pe_op op_plus (pv 1) (pe_lst (pa_cons (pe_exF (pe_exV (CX := CX0) T.xs_InvalidTerms.x T.xi_InvalidTerms.1 T.xi_InvalidTerms.2 (okx_InvalidTerms_init T) (hr.mono (by decide)) (bi_InvalidTerms_init T) .nil pass0 (by rfl) T.g_InvalidTerms (pa_cons (pv 0) pa_nil))) (pa_cons (pe_exF (pe_exVK (CX := CX0) T.xs_InvalidRow.x T.xi_InvalidRow.1 T.xi_InvalidRow.2 (okx_InvalidRow_init T) (hr.mono (by decide)) (kbnS T.F_InvalidRow_init 1 ["word"] [0] fun _ _ _ _ _ _ _ us ws hu hw => match us, ws, hu, hw with | [_], [_], _, _ => rfl) pass0 (by rfl) T.g_InvalidRow (pk_cons (pv 0) pk_nil))) pa_nil)))))
      (pss_cons (ps_a 1 sc_law_kept.nd (pe_op op_plus (pv 1) (pe_lst (pa_cons (pe_exF (pe_exVK (CX := CX0) T.xs_InvalidText.x T.xi_InvalidText.1 T.xi_InvalidText.2 (okx_InvalidText_init T) (hr.mono (by decide)) (kbnS T.F_InvalidText_init 1 ["at"] [0] fun _ _ _ _ _ _ _ us ws hu hw => match us, ws, hu, hw with | [_], [_], _, _ => rfl) pass0 (by rfl) T.g_InvalidText (pk_cons (pv 0) pk_nil))) (pa_cons (pe_exF (pe_exV (CX := CX0) T.xs_InvalidEvent.x T.xi_InvalidEvent.1 T.xi_InvalidEvent.2 (okx_InvalidEvent_init T) (hr.mono (by decide)) (bi_InvalidEvent_init T) .nil pass0 (by rfl) T.g_InvalidEvent (pa_cons (pv 0) pa_nil))) (pa_cons (pe_exF (pe_exVK (CX := CX0) T.xs_InvalidSeen.x T.xi_InvalidSeen.1 T.xi_InvalidSeen.2 (okx_InvalidSeen_init T) (hr.mono (by decide)) (kbnS T.F_InvalidSeen_init 1 ["at"] [0] fun _ _ _ _ _ _ _ us ws hu hw => match us, ws, hu, hw with | [_], [_], _, _ => rfl) pass0 (by rfl) T.g_InvalidSeen (pk_cons (pv 0) pk_nil))) (pa_cons (pe_exF (pe_exV (CX := CX0) T.xs_Refused.x T.xi_Refused.1 T.xi_Refused.2 (okx_Refused_init T) (hr.mono (by decide)) (bi_Refused_init T) .nil pass0 (by rfl) T.g_Refused (pa_cons (pv 0) pa_nil))) pa_nil)))))))
      (pss_one (ps_ret (pe_op op_plus (pv 1) (pe_lst (pa_cons (pe_exF (pe_exVKI (CX := CX0) T.xs_NoRow.x T.xi_NoRow.1 T.xi_NoRow.2 (okx_NoRow_init T) (hr.mono (by decide)) (kbnS T.F_NoRow_init 1 ["at"] [0] fun _ _ _ _ _ _ _ us ws hu hw => match us, ws, hu, hw with | [_], [_], _, _ => rfl) pass0 (by rfl) T.g_NoRow (pk_cons (pv 0) pk_nil))) (pa_cons (pe_exF (pe_exVI (CX := CX0) T.xs_NoRow.x T.xi_NoRow.1 T.xi_NoRow.2 (okx_NoRow_init T) (hr.mono (by decide)) (bi_NoRow_init T) .nil pass0 (by rfl) T.g_NoRow (pa_cons (pv 0) pa_nil))) (pa_cons (pe_exF (pe_exVK (CX := CX0) T.xs_Refused.x T.xi_Refused.1 T.xi_Refused.2 (okx_Refused_init T) (hr.mono (by decide)) (kbnS T.F_Refused_init 1 ["at"] [0] fun _ _ _ _ _ _ _ us ws hu hw => match us, ws, hu, hw with | [_], [_], _, _ => rfl) pass0 (by rfl) T.g_Refused (pk_cons (pv 0) pk_nil))) (pa_cons (pe_exF (pe_exVK (CX := CX0) T.xs_InvalidTerms.x T.xi_InvalidTerms.1 T.xi_InvalidTerms.2 (okx_InvalidTerms_init T) (hr.mono (by decide)) (kbnS T.F_InvalidTerms_init 1 ["word"] [0] fun _ _ _ _ _ _ _ us ws hu hw => match us, ws, hu, hw with | [_], [_], _, _ => rfl) pass0 (by rfl) T.g_InvalidTerms (pk_cons (pv 0) pk_nil))) pa_nil)))))))))))
theorem b_law_kept (T : Tx P K mg w) : Binds K T.fd_law_kept ps_law_kept [] := T.F_law_kept.bindsN fun _ _ _ _ _ _ us hl => match us, hl with | [_], _ => rfl
theorem sd_law_value_2 (T : Tx P K mg w) : SnS K (t_law_value_2 K) m_law_value_2 := by
  unfold t_law_value_2 m_law_value_2
  exact (sn_seq (sn_asg (sn_call (sn_cons (sn_var) (sn_cons (sn_if (sn_test (sn_op ov_gt (sn_var) (sn_int))) (sn_int) (sn_int)) sn_nil)) dfl_nil) sn_gName)
      (sn_seq (sn_ifS (sn_test (sn_op ov_eq (sn_var) (sn_int))) (sn_ret (sn_call (sn_cons (sn_var) (sn_cons (sn_lst (sn_cons (sn_int) (sn_cons (sn_int) (sn_cons (sn_op ov_minus (sn_int) (sn_int)) (sn_cons (sn_op ov_pw (sn_int) (sn_int)) sn_nil))))) sn_nil)) dfl_nil)) sn_next)
      (sn_seq (sn_ifS (sn_test (sn_op ov_eq (sn_var) (sn_int))) (sn_ret (sn_call (sn_cons (sn_var) (sn_cons (sn_lst (sn_cons (sn_non) (sn_cons (sn_bl) (sn_cons (sn_bl) sn_nil)))) sn_nil)) dfl_nil)) sn_next)
      (sn_seq (sn_ifS (sn_test (sn_op ov_lt (sn_var) (sn_int))) (sn_ret (sn_call (sn_cons (sn_var) (sn_cons (sn_lst (sn_cons (sn_str) (sn_cons (sn_str) (sn_cons (sn_str) (sn_cons (sn_str) (sn_cons (sn_str) (sn_cons (sn_str) (sn_cons (sn_str) (sn_cons (sn_str) sn_nil))))))))) sn_nil)) dfl_nil)) sn_next)
      (sn_seq (sn_asg (sn_lc (sn_iRng1 (sn_cons (sn_call (sn_cons (sn_var) (sn_cons (sn_int) sn_nil)) dfl_nil) sn_nil)) sn_cName sn_yes (sn_call (sn_cons (sn_var) (sn_cons (sn_op ov_minus (sn_var) (sn_int)) sn_nil)) dfl_nil)) sn_gName)
      (sn_ret (sn_if (sn_test (sn_op ov_eq (sn_var) (sn_int))) (sn_var) (sn_cb1 ou_tup (sn_var)))))))))
theorem ok_law_value_2 (T : Tx P K mg w) : FnOk P w K mg base CX0 4 (He.ga K "_law_value") T.fd_law_value_2 ps_law_value_2 (sp_law_value_2 K) := by
  refine T.F_law_value_2.ok sc_law_value_2 (fun vs H Q E h => ln_body h) (fun cdv A outer s H vs Q E hr h => ⟨t_law_value_2 K, PSs.nox ?_, fn_rd (N := nm_law_value_2) (fn_body (sd_law_value_2 T)) h⟩)
  exact (pss_cons (ps_a 2 sc_law_value_2.nd (pe_call (ok_law_draw T) (hr.mono (by decide)) (by rfl) T.g_law_draw T.F_law_draw.kp (b_law_draw T) .nil pass0 (pa_cons (pv 0) (pa_cons (pe_ifExp (pt_cmpR (op_gt') (pv 1) (pe_int) (nomark _)) (pe_int) (pe_int)) pa_nil))))
      (pss_cons (ps_if (pt_cmpR (op_eqq hr.units) (pv 2) (pe_int) (nomark _)) (pss_one (ps_ret (pe_call (ok_law_pick T) (hr.mono (by decide)) (by rfl) T.g_law_pick T.F_law_pick.kp (b_law_pick T) .nil pass0 (pa_cons (pv 0) (pa_cons (pe_lst (pa_cons (pe_int) (pa_cons (pe_int) (pa_cons (pe_op op_minus (pe_int) (pe_int)) (pa_cons (pe_op op_pw (pe_int) (pe_int)) pa_nil))))) pa_nil))))) pss_nil)
      (pss_cons (ps_if (pt_cmpR (op_eqq hr.units) (pv 2) (pe_int) (nomark _)) (pss_one (ps_ret (pe_call (ok_law_pick T) (hr.mono (by decide)) (by rfl) T.g_law_pick T.F_law_pick.kp (b_law_pick T) .nil pass0 (pa_cons (pv 0) (pa_cons (pe_lst (pa_cons (pe_non) (pa_cons (pe_bl) (pa_cons (pe_bl) pa_nil)))) pa_nil))))) pss_nil)
      (pss_cons (ps_if (pt_cmpR (op_lt') (pv 2) (pe_int) (nomark _)) (pss_one (ps_ret (pe_call (ok_law_pick T) (hr.mono (by decide)) (by rfl) T.g_law_pick T.F_law_pick.kp (b_law_pick T) .nil pass0 (pa_cons (pv 0) (pa_cons (pe_lst (pa_cons (pe_str) (pa_cons (pe_str) (pa_cons (pe_str) (pa_cons (pe_str) (pa_cons (pe_str) (pa_cons (pe_str) (pa_cons (pe_str) (pa_cons (pe_str) pa_nil))))))))) pa_nil))))) pss_nil)
      (pss_cons (ps_setLc (i := 4) (own := [("_law_k", 3)]) rfl sc_law_value_2.nd rfl rfl (sw_true rfl rfl rfl (by decide +kernel)) (pi_range1 (by rfl) T.f_range (pa_cons (pe_call (ok_law_draw T) (hr.mono (by decide)) (by rfl) T.g_law_draw T.F_law_draw.kp (b_law_draw T) .nil pass0 (pa_cons (pv 0) (pa_cons (pe_int) pa_nil))) pa_nil)) (blkOk_by (own := [("_law_k", 3)]) (N := nm_law_value_2) (sc := defScope st_law_value_2) (by decide +kernel)) (fun _ _ _ _ _ => (pg_n 3 sc_law_value_2.nd)) (fun _ _ _ _ _ => pts_nil) (fun _ _ _ _ _ => (pe_call (ok_law_value_1 T) (hr.mono (by decide)) (by rfl) T.g_law_value_1 T.F_law_value_1.kp (b_law_value_1 T) .nil pass0 (pa_cons (pv 0) (pa_cons (pe_op op_minus (pv 1) (pe_int)) pa_nil)))))
      (pss_one (ps_ret (pe_ifExp (pt_cmpR (op_eqq hr.units) (pv 2) (pe_int) (nomark _)) (pv 4) (pe_callTy (call_tupOf) (by rfl) T.f_tuple (by decide +kernel) (pa_cons (pv 4) pa_nil))))))))))
theorem b_law_value_2 (T : Tx P K mg w) : Binds K T.fd_law_value_2 ps_law_value_2 [] := T.F_law_value_2.bindsN fun _ _ _ _ _ _ us hl => match us, hl with | [_, _], _ => rfl
theorem sd_law_value_3 (T : Tx P K mg w) : SnS K (t_law_value_3 K) m_law_value_3 := by
  unfold t_law_value_3 m_law_value_3
  exact (sn_seq (sn_asg (sn_call (sn_cons (sn_var) (sn_cons (sn_if (sn_test (sn_op ov_gt (sn_var) (sn_int))) (sn_int) (sn_int)) sn_nil)) dfl_nil) sn_gName)
      (sn_seq (sn_ifS (sn_test (sn_op ov_eq (sn_var) (sn_int))) (sn_ret (sn_call (sn_cons (sn_var) (sn_cons (sn_lst (sn_cons (sn_int) (sn_cons (sn_int) (sn_cons (sn_op ov_minus (sn_int) (sn_int)) (sn_cons (sn_op ov_pw (sn_int) (sn_int)) sn_nil))))) sn_nil)) dfl_nil)) sn_next)
      (sn_seq (sn_ifS (sn_test (sn_op ov_eq (sn_var) (sn_int))) (sn_ret (sn_call (sn_cons (sn_var) (sn_cons (sn_lst (sn_cons (sn_non) (sn_cons (sn_bl) (sn_cons (sn_bl) sn_nil)))) sn_nil)) dfl_nil)) sn_next)
      (sn_seq (sn_ifS (sn_test (sn_op ov_lt (sn_var) (sn_int))) (sn_ret (sn_call (sn_cons (sn_var) (sn_cons (sn_lst (sn_cons (sn_str) (sn_cons (sn_str) (sn_cons (sn_str) (sn_cons (sn_str) (sn_cons (sn_str) (sn_cons (sn_str) (sn_cons (sn_str) (sn_cons (sn_str) sn_nil))))))))) sn_nil)) dfl_nil)) sn_next)
      (sn_seq (sn_asg (sn_lc (sn_iRng1 (sn_cons (sn_call (sn_cons (sn_var) (sn_cons (sn_int) sn_nil)) dfl_nil) sn_nil)) sn_cName sn_yes (sn_call (sn_cons (sn_var) (sn_cons (sn_op ov_minus (sn_var) (sn_int)) sn_nil)) dfl_nil)) sn_gName)
      (sn_ret (sn_if (sn_test (sn_op ov_eq (sn_var) (sn_int))) (sn_var) (sn_cb1 ou_tup (sn_var)))))))))
theorem ok_law_value_3 (T : Tx P K mg w) : FnOk P w K mg base CX0 5 (He.ga K "_law_value") T.fd_law_value_3 ps_law_value_3 (sp_law_value_3 K) := by
  refine T.F_law_value_3.ok sc_law_value_3 (fun vs H Q E h => ln_body h) (fun cdv A outer s H vs Q E hr h => ⟨t_law_value_3 K, PSs.nox ?_, fn_rd (N := nm_law_value_3) (fn_body (sd_law_value_3 T)) h⟩)
  exact (pss_cons (ps_a 2 sc_law_value_3.nd (pe_call (ok_law_draw T) (hr.mono (by decide)) (by rfl) T.g_law_draw T.F_law_draw.kp (b_law_draw T) .nil pass0 (pa_cons (pv 0) (pa_cons (pe_ifExp (pt_cmpR (op_gt') (pv 1) (pe_int) (nomark _)) (pe_int) (pe_int)) pa_nil))))
      (pss_cons (ps_if (pt_cmpR (op_eqq hr.units) (pv 2) (pe_int) (nomark _)) (pss_one (ps_ret (pe_call (ok_law_pick T) (hr.mono (by decide)) (by rfl) T.g_law_pick T.F_law_pick.kp (b_law_pick T) .nil pass0 (pa_cons (pv 0) (pa_cons (pe_lst (pa_cons (pe_int) (pa_cons (pe_int) (pa_cons (pe_op op_minus (pe_int) (pe_int)) (pa_cons (pe_op op_pw (pe_int) (pe_int)) pa_nil))))) pa_nil))))) pss_nil)
      (pss_cons (ps_if (pt_cmpR (op_eqq hr.units) (pv 2) (pe_int) (nomark _)) (pss_one (ps_ret (pe_call (ok_law_pick T) (hr.mono (by decide)) (by rfl) T.g_law_pick T.F_law_pick.kp (b_law_pick T) .nil pass0 (pa_cons (pv 0) (pa_cons (pe_lst (pa_cons (pe_non) (pa_cons (pe_bl) (pa_cons (pe_bl) pa_nil)))) pa_nil))))) pss_nil)
      (pss_cons (ps_if (pt_cmpR (op_lt') (pv 2) (pe_int) (nomark _)) (pss_one (ps_ret (pe_call (ok_law_pick T) (hr.mono (by decide)) (by rfl) T.g_law_pick T.F_law_pick.kp (b_law_pick T) .nil pass0 (pa_cons (pv 0) (pa_cons (pe_lst (pa_cons (pe_str) (pa_cons (pe_str) (pa_cons (pe_str) (pa_cons (pe_str) (pa_cons (pe_str) (pa_cons (pe_str) (pa_cons (pe_str) (pa_cons (pe_str) pa_nil))))))))) pa_nil))))) pss_nil)
      (pss_cons (ps_setLc (i := 4) (own := [("_law_k", 3)]) rfl sc_law_value_3.nd rfl rfl (sw_true rfl rfl rfl (by decide +kernel)) (pi_range1 (by rfl) T.f_range (pa_cons (pe_call (ok_law_draw T) (hr.mono (by decide)) (by rfl) T.g_law_draw T.F_law_draw.kp (b_law_draw T) .nil pass0 (pa_cons (pv 0) (pa_cons (pe_int) pa_nil))) pa_nil)) (blkOk_by (own := [("_law_k", 3)]) (N := nm_law_value_3) (sc := defScope st_law_value_3) (by decide +kernel)) (fun _ _ _ _ _ => (pg_n 3 sc_law_value_3.nd)) (fun _ _ _ _ _ => pts_nil) (fun _ _ _ _ _ => (pe_call (ok_law_value_2 T) (hr.mono (by decide)) (by rfl) T.g_law_value_2 T.F_law_value_2.kp (b_law_value_2 T) .nil pass0 (pa_cons (pv 0) (pa_cons (pe_op op_minus (pv 1) (pe_int)) pa_nil)))))
      (pss_one (ps_ret (pe_ifExp (pt_cmpR (op_eqq hr.units) (pv 2) (pe_int) (nomark _)) (pv 4) (pe_callTy (call_tupOf) (by rfl) T.f_tuple (by decide +kernel) (pa_cons (pv 4) pa_nil))))))))))
theorem b_law_value_3 (T : Tx P K mg w) : Binds K T.fd_law_value_3 ps_law_value_3 [] := T.F_law_value_3.bindsN fun _ _ _ _ _ _ us hl => match us, hl with | [_, _], _ => rfl
theorem sd_law_value (T : Tx P K mg w) : SnS K (t_law_value K) m_law_value := by
  unfold t_law_value m_law_value
  exact (sn_seq (sn_asg (sn_call (sn_cons (sn_var) (sn_cons (sn_if (sn_test (sn_op ov_gt (sn_var) (sn_int))) (sn_int) (sn_int)) sn_nil)) dfl_nil) sn_gName)
      (sn_seq (sn_ifS (sn_test (sn_op ov_eq (sn_var) (sn_int))) (sn_ret (sn_call (sn_cons (sn_var) (sn_cons (sn_lst (sn_cons (sn_int) (sn_cons (sn_int) (sn_cons (sn_op ov_minus (sn_int) (sn_int)) (sn_cons (sn_op ov_pw (sn_int) (sn_int)) sn_nil))))) sn_nil)) dfl_nil)) sn_next)
      (sn_seq (sn_ifS (sn_test (sn_op ov_eq (sn_var) (sn_int))) (sn_ret (sn_call (sn_cons (sn_var) (sn_cons (sn_lst (sn_cons (sn_non) (sn_cons (sn_bl) (sn_cons (sn_bl) sn_nil)))) sn_nil)) dfl_nil)) sn_next)
      (sn_seq (sn_ifS (sn_test (sn_op ov_lt (sn_var) (sn_int))) (sn_ret (sn_call (sn_cons (sn_var) (sn_cons (sn_lst (sn_cons (sn_str) (sn_cons (sn_str) (sn_cons (sn_str) (sn_cons (sn_str) (sn_cons (sn_str) (sn_cons (sn_str) (sn_cons (sn_str) (sn_cons (sn_str) sn_nil))))))))) sn_nil)) dfl_nil)) sn_next)
      (sn_seq (sn_asg (sn_lc (sn_iRng1 (sn_cons (sn_call (sn_cons (sn_var) (sn_cons (sn_int) sn_nil)) dfl_nil) sn_nil)) sn_cName sn_yes (sn_call (sn_cons (sn_var) (sn_cons (sn_op ov_minus (sn_var) (sn_int)) sn_nil)) dfl_nil)) sn_gName)
      (sn_ret (sn_if (sn_test (sn_op ov_eq (sn_var) (sn_int))) (sn_var) (sn_cb1 ou_tup (sn_var)))))))))
theorem ok_law_value (T : Tx P K mg w) : FnOk P w K mg base CX0 6 (He.ga K "_law_value") T.fd_law_value ps_law_value (sp_law_value K) := by
  refine T.F_law_value.ok sc_law_value (fun vs H Q E h => ln_body h) (fun cdv A outer s H vs Q E hr h => ⟨t_law_value K, PSs.nox ?_, fn_rd (N := nm_law_value) (fn_body (sd_law_value T)) h⟩)
  exact (pss_cons (ps_a 2 sc_law_value.nd (pe_call (ok_law_draw T) (hr.mono (by decide)) (by rfl) T.g_law_draw T.F_law_draw.kp (b_law_draw T) .nil pass0 (pa_cons (pv 0) (pa_cons (pe_ifExp (pt_cmpR (op_gt') (pv 1) (pe_int) (nomark _)) (pe_int) (pe_int)) pa_nil))))
      (pss_cons (ps_if (pt_cmpR (op_eqq hr.units) (pv 2) (pe_int) (nomark _)) (pss_one (ps_ret (pe_call (ok_law_pick T) (hr.mono (by decide)) (by rfl) T.g_law_pick T.F_law_pick.kp (b_law_pick T) .nil pass0 (pa_cons (pv 0) (pa_cons (pe_lst (pa_cons (pe_int) (pa_cons (pe_int) (pa_cons (pe_op op_minus (pe_int) (pe_int)) (pa_cons (pe_op op_pw (pe_int) (pe_int)) pa_nil))))) pa_nil))))) pss_nil)
      (pss_cons (ps_if (pt_cmpR (op_eqq hr.units) (pv 2) (pe_int) (nomark _)) (pss_one (ps_ret (pe_call (ok_law_pick T) (hr.mono (by decide)) (by rfl) T.g_law_pick T.F_law_pick.kp (b_law_pick T) .nil pass0 (pa_cons (pv 0) (pa_cons (pe_lst (pa_cons (pe_non) (pa_cons (pe_bl) (pa_cons (pe_bl) pa_nil)))) pa_nil))))) pss_nil)
      (pss_cons (ps_if (pt_cmpR (op_lt') (pv 2) (pe_int) (nomark _)) (pss_one (ps_ret (pe_call (ok_law_pick T) (hr.mono (by decide)) (by rfl) T.g_law_pick T.F_law_pick.kp (b_law_pick T) .nil pass0 (pa_cons (pv 0) (pa_cons (pe_lst (pa_cons (pe_str) (pa_cons (pe_str) (pa_cons (pe_str) (pa_cons (pe_str) (pa_cons (pe_str) (pa_cons (pe_str) (pa_cons (pe_str) (pa_cons (pe_str) pa_nil))))))))) pa_nil))))) pss_nil)
      (pss_cons (ps_setLc (i := 4) (own := [("_law_k", 3)]) rfl sc_law_value.nd rfl rfl (sw_true rfl rfl rfl (by decide +kernel)) (pi_range1 (by rfl) T.f_range (pa_cons (pe_call (ok_law_draw T) (hr.mono (by decide)) (by rfl) T.g_law_draw T.F_law_draw.kp (b_law_draw T) .nil pass0 (pa_cons (pv 0) (pa_cons (pe_int) pa_nil))) pa_nil)) (blkOk_by (own := [("_law_k", 3)]) (N := nm_law_value) (sc := defScope st_law_value) (by decide +kernel)) (fun _ _ _ _ _ => (pg_n 3 sc_law_value.nd)) (fun _ _ _ _ _ => pts_nil) (fun _ _ _ _ _ => (pe_call (ok_law_value_3 T) (hr.mono (by decide)) (by rfl) T.g_law_value_3 T.F_law_value_3.kp (b_law_value_3 T) .nil pass0 (pa_cons (pv 0) (pa_cons (pe_op op_minus (pv 1) (pe_int)) pa_nil)))))
      (pss_one (ps_ret (pe_ifExp (pt_cmpR (op_eqq hr.units) (pv 2) (pe_int) (nomark _)) (pv 4) (pe_callTy (call_tupOf) (by rfl) T.f_tuple (by decide +kernel) (pa_cons (pv 4) pa_nil))))))))))
theorem b_law_value (T : Tx P K mg w) : Binds K T.fd_law_value ps_law_value [] := T.F_law_value.bindsN fun _ _ _ _ _ _ us hl => match us, hl with | [_, _], _ => rfl
theorem sd_law (T : Tx P K mg w) : SnS K (t_law K) m_law := by
  unfold t_law m_law
  exact (sn_seq (sn_asg (sn_call (sn_cons (sn_var) (sn_cons (sn_int) sn_nil)) dfl_nil) sn_gName)
      (sn_seq (sn_for (sn_iRng1 (sn_cons (sn_int) sn_nil)) sn_gName (sn_cut (sn_seq (sn_asg (sn_lstM (sn_cons (sn_call (sn_cons (sn_var) (sn_cons (sn_int) sn_nil)) dfl_nil) sn_nil)) sn_gName)
      (sn_seq (sn_par (sn_cons (sn_exV (sn_cons (sn_var) sn_nil)) (sn_cons ((sn_reprW (sn_call (sn_cons (sn_var) sn_nil) dfl_nil))) sn_nil)))
      (sn_seq (sn_drop (sn_append (sn_var) (sn_cons (sn_call (sn_cons (sn_var) (sn_cons (sn_int) sn_nil)) dfl_nil) sn_nil)))
      (sn_seq (sn_ifS (sn_or (sn_test (sn_op ov_eq (sn_var) ((sn_reprW (sn_call (sn_cons (sn_var) sn_nil) dfl_nil))))) (sn_test (sn_reprNe (sn_exvF (by intro c hc; simp only [List.mem_cons, List.not_mem_nil, or_false] at hc; rcases hc with rfl <;> first | exact ⟨T.xe_NoRow.2.1, T.xn_NoRow⟩) (sn_var)) (sn_var)))) (sn_ret (sn_bl)) sn_next)
      (sn_ifS (sn_test (sn_op ov_ne (sn_lcWf (sn_call (sn_cons (sn_var) sn_nil) dfl_nil) (sn_test (sn_reprNe (sn_var) (sn_var))) (sn_int)) (sn_lst sn_nil))) (sn_ret (sn_bl)) sn_next)))))))
      (sn_seq (sn_asg (sn_lsW (sn_cons (sn_exV (sn_cons (sn_str) sn_nil)) (sn_cons (sn_exV (sn_cons (sn_str) sn_nil)) (sn_cons (sn_exV (sn_cons (sn_str) sn_nil)) (sn_cons (sn_exV (sn_cons (sn_int) sn_nil)) (sn_cons (sn_exV (sn_cons (sn_int) sn_nil)) (sn_cons (sn_exV0) sn_nil))))))) sn_gName)
      (sn_seq (sn_forW (sn_addW (sn_var) (sn_lsW (sn_cons (sn_exV (sn_cons (sn_int) sn_nil)) (sn_cons (sn_exV0) (sn_cons (sn_exV (sn_cons (sn_int) sn_nil)) sn_nil))))) sn_gName (sn_seq (sn_ifS (sn_or (sn_not (sn_B (sn_exIs (cv := (Value.ref (He.ga K "CardError"))) (fun u h => h) (by intro c b hc; simp only [List.mem_cons, List.not_mem_nil, or_false, Prod.mk.injEq] at hc; rcases hc with ⟨rfl, rfl⟩ | ⟨rfl, rfl⟩ | ⟨rfl, rfl⟩ | ⟨rfl, rfl⟩ | ⟨rfl, rfl⟩ | ⟨rfl, rfl⟩ | ⟨rfl, rfl⟩ | ⟨rfl, rfl⟩ | ⟨rfl, rfl⟩ | ⟨rfl, rfl⟩ <;> first | exact ⟨T.xe_InvalidRow.1, T.xt_InvalidRow_CardError⟩ | exact ⟨T.xe_InvalidTool.1, T.xt_InvalidTool_CardError⟩ | exact ⟨T.xe_InvalidTerms.1, T.xt_InvalidTerms_CardError⟩ | exact ⟨T.xe_InvalidText.1, T.xt_InvalidText_CardError⟩ | exact ⟨T.xe_InvalidEvent.1, T.xt_InvalidEvent_CardError⟩ | exact ⟨T.xe_InvalidFault.1, T.xt_InvalidFault_CardError⟩ | exact ⟨T.xe_InvalidSeen.1, T.xt_InvalidSeen_CardError⟩ | exact ⟨T.xe_InvalidCommand.1, T.xt_InvalidCommand_CardError⟩ | exact ⟨T.xe_Refused.1, T.xt_Refused_CardError⟩ | exact ⟨T.xe_NoRow.1, T.xt_NoRow_CardError⟩) (sn_var)))) (sn_not (sn_B (sn_exIs (cv := (Value.type "ValueError")) (fun u h => h) (by intro c b hc; simp only [List.mem_cons, List.not_mem_nil, or_false, Prod.mk.injEq] at hc; rcases hc with ⟨rfl, rfl⟩ | ⟨rfl, rfl⟩ | ⟨rfl, rfl⟩ | ⟨rfl, rfl⟩ | ⟨rfl, rfl⟩ | ⟨rfl, rfl⟩ | ⟨rfl, rfl⟩ | ⟨rfl, rfl⟩ | ⟨rfl, rfl⟩ | ⟨rfl, rfl⟩ <;> first | exact ⟨T.xe_InvalidRow.1, T.xt_InvalidRow_ValueError⟩ | exact ⟨T.xe_InvalidTool.1, T.xt_InvalidTool_ValueError⟩ | exact ⟨T.xe_InvalidTerms.1, T.xt_InvalidTerms_ValueError⟩ | exact ⟨T.xe_InvalidText.1, T.xt_InvalidText_ValueError⟩ | exact ⟨T.xe_InvalidEvent.1, T.xt_InvalidEvent_ValueError⟩ | exact ⟨T.xe_InvalidFault.1, T.xt_InvalidFault_ValueError⟩ | exact ⟨T.xe_InvalidSeen.1, T.xt_InvalidSeen_ValueError⟩ | exact ⟨T.xe_InvalidCommand.1, T.xt_InvalidCommand_ValueError⟩ | exact ⟨T.xe_Refused.1, T.xt_Refused_ValueError⟩ | exact ⟨T.xe_NoRow.1, T.xt_NoRow_ValueError⟩) (sn_var))))) (sn_ret (sn_bl)) sn_next)
      (sn_ifS (sn_or (sn_B (sn_exIsT (v1 := (Value.type "KeyError")) (v2 := (Value.type "IndexError")) (fun u h => h) (fun u h => h) (by intro c b hc; simp only [List.mem_cons, List.not_mem_nil, or_false, Prod.mk.injEq] at hc; rcases hc with ⟨rfl, rfl⟩ | ⟨rfl, rfl⟩ | ⟨rfl, rfl⟩ | ⟨rfl, rfl⟩ | ⟨rfl, rfl⟩ | ⟨rfl, rfl⟩ | ⟨rfl, rfl⟩ | ⟨rfl, rfl⟩ | ⟨rfl, rfl⟩ | ⟨rfl, rfl⟩ <;> first | exact ⟨T.xe_InvalidRow.1, T.xa_InvalidRow_KeyError_IndexError⟩ | exact ⟨T.xe_InvalidTool.1, T.xa_InvalidTool_KeyError_IndexError⟩ | exact ⟨T.xe_InvalidTerms.1, T.xa_InvalidTerms_KeyError_IndexError⟩ | exact ⟨T.xe_InvalidText.1, T.xa_InvalidText_KeyError_IndexError⟩ | exact ⟨T.xe_InvalidEvent.1, T.xa_InvalidEvent_KeyError_IndexError⟩ | exact ⟨T.xe_InvalidFault.1, T.xa_InvalidFault_KeyError_IndexError⟩ | exact ⟨T.xe_InvalidSeen.1, T.xa_InvalidSeen_KeyError_IndexError⟩ | exact ⟨T.xe_InvalidCommand.1, T.xa_InvalidCommand_KeyError_IndexError⟩ | exact ⟨T.xe_Refused.1, T.xa_Refused_KeyError_IndexError⟩ | exact ⟨T.xe_NoRow.1, T.xa_NoRow_KeyError_IndexError⟩) (sn_var))) (sn_test (sn_op ov_ne (sn_call (sn_cons (sn_var) sn_nil) dfl_nil) (sn_int)))) (sn_ret (sn_bl)) sn_next)))
      (sn_seq (sn_asg (sn_exV (sn_cons (sn_int) sn_nil)) sn_gName)
      (sn_ret (sn_andV (sn_exIs (cv := (Value.type "IndexError")) (fun u h => h) (by intro c b hc; simp only [List.mem_cons, List.not_mem_nil, or_false, Prod.mk.injEq] at hc; rcases hc with ⟨rfl, rfl⟩ | ⟨rfl, rfl⟩ | ⟨rfl, rfl⟩ | ⟨rfl, rfl⟩ | ⟨rfl, rfl⟩ | ⟨rfl, rfl⟩ | ⟨rfl, rfl⟩ | ⟨rfl, rfl⟩ | ⟨rfl, rfl⟩ | ⟨rfl, rfl⟩ <;> first | exact ⟨T.xe_InvalidRow.1, T.xt_InvalidRow_IndexError⟩ | exact ⟨T.xe_InvalidTool.1, T.xt_InvalidTool_IndexError⟩ | exact ⟨T.xe_InvalidTerms.1, T.xt_InvalidTerms_IndexError⟩ | exact ⟨T.xe_InvalidText.1, T.xt_InvalidText_IndexError⟩ | exact ⟨T.xe_InvalidEvent.1, T.xt_InvalidEvent_IndexError⟩ | exact ⟨T.xe_InvalidFault.1, T.xt_InvalidFault_IndexError⟩ | exact ⟨T.xe_InvalidSeen.1, T.xt_InvalidSeen_IndexError⟩ | exact ⟨T.xe_InvalidCommand.1, T.xt_InvalidCommand_IndexError⟩ | exact ⟨T.xe_Refused.1, T.xt_Refused_IndexError⟩ | exact ⟨T.xe_NoRow.1, T.xt_NoRow_IndexError⟩) (sn_var)) (sn_andV (sn_notV (sn_exIs (cv := (Value.type "ValueError")) (fun u h => h) (by intro c b hc; simp only [List.mem_cons, List.not_mem_nil, or_false, Prod.mk.injEq] at hc; rcases hc with ⟨rfl, rfl⟩ | ⟨rfl, rfl⟩ | ⟨rfl, rfl⟩ | ⟨rfl, rfl⟩ | ⟨rfl, rfl⟩ | ⟨rfl, rfl⟩ | ⟨rfl, rfl⟩ | ⟨rfl, rfl⟩ | ⟨rfl, rfl⟩ | ⟨rfl, rfl⟩ <;> first | exact ⟨T.xe_InvalidRow.1, T.xt_InvalidRow_ValueError⟩ | exact ⟨T.xe_InvalidTool.1, T.xt_InvalidTool_ValueError⟩ | exact ⟨T.xe_InvalidTerms.1, T.xt_InvalidTerms_ValueError⟩ | exact ⟨T.xe_InvalidText.1, T.xt_InvalidText_ValueError⟩ | exact ⟨T.xe_InvalidEvent.1, T.xt_InvalidEvent_ValueError⟩ | exact ⟨T.xe_InvalidFault.1, T.xt_InvalidFault_ValueError⟩ | exact ⟨T.xe_InvalidSeen.1, T.xt_InvalidSeen_ValueError⟩ | exact ⟨T.xe_InvalidCommand.1, T.xt_InvalidCommand_ValueError⟩ | exact ⟨T.xe_Refused.1, T.xt_Refused_ValueError⟩ | exact ⟨T.xe_NoRow.1, T.xt_NoRow_ValueError⟩) (sn_var))) (sn_notV (sn_exIs (cv := (Value.type "KeyError")) (fun u h => h) (by intro c b hc; simp only [List.mem_cons, List.not_mem_nil, or_false, Prod.mk.injEq] at hc; rcases hc with ⟨rfl, rfl⟩ | ⟨rfl, rfl⟩ | ⟨rfl, rfl⟩ | ⟨rfl, rfl⟩ | ⟨rfl, rfl⟩ | ⟨rfl, rfl⟩ | ⟨rfl, rfl⟩ | ⟨rfl, rfl⟩ | ⟨rfl, rfl⟩ | ⟨rfl, rfl⟩ <;> first | exact ⟨T.xe_InvalidRow.1, T.xt_InvalidRow_KeyError⟩ | exact ⟨T.xe_InvalidTool.1, T.xt_InvalidTool_KeyError⟩ | exact ⟨T.xe_InvalidTerms.1, T.xt_InvalidTerms_KeyError⟩ | exact ⟨T.xe_InvalidText.1, T.xt_InvalidText_KeyError⟩ | exact ⟨T.xe_InvalidEvent.1, T.xt_InvalidEvent_KeyError⟩ | exact ⟨T.xe_InvalidFault.1, T.xt_InvalidFault_KeyError⟩ | exact ⟨T.xe_InvalidSeen.1, T.xt_InvalidSeen_KeyError⟩ | exact ⟨T.xe_InvalidCommand.1, T.xt_InvalidCommand_KeyError⟩ | exact ⟨T.xe_Refused.1, T.xt_Refused_KeyError⟩ | exact ⟨T.xe_NoRow.1, T.xt_NoRow_KeyError⟩) (sn_var)))))))))))
theorem ok_law (T : Tx P K mg w) : FnG P w K mg base CX0 7 (He.ga K "law") T.fd_law ps_law (sp_law K) := by
  refine funG T.F_law sc_law (fun vs H Q E h => ln_body h) (fun cdv A outer s H vs Q E gA hr h => ⟨t_law K, PSs.nox ?_, fn_rd (N := nm_law) (fn_body (sd_law T)) h⟩)
  exact (pss_cons (ps_a 1 sc_law.nd (pe_call (ok_law_deal T) (hr.mono (by decide)) (by rfl) T.g_law_deal T.F_law_deal.kp (b_law_deal T) .nil pass0 (pa_cons (pv 0) (pa_cons (pe_int) pa_nil))))
      (pss_cons (ps_for PassesOwn.never rfl (pi_range1 (by rfl) T.f_range (pa_cons (pe_int) pa_nil)) (pg_n 2 sc_law.nd) (pss_cons (ps_a 3 sc_law.nd (pe_lstM (pa_cons (pe_call (ok_law_value T) (hr.mono (by decide)) (by rfl) T.g_law_value T.F_law_value.kp (b_law_value T) .nil pass0 (pa_cons (pv 1) (pa_cons (pe_int) pa_nil))) pa_nil)))
      (pss_cons (ps_par (by rfl) sc_law.nd rfl rfl (by decide) rfl rfl (pa_cons (pe_exVI (CX := CX0) T.xs_NoRow.x T.xi_NoRow.1 T.xi_NoRow.2 (okx_NoRow_init T) (hr.mono (by decide)) (bi_NoRow_init T) .nil pass0 (by rfl) T.g_NoRow (pa_cons (pv 3) pa_nil)) (pa_cons ((pe_callB (call_reprD gA hr.units) (by rfl) T.f_repr (by decide +kernel) (pa_cons (pe_call (ok_law_kept T) (hr.mono (by decide)) (by rfl) T.g_law_kept T.F_law_kept.kp (b_law_kept T) .nil pass0 (pa_cons (pv 3) pa_nil)) pa_nil))) pa_nil)) (by rfl))
      (pss_cons (ps_expr (pe_bm PySem.F.plainAttrs_list PySem.F.slot_list_append PySem.F.type_list_append mt_append (pv 3) (pa_cons (pe_call (ok_law_value T) (hr.mono (by decide)) (by rfl) T.g_law_value T.F_law_value.kp (b_law_value T) .nil pass0 (pa_cons (pv 1) (pa_cons (pe_int) pa_nil))) pa_nil)))
      (pss_cons (ps_if (PW.pt (pw_or (pt_cmpR (op_eqq hr.units) (pv 5) ((pe_callB (call_reprD gA hr.units) (by rfl) T.f_repr (by decide +kernel) (pa_cons (pe_call (ok_law_kept T) (hr.mono (by decide)) (by rfl) T.g_law_kept T.F_law_kept.kp (b_law_kept T) .nil pass0 (pa_cons (pv 3) pa_nil)) pa_nil))) (nomark _)) (pw_or1 (pt_cmpR (op_nee hr.units) (pe_callB (call_reprD gA hr.units) (by rfl) T.f_repr (by decide +kernel) (pa_cons (pe_exF (pv 4)) pa_nil)) (pe_callB (call_reprD gA hr.units) (by rfl) T.f_repr (by decide +kernel) (pa_cons (pv 3) pa_nil)) (nomark _))))) (pss_one (ps_ret (pe_bl))) pss_nil)
      (pss_one (ps_if (pt_cmpR (op_nee hr.units) (pe_lc (own := [("_law_kept_here", 6)]) rfl sc_law.nd (pi_seq (pe_call (ok_law_kept T) (hr.mono (by decide)) (by rfl) T.g_law_kept T.F_law_kept.kp (b_law_kept T) .nil pass0 (pa_cons (pv 3) pa_nil))) (blkOk_by (own := [("_law_kept_here", 6)]) (N := nm_law) (sc := defScope st_law) (by decide +kernel)) (fun _ _ _ _ _ => (pg_n 6 sc_law.nd)) (fun _ _ _ _ _ => pts_one (pt_cmpR (op_nee hr.units) (pe_callB (call_reprD gA hr.units) (by rfl) T.f_repr (by decide +kernel) (pa_cons (pv 6) pa_nil)) (pe_callB (call_reprD gA hr.units) (by rfl) T.f_repr (by decide +kernel) (pa_cons (pv 3) pa_nil)) (nomark _))) (fun _ _ _ _ _ => (pe_int))) (pe_lst pa_nil) (nomark _)) (pss_one (ps_ret (pe_bl))) pss_nil)))))))
      (pss_cons (ps_a 7 sc_law.nd (pe_lst (pa_cons (pe_exV (CX := CX0) T.xs_InvalidRow.x T.xi_InvalidRow.1 T.xi_InvalidRow.2 (okx_InvalidRow_init T) (hr.mono (by decide)) (bi_InvalidRow_init T) .nil pass0 (by rfl) T.g_InvalidRow (pa_cons (pe_str) pa_nil)) (pa_cons (pe_exV (CX := CX0) T.xs_InvalidTool.x T.xi_InvalidTool.1 T.xi_InvalidTool.2 (okx_InvalidTool_init T) (hr.mono (by decide)) (bi_InvalidTool_init T) .nil pass0 (by rfl) T.g_InvalidTool (pa_cons (pe_str) pa_nil)) (pa_cons (pe_exV (CX := CX0) T.xs_InvalidTerms.x T.xi_InvalidTerms.1 T.xi_InvalidTerms.2 (okx_InvalidTerms_init T) (hr.mono (by decide)) (bi_InvalidTerms_init T) .nil pass0 (by rfl) T.g_InvalidTerms (pa_cons (pe_str) pa_nil)) (pa_cons (pe_exV (CX := CX0) T.xs_InvalidText.x T.xi_InvalidText.1 T.xi_InvalidText.2 (okx_InvalidText_init T) (hr.mono (by decide)) (bi_InvalidText_init T) .nil pass0 (by rfl) T.g_InvalidText (pa_cons (pe_int) pa_nil)) (pa_cons (pe_exV (CX := CX0) T.xs_InvalidEvent.x T.xi_InvalidEvent.1 T.xi_InvalidEvent.2 (okx_InvalidEvent_init T) (hr.mono (by decide)) (bi_InvalidEvent_init T) .nil pass0 (by rfl) T.g_InvalidEvent (pa_cons (pe_int) pa_nil)) (pa_cons (pe_exV0 (CX := CX0) T.xs_InvalidFault.x T.xi_InvalidFault.1 T.xi_InvalidFault.2 (okx_InvalidFault_init T) (hr.mono (by decide)) (bi_InvalidFault_init T) pass0 (by rfl) T.g_InvalidFault) pa_nil))))))))
      (pss_cons (ps_for PassesOwn.never rfl (pi_seq (pe_op op_plus (pv 7) (pe_lst (pa_cons (pe_exV (CX := CX0) T.xs_InvalidSeen.x T.xi_InvalidSeen.1 T.xi_InvalidSeen.2 (okx_InvalidSeen_init T) (hr.mono (by decide)) (bi_InvalidSeen_init T) .nil pass0 (by rfl) T.g_InvalidSeen (pa_cons (pe_int) pa_nil)) (pa_cons (pe_exV0 (CX := CX0) T.xs_InvalidCommand.x T.xi_InvalidCommand.1 T.xi_InvalidCommand.2 (okx_InvalidCommand_init T) (hr.mono (by decide)) (bi_InvalidCommand_init T) pass0 (by rfl) T.g_InvalidCommand) (pa_cons (pe_exV (CX := CX0) T.xs_Refused.x T.xi_Refused.1 T.xi_Refused.2 (okx_Refused_init T) (hr.mono (by decide)) (bi_Refused_init T) .nil pass0 (by rfl) T.g_Refused (pa_cons (pe_int) pa_nil)) pa_nil)))))) (pg_n 8 sc_law.nd) (pss_cons (ps_if (PW.pt (pw_or (pt_not (pt_val (pe_callB call_isVs (by rfl) T.f_isinstance (by decide +kernel) (pa_cons (pv 8) (pa_cons (pe_glob (v := V.ref (He.ga K "CardError")) (by rfl) T.g_CardError rfl) pa_nil))))) (pw_or1 (pt_not (pt_val (pe_callB call_isVs (by rfl) T.f_isinstance (by decide +kernel) (pa_cons (pv 8) (pa_cons (pe_bltn (v := V.ty "ValueError") (by rfl) T.f_ValueError (by decide +kernel) rfl) pa_nil)))))))) (pss_one (ps_ret (pe_bl))) pss_nil)
      (pss_one (ps_if (PW.pt (pw_or (pt_val (pe_callB call_isVt (by rfl) T.f_isinstance (by decide +kernel) (pa_cons (pv 8) (pa_cons (pe_tup (pa_cons (pe_bltn (v := V.ty "KeyError") (by rfl) T.f_KeyError (by decide +kernel) rfl) (pa_cons (pe_bltn (v := V.ty "IndexError") (by rfl) T.f_IndexError (by decide +kernel) rfl) pa_nil))) pa_nil)))) (pw_or1 (pt_cmpR (op_nee hr.units) (pe_call (ok_law_sorts T) (hr.mono (by decide)) (by rfl) T.g_law_sorts T.F_law_sorts.kp (b_law_sorts T) .nil pass0 (pa_cons (pv 8) pa_nil)) (pe_int) (nomark _))))) (pss_one (ps_ret (pe_bl))) pss_nil))))
      (pss_cons (ps_a 8 sc_law.nd (pe_exVI (CX := CX0) T.xs_NoRow.x T.xi_NoRow.1 T.xi_NoRow.2 (okx_NoRow_init T) (hr.mono (by decide)) (bi_NoRow_init T) .nil pass0 (by rfl) T.g_NoRow (pa_cons (pe_int) pa_nil)))
      (pss_one (ps_ret (pe_and (pe_callB call_isVs (by rfl) T.f_isinstance (by decide +kernel) (pa_cons (pv 8) (pa_cons (pe_bltn (v := V.ty "IndexError") (by rfl) T.f_IndexError (by decide +kernel) rfl) pa_nil))) (pe_and (pe_not (pe_callB call_isVs (by rfl) T.f_isinstance (by decide +kernel) (pa_cons (pv 8) (pa_cons (pe_bltn (v := V.ty "ValueError") (by rfl) T.f_ValueError (by decide +kernel) rfl) pa_nil)))) (pe_one (pe_not (pe_callB call_isVs (by rfl) T.f_isinstance (by decide +kernel) (pa_cons (pv 8) (pa_cons (pe_bltn (v := V.ty "KeyError") (by rfl) T.f_KeyError (by decide +kernel) rfl) pa_nil))))))))))))))
end
end DX.K01
namespace DX
open PySem PySem.Spec L2 DK
end DX
namespace DX
open PySem PySem.Spec L2 DK
theorem Good.x {rows : List RowM} {w : Int} (h : Good 9 rows) (hw : 1 ≤ w) (hw2 : w ≤ 20) : ToolX XT ⟨w, rows⟩ := ⟨(h.mono (by omega)).tool hw, by show w ≤ 64; omega, fun r hr => ⟨(h.rw r hr).ok, Nat.le_succ_of_le (h.rw r hr).t2, (h.rw r hr).d3⟩, by have := h.le; show rows.length ≤ 20; omega⟩
end DX
namespace DX
open PySem PySem.Spec L2 DK
def renT (nm s : Str) : Str := if s = "marked k" then "marked " ++ nm else "not marked " ++ nm
def renD (nm s : Str) : Str := if s = "learn" then "learn" else if s = "mark k" then "mark " ++ nm else "clear " ++ nm
def renR (nm : Str) (r : RowM) : RowM := ⟨r.word, r.tests.map (renT nm), r.deeds.map (renD nm), r.opens⟩
def renX (nm : Str) : Txt := ⟨["marked " ++ nm, "not marked " ++ nm], ["learn", "mark " ++ nm, "clear " ++ nm]⟩
def ren2 (nm : Str) : List (List Str × List Str) := [([], []), (["k"], [nm])]
def renB (nm : Str) : Bool := (renX nm).okB && ((renX nm).ds.all fun s => deedOk s) && ((renX nm).ts.all fun s => hasSp s) && (ren2 nm).all fun p => decide (srt p.1 = p.1) && decide (srt p.2 = p.2) && (XT.ts.all fun t => decide (fits1 p.2 (renT nm t) = fits1 p.1 t)) && (XT.ds.all fun d => decide ((deedM p.1 d, deedM p.2 (renD nm d)) ∈ ren2 nm) && decide (hasSp (renD nm d) = hasSp d) && (!hasSp d || (decide (lst (wds (renD nm d)) = nm) && decide (lst (wds d) = "k")))) && (XT.ts.all fun t => decide (hasSp (renT nm t) = hasSp t) && decide (lst (wds (renT nm t)) = nm) && decide (lst (wds t) = "k")) && decide ((p.1.foldl addK [], p.2.foldl addK []) = p)
def RenM (nm : Str) (a b : List Str) : Prop := (a, b) ∈ ren2 nm
structure RenOk (nm : Str) : Prop where
  b : renB nm = true
section
variable {nm : Str} {a b : List Str}
theorem RenOk.at (h : RenOk nm) (m : RenM nm a b) : srt a = a ∧ srt b = b ∧ (∀ t ∈ XT.ts, fits1 b (renT nm t) = fits1 a t) ∧ (∀ d ∈ XT.ds, RenM nm (deedM a d) (deedM b (renD nm d))) ∧ a.foldl addK [] = a ∧ b.foldl addK [] = b := by
  have h1 := h.b
  unfold renB at h1
  rw [Bool.and_eq_true] at h1
  have h2 := List.all_eq_true.mp h1.2 (a, b) m
  simp only [Bool.and_eq_true, decide_eq_true_eq, List.all_eq_true] at h2
  obtain ⟨⟨⟨⟨⟨e1, e2⟩, e3⟩, e4⟩, e5⟩, e6⟩ := h2
  have e7 := Prod.mk.inj e6
  exact ⟨e1, e2, e3, fun d hd => (e4 d hd).1.1, e7.1, e7.2⟩
theorem RenOk.fits (h : RenOk nm) (m : RenM nm a b) {ts : List Str} (ht : ∀ t ∈ ts, t ∈ XT.ts) : fitsM (ts.map (renT nm)) b = fitsM ts a := by
  unfold fitsM
  congr 1
  rw [List.any_map]
  have h3 := (h.at m).2.2.1
  induction ts with
  | nil => rfl
  | cons t ts ih =>
    rw [List.any_cons, List.any_cons, ih fun x hx => ht x (List.mem_cons_of_mem _ hx)]
    show (fits1 b (renT nm t) || _) = _
    rw [h3 t (ht t (by simp))]
theorem RenOk.deeds (h : RenOk nm) : ∀ {ds a b : List Str}, RenM nm a b → (∀ d ∈ ds, d ∈ XT.ds) → RenM nm (ds.foldl deedM a) ((ds.map (renD nm)).foldl deedM b)
  | [], _, _, m, _ => m
  | d :: ds, a, b, m, hd => RenOk.deeds (ds := ds) h ((h.at m).2.2.2.1 d (hd d (by simp))) fun x hx => hd x (List.mem_cons_of_mem _ hx)
theorem RenOk.behind (h : RenOk nm) (m : RenM nm a b) {ds : List Str} (hd : ∀ d ∈ ds, d ∈ XT.ds) : RenM nm (behindM ds a) (behindM (ds.map (renD nm)) b) := by
  obtain ⟨-, -, -, -, e5, e6⟩ := h.at m
  have m2 := h.deeds m hd
  obtain ⟨e1, e2, -⟩ := h.at m2
  unfold behindM
  rw [e5, e6, e1, e2]
  exact m2
theorem enumR_map {f : RowM → RowM} : ∀ {n : Nat} {rs : List RowM}, enumR n (rs.map f) = (enumR n rs).map fun p => (p.1, f p.2)
  | _, [] => rfl
  | n, x :: xs => by rw [List.map_cons, enumR, enumR, List.map_cons, enumR_map]
theorem find_map {α β : Type} {f : α → β} {p : β → Bool} {q : α → Bool} : ∀ {l : List α}, (∀ x ∈ l, p (f x) = q x) → (l.map f).find? p = (l.find? q).map f
  | [], _ => rfl
  | x :: l, h => by
    rw [List.map_cons, List.find?_cons, List.find?_cons, h x (by simp)]
    cases q x with
    | true => rfl
    | false => exact find_map fun y hy => h y (List.mem_cons_of_mem _ hy)
theorem enumR_mem {rs : List RowM} {p : Nat × RowM} {n : Nat} (h : p ∈ enumR n rs) : p.2 ∈ rs := List.mem_of_getElem? (enumR_at h).2
theorem RenOk.rowFor (h : RenOk nm) (m : RenM nm a b) {rows : List RowM} (hr : ∀ r ∈ rows, RW r) {w : Str} : rowForM (rows.map (renR nm)) w b = (rowForM rows w a).map fun p => (p.1, renR nm p.2) := by
  unfold rowForM
  rw [enumR_map]
  refine find_map fun p hp => ?_
  unfold fitP
  show (decide (p.2.word = w) && fitsM (p.2.tests.map (renT nm)) b) = _
  rw [h.fits m (hr p.2 (enumR_mem hp)).ok.ts]
theorem learn_ren {d : Str} (hd : d ∈ XT.ds) (h : RenOk nm) : (renD nm d = "learn") ↔ d = "learn" := by
  have h1 := h.b
  unfold renB at h1
  rw [Bool.and_eq_true] at h1
  have h2 := List.all_eq_true.mp h1.2 ([], []) (by simp [ren2])
  simp only [Bool.and_eq_true, decide_eq_true_eq, List.all_eq_true] at h2
  have h3 := (h2.1.1.2 d hd).1.2
  constructor
  · intro e
    rw [e] at h3
    have h4 : hasSp "learn" = false := by decide +kernel
    rw [h4] at h3
    simp only [XT, List.mem_cons, List.not_mem_nil, or_false] at hd
    rcases hd with rfl | rfl | rfl
    · rfl
    · exact absurd h3 (by decide +kernel)
    · exact absurd h3 (by decide +kernel)
  · rintro rfl
    exact if_pos rfl
theorem learn_mem (h : RenOk nm) {ds : List Str} (hd : ∀ d ∈ ds, d ∈ XT.ds) : (("learn" : Str) ∈ ds.map (renD nm)) ↔ ("learn" : Str) ∈ ds := by
  constructor
  · intro q
    obtain ⟨d, h1, h2⟩ := List.mem_map.mp q
    rw [(learn_ren (hd d h1) h).mp h2] at h1
    exact h1
  · intro q
    exact List.mem_map.mpr ⟨_, q, if_pos rfl⟩
theorem RenOk.ans (h : RenOk nm) (m : RenM nm a b) {rows : List RowM} {w : Int} (hr : ∀ r ∈ rows, RW r) {n c : Int} : (ansS ⟨w, rows.map (renR nm)⟩ n b c).op = (ansS ⟨w, rows⟩ n a c).op ∧ (ansS ⟨w, rows.map (renR nm)⟩ n b c).n = (ansS ⟨w, rows⟩ n a c).n ∧ (ansS ⟨w, rows.map (renR nm)⟩ n b c).row = (ansS ⟨w, rows⟩ n a c).row ∧ RenM nm (ansS ⟨w, rows⟩ n a c).ms (ansS ⟨w, rows.map (renR nm)⟩ n b c).ms := by
  obtain ⟨e1, e2, -⟩ := h.at m
  unfold ansS
  rw [e1, e2]
  show _
  dsimp only
  rw [h.rowFor m hr]
  cases e : rowForM rows (wordM w (c - n)) a with
  | none => exact ⟨rfl, rfl, rfl, m⟩
  | some p =>
    have hp := hr p.2 (enumR_mem (List.mem_of_find?_eq_some e))
    have hl := learn_mem h hp.ok.ds
    refine ⟨rfl, ?_, rfl, h.behind m hp.ok.ds⟩
    show (if ("learn" : Str) ∈ p.2.deeds.map (renD nm) then c else n) = _
    by_cases q : ("learn" : Str) ∈ p.2.deeds
    · rw [if_pos (hl.mpr q)]; exact (if_pos q).symm
    · rw [if_neg fun z => q (hl.mp z)]; exact (if_neg q).symm
theorem RenOk.hse (h : RenOk nm) (m : RenM nm a b) {rows : List RowM} {w : Int} (hr : ∀ r ∈ rows, RW r) {n c : Int} : (hseS ⟨w, rows.map (renR nm)⟩ n b c).n = (hseS ⟨w, rows⟩ n a c).n ∧ (hseS ⟨w, rows.map (renR nm)⟩ n b c).row = (hseS ⟨w, rows⟩ n a c).row ∧ RenM nm (hseS ⟨w, rows⟩ n a c).ms (hseS ⟨w, rows.map (renR nm)⟩ n b c).ms := by
  obtain ⟨e1, e2, -⟩ := h.at m
  unfold hseS
  rw [e1, e2]
  dsimp only
  rw [h.rowFor m hr]
  by_cases q : n < c
  · rw [if_pos q, if_pos q]
    cases e : rowForM rows "house" a with
    | none => exact ⟨rfl, rfl, m⟩
    | some p =>
      have hp := hr p.2 (enumR_mem (List.mem_of_find?_eq_some e))
      have hl := learn_mem h hp.ok.ds
      refine ⟨?_, rfl, h.behind m hp.ok.ds⟩
      show (if ("learn" : Str) ∈ p.2.deeds.map (renD nm) then c else n) = _
      by_cases q : ("learn" : Str) ∈ p.2.deeds
      · rw [if_pos (hl.mpr q)]; exact (if_pos q).symm
      · rw [if_neg fun z => q (hl.mp z)]; exact (if_neg q).symm
  · rw [if_neg q, if_neg q]
    exact ⟨rfl, rfl, m⟩
theorem RenOk.never (h : RenOk nm) (m : RenM nm a b) {rows : List RowM} {w : Int} (hr : ∀ r ∈ rows, RW r) {n c : Int} : neverS ⟨w, rows.map (renR nm)⟩ n b c = neverS ⟨w, rows⟩ n a c := by
  obtain ⟨e1, e2, -, m2⟩ := h.ans m (w := w) hr (n := n) (c := c)
  obtain ⟨f1, -⟩ := h.ans m2 (w := w) hr (n := (ansS ⟨w, rows⟩ n a c).n) (c := c)
  unfold neverS
  rw [e1, e2, f1]
def RenP (nm : Str) (p q : PlS) : Prop := ∃ b, RenM nm p.s.ms b ∧ q = { p with s := { p.s with ms := b } }
theorem RenOk.step (h : RenOk nm) {rows : List RowM} {w : Int} (hr : ∀ r ∈ rows, RW r) {p q : PlS} (hp : RenP nm p q) {i : Nat} {e : Evt} : RenP nm (plStep ⟨w, rows⟩ i p e) (plStep ⟨w, rows.map (renR nm)⟩ i q e) := by
  obtain ⟨b, m, rfl⟩ := hp
  obtain ⟨⟨n, a, top, op, sh, lw⟩, o, dn, mt⟩ := p
  have key : ∀ {n : Int} {a b : List Str} {top : Int} {op : List Int} {sh : Int} {lw : List (Int × Bool)}, RenM nm a b → stuckS ⟨w, rows.map (renR nm)⟩ ⟨n, b, top, op, sh, lw⟩ = stuckS ⟨w, rows⟩ ⟨n, a, top, op, sh, lw⟩ := fun {n a b top op sh lw} m => by
    unfold stuckS
    dsimp only
    rw [h.never m hr]
  dsimp only at m
  cases e with
  | give =>
    refine ⟨b, m, ?_⟩
    unfold plStep evMet allF' evF evO evRow evC
    dsimp only
    rw [key m]
  | house =>
    obtain ⟨e1, e2, m2⟩ := h.hse m (w := w) hr (n := n) (c := top)
    refine ⟨_, m2, ?_⟩
    unfold plStep evMet allF' evF evO evRow evC
    dsimp only
    rw [e1, e2, key m2]
  | tr k =>
    obtain ⟨e1, e2, e3, m2⟩ := h.ans m (w := w) hr (n := n) (c := (k : Int))
    refine ⟨_, (show RenM nm (tryC ⟨w, rows⟩ ⟨n, a, top, op, sh, lw⟩ k).ms _ from by rw [tryC_n.2.1]; exact m2), ?_⟩
    unfold plStep evMet allF' evF evO evRow evC tryF tryC
    dsimp only
    rcases Bool.eq_false_or_eq_true (ansS ⟨w, rows⟩ n a k).op with hq | hq
    · simp only [e1, e2, e3, hq, if_true, openS, aftS, foundS, key m2]
      rfl
    · simp only [e1, e2, e3, hq, Bool.false_eq_true, if_false, aftS, shutS, key m2]
      rfl
theorem RenOk.all (h : RenOk nm) {rows : List RowM} {w : Int} (hr : ∀ r ∈ rows, RW r) : ∀ {es : List Evt} {i : Nat} {p q : PlS}, RenP nm p q → RenP nm (plAll ⟨w, rows⟩ i es p) (plAll ⟨w, rows.map (renR nm)⟩ i es q)
  | [], _, _, _, m => m
  | e :: es, i, p, q, m => RenOk.all (es := es) h hr (h.step hr m)
end
section
variable {a b : List RowM} {w n c : Int} {ms : List Str}
end
section
variable {ρ : Env'} {μ : Mu}
end
end DX
namespace DX
open PySem PySem.Spec L2 DK
local macro_rules
  | `(tactic| push_cast [$ts,*]) => `(tactic| simp only [q_seq, q_ifS, q_if, q_and, q_or, q_not, q_andV, q_orV, q_notV, q_test, q_op, q_un, q_asg, q_ret, q_drop, q_cons, q_dat, q_dat1, q_tup, q_lst, q_call, q_meth, q_for, q_lc, q_seqI, q_sl, q_var, q_c, q_nil, q_next, q_cont, q_break, q_retN, q_yes, q_noPart, q_partB, q_isN, q_ixB, q_fld, q_enum, q_par, q_body, varW_some, view_val, view_loc, viewM_lst, viewM_frz, isBl_bl, partW_int, name_set, ixW_val, ixF_l, ixF_t, fld_row_word, fld_row_tests, fld_row_deeds, fld_row_opens, fld_tool_window, fld_tool_rows, fld_tool_marks, recv_row, recv_tool, bodyE_rt, bodyE_nx, exit_any, exit_dst, negF_int, plusF_int, minusF_int, ltF_int, leF_int, gtF_int, geF_int, eqF_int, eqF_str, eqF_bl, intF_int, maxF_int, minF_int, lenF_l, lenF_t, lenF_s, tupF_l, tupF_t, lstF_l, lstF_t, strF_s, seqOf_t, seqOf_l, guard_val, guard_loc, isNW_val, isNW_loc, enumW_1, parW_2, tup_set, cons_set, nil_set, frzL_nil, frzL_cons, frz1_val, frz1_loc, frzM_lst, frzM_frz, ofS, ite_bind, Option.bind_some, then_nx, then_rt, then_ct, then_bk, start, List.length_cons, List.length_nil, List.map_cons, List.map_nil, List.replicate, List.cons_append, List.nil_append, List.append_nil, List.getElem?_cons_succ, List.getElem?_cons_zero, List.set_cons_succ, List.set_cons_zero, Nat.sub_self, Nat.reduceSub, Nat.reduceAdd, Nat.reduceEqDiff, if_true, if_false, reduceIte, decide_eq_true_eq, decide_true, decide_false, Bool.false_xor, Bool.true_xor, Nat.zero_add, eq_self, String.reduceEq, Bool.false_eq_true, wipeE, List.foldl_cons, List.foldl_nil, Bool.not_true, Bool.not_false, inF_strsT, inF_strsL, q_fldS, q_make, isNon_int, isNon_non, isNon_bl, isNon_str, isNon_tup, isNon_lst, q_lcM, q_setI, q_addM, addW_val, seqOf_loc, seqM_lst, seqM_frz, ixW_loc, ixM_lsW, ixM_lst, ixM_frz, setIW_loc, setIM_lst, exit_val, exit_loc, exitV_if, List.take_succ_cons, List.take_zero, List.take_nil, List.all_cons, List.all_nil, Bool.and_true, Bool.true_and, Bool.and_self, Nat.reduceLT, Nat.reduceLeDiff, Nat.zero_le, Nat.lt_add_one, exitM_lst, exitM_frz, below_lst, below_frz, below_dK, below_scr, below_lsW, below_ins, below_dW, wbelow_val, wbelow_loc, q_append, appA_loc, appW_1, appM_lst, q_lstOfM, lstM_lst, q_lstM, q_rng1, standB_none, standB_some, standM_lst, standM_frz, q_join, joinA_str, q_joined, q_jNil, q_jCons, jW_str, q_star, q_own1, ownW_val, okStr_str, isIns_row, isIns_tool, q_kget, kgetW_str, q_indexC, indexW_lst, q_makeL, mkL_cls, q_cmeth, cmW_cls, q_star1, star1W_cons, q_chain, chainW_bl, chainE_bl, q_eqOwn, fmtF_s, and_self, q_aug, augM_int, q_parN, setAll_cons, setAll_nil, q_never, intF_bl, q_extend, extA_loc, extW_1, extD_lst, extM_lst, q_asgT, uTup_tup, uCons_cons, uNil_nil, uName_eq, uFld_eq, ufW_loc, ufM_ins, fldSW_loc, fldSM_ins, fldW_loc, fldM_ins, look_cons, putW_nil, putW_cons, $ts,*])
variable {ρ : Env'} {μ : Mu}
section
variable {X : Txt} {T : ToolM}
theorem texts_sub {rs ss : List RowM} (hs : rs.Sublist ss) : (textsM rs).Sublist (textsM ss) := by
  unfold textsM
  induction hs with
  | slnil => exact List.Sublist.refl _
  | cons a _ ih => rw [List.flatMap_cons]; exact ih.trans (List.sublist_append_right _ _)
  | cons_cons a _ ih => rw [List.flatMap_cons, List.flatMap_cons]; exact (List.Sublist.refl _).append ih
theorem ToolOk.rows (h : ToolOk X T) {rs : List RowM} (hs : rs.Sublist T.rows) : ToolOk X ⟨T.window, rs⟩ := ⟨h.win, by
    have := texts_sub hs
    exact Nat.lt_of_le_of_lt this.length_le h.txt, Nat.le_trans hs.length_le h.len, fun r hr => h.row r (hs.subset hr), fun r hr => h.ok r (hs.subset hr)⟩
end
end DX
namespace DX
open PySem PySem.Spec L2 DK
end DX
namespace DX
open PySem PySem.Spec L2 DK
local macro_rules
  | `(tactic| push_cast [$ts,*]) => `(tactic| simp only [q_seq, q_ifS, q_if, q_and, q_or, q_not, q_andV, q_orV, q_notV, q_test, q_op, q_un, q_asg, q_ret, q_drop, q_cons, q_dat, q_dat1, q_tup, q_lst, q_call, q_meth, q_for, q_lc, q_seqI, q_sl, q_var, q_c, q_nil, q_next, q_cont, q_break, q_retN, q_yes, q_noPart, q_partB, q_isN, q_ixB, q_fld, q_enum, q_par, q_body, varW_some, view_val, view_loc, viewM_lst, viewM_frz, isBl_bl, partW_int, name_set, ixW_val, ixF_l, ixF_t, fld_row_word, fld_row_tests, fld_row_deeds, fld_row_opens, fld_tool_window, fld_tool_rows, fld_tool_marks, recv_row, recv_tool, bodyE_rt, bodyE_nx, exit_any, exit_dst, negF_int, plusF_int, minusF_int, ltF_int, leF_int, gtF_int, geF_int, eqF_int, eqF_str, eqF_bl, intF_int, maxF_int, minF_int, lenF_l, lenF_t, lenF_s, tupF_l, tupF_t, lstF_l, lstF_t, strF_s, seqOf_t, seqOf_l, guard_val, guard_loc, isNW_val, isNW_loc, enumW_1, parW_2, tup_set, cons_set, nil_set, frzL_nil, frzL_cons, frz1_val, frz1_loc, frzM_lst, frzM_frz, ofS, ite_bind, Option.bind_some, then_nx, then_rt, then_ct, then_bk, start, List.length_cons, List.length_nil, List.map_cons, List.map_nil, List.replicate, List.cons_append, List.nil_append, List.append_nil, List.getElem?_cons_succ, List.getElem?_cons_zero, List.set_cons_succ, List.set_cons_zero, Nat.sub_self, Nat.reduceSub, Nat.reduceAdd, Nat.reduceEqDiff, if_true, if_false, reduceIte, decide_eq_true_eq, decide_true, decide_false, Bool.false_xor, Bool.true_xor, Nat.zero_add, eq_self, String.reduceEq, Bool.false_eq_true, wipeE, List.foldl_cons, List.foldl_nil, Bool.not_true, Bool.not_false, inF_strsT, inF_strsL, q_fldS, q_make, isNon_int, isNon_non, isNon_bl, isNon_str, isNon_tup, isNon_lst, q_lcM, q_setI, q_addM, addW_val, seqOf_loc, seqM_lst, seqM_frz, ixW_loc, ixM_lsW, ixM_lst, ixM_frz, setIW_loc, setIM_lst, exit_val, exit_loc, exitV_if, List.take_succ_cons, List.take_zero, List.take_nil, List.all_cons, List.all_nil, Bool.and_true, Bool.true_and, Bool.and_self, Nat.reduceLT, Nat.reduceLeDiff, Nat.zero_le, Nat.lt_add_one, exitM_lst, exitM_frz, below_lst, below_frz, below_dK, below_scr, below_lsW, below_ins, below_dW, wbelow_val, wbelow_loc, q_append, appA_loc, appW_1, appM_lst, q_lstOfM, lstM_lst, q_lstM, q_rng1, standB_none, standB_some, standM_lst, standM_frz, q_join, joinA_str, q_joined, q_jNil, q_jCons, jW_str, q_star, q_own1, ownW_val, okStr_str, isIns_row, isIns_tool, q_kget, kgetW_str, q_indexC, indexW_lst, q_makeL, mkL_cls, q_cmeth, cmW_cls, q_star1, star1W_cons, q_chain, chainW_bl, chainE_bl, q_eqOwn, fmtF_s, and_self, q_aug, augM_int, q_parN, setAll_cons, setAll_nil, q_never, intF_bl, q_extend, extA_loc, extW_1, extD_lst, extM_lst, q_asgT, uTup_tup, uCons_cons, uNil_nil, uName_eq, uFld_eq, ufW_loc, ufM_ins, fldSW_loc, fldSM_ins, fldW_loc, fldM_ins, look_cons, putW_nil, putW_cons, $ts,*])
variable {ρ : Env'} {μ : Mu}
structure LawT (X : Txt) (T : ToolM) : Prop where
  ok : ToolOk X T
  x : TxtN X
  te : ∀ s ∈ X.ts, testOk s = true
  de : ∀ s ∈ X.ds, deedOk2 s = true
section
variable {X : Txt} {T : ToolM} {n c : Int} {ms : List Str}
theorem LawT.t (h : LawT X T) : ∀ r ∈ T.rows, r.tests.length ≤ 1000 ∧ ∀ t ∈ r.tests, testOk t = true := fun r hr => ⟨(h.ok.ok r hr).zt, fun t ht => h.te t ((h.ok.ok r hr).ts t ht)⟩
theorem LawT.d (h : LawT X T) : ∀ r ∈ T.rows, ∀ s ∈ r.deeds, deedOk2 s = true := fun r hr s hs => h.de s ((h.ok.ok r hr).ds s hs)
end
def aft : List Int → Int → List Int
  | [], _ => []
  | o :: O, k => if k ∈ O then aft O k else if o = k then O else []
theorem aft_snoc {k x : Int} : ∀ {O : List Int}, aft (O ++ [x]) k = if x = k then [] else if k ∈ O then aft O k ++ [x] else []
  | [] => by
    show (if k ∈ ([] : List Int) then aft [] k else if x = k then [] else []) = _
    simp
  | o :: O => by
    rw [List.cons_append, aft, aft_snoc (O := O)]
    by_cases q : x = k
    · subst q
      simp
    · have hk : k ∈ O ++ [x] ↔ k ∈ O := by simp [Ne.symm q]
      simp only [if_neg q]
      by_cases r : k ∈ O
      · rw [if_pos (hk.mpr r), if_pos r, if_pos (List.mem_cons_of_mem _ r)]
        rw [aft, if_pos r]
      · rw [if_neg fun z => r (hk.mp z)]
        by_cases t : o = k
        · rw [if_pos t, if_pos (by rw [t]; exact List.mem_cons_self ..), aft, if_neg r, if_pos t]
        · rw [if_neg t, if_neg (by simp [r, Ne.symm t])]
def lowO (O : List Int) (k : Int) : Bool := (aft O k).any fun o => decide (o < k)
theorem lowO_snoc {O : List Int} {k x : Int} : lowO (O ++ [x]) k = if x = k then false else (decide (k ∈ O) && (lowO O k || decide (x < k))) := by
  unfold lowO
  rw [aft_snoc]
  by_cases q : x = k
  · rw [if_pos q, if_pos q]; rfl
  · rw [if_neg q, if_neg q]
    by_cases r : k ∈ O
    · rw [if_pos r, decide_eq_true r, List.any_append]
      simp
    · rw [if_neg r, decide_eq_false r]
      rfl
theorem lowO_not {O : List Int} {k : Int} (h : k ∉ O) : lowO O k = false := by
  unfold lowO
  have : aft O k = [] := by
    induction O with
    | nil => rfl
    | cons o O ih =>
      rw [aft, if_neg fun z => h (List.mem_cons_of_mem _ z), if_neg fun z => h (by rw [z]; simp)]
  rw [this]
  rfl
theorem find_append_map {lw : List (Int × Bool)} {c o : Int} {b : Bool} : ((lw.map fun p => if p.1 = c then (p.1, b) else p).find? fun p => decide (p.1 = o)) = (lw.find? fun p => decide (p.1 = o)).map fun p => if p.1 = c then (p.1, b) else p := by
  refine find_map fun p _ => ?_
  split <;> rfl
theorem lwGet_putI {lw : List (Int × Bool)} {c o : Int} {b : Bool} : lwGet (putI lw c b) o = if o = c then b else lwGet lw o := by
  unfold putI
  by_cases q : (lw.any fun p => decide (p.1 = c)) = true
  · rw [if_pos q]
    unfold lwGet
    rw [find_append_map]
    by_cases r : o = c
    · subst r
      rw [if_pos rfl]
      obtain ⟨p, hp, hq⟩ := List.any_eq_true.mp q
      cases e : lw.find? fun p => decide (p.1 = o) with
      | none => exact absurd hq (by simpa using List.find?_eq_none.mp e p hp)
      | some p2 =>
        have h2 := List.find?_some e
        rw [Option.map_some, if_pos (of_decide_eq_true h2)]
        rfl
    · rw [if_neg r]
      cases e : lw.find? fun p => decide (p.1 = o) with
      | none => rfl
      | some p2 =>
        have h2 := List.find?_some e
        rw [Option.map_some, if_neg (by rw [of_decide_eq_true h2]; exact r)]
  · rw [if_neg q]
    unfold lwGet
    rw [List.find?_append]
    have hn : ∀ p ∈ lw, p.1 ≠ c := fun p hp z => q (List.any_eq_true.mpr ⟨p, hp, decide_eq_true z⟩)
    by_cases r : o = c
    · subst r
      rw [if_pos rfl]
      have : (lw.find? fun p => decide (p.1 = o)) = none := List.find?_eq_none.mpr fun p hp => by simpa using hn p hp
      rw [this]
      simp
    · rw [if_neg r]
      cases e : lw.find? fun p => decide (p.1 = o) with
      | some p2 => rfl
      | none =>
        simp [Ne.symm r]
theorem lwGet_low {k o : Int} : ∀ {op : List Int} {lw : List (Int × Bool)}, lwGet (lowS op k lw) o = (lwGet lw o || (decide (o ∈ op) && decide (k < o)))
  | [], lw => by
    show lwGet lw o = _
    simp
  | x :: op, lw => by
    show lwGet (lowS op k (putI lw x (lwGet lw x || decide (k < x)))) o = _
    rw [lwGet_low, lwGet_putI]
    by_cases q : o = x
    · subst q
      rw [if_pos rfl]
      cases lwGet lw o <;> cases decide (k < o) <;> cases decide (o ∈ op) <;> simp_all
    · rw [if_neg q]
      have : decide (o ∈ x :: op) = decide (o ∈ op) := by simp [q]
      rw [this]
structure LowR (O : List Int) (s : Crs) : Prop where
  m : ∀ c, c ∈ s.op ↔ c ∈ O
  l : ∀ c, lwGet s.lw c = lowO O c
theorem LowR.any {O : List Int} {s : Crs} (h : LowR O s) {k : Int} : (s.op.any fun o => decide (k < o)) = O.any fun o => decide (k < o) := by
  rw [Bool.eq_iff_iff, List.any_eq_true, List.any_eq_true]
  constructor
  · rintro ⟨x, h1, h2⟩
    exact ⟨x, (h.m x).mp h1, h2⟩
  · rintro ⟨x, h1, h2⟩
    exact ⟨x, (h.m x).mpr h1, h2⟩
theorem LowR.open {O : List Int} {s : Crs} (h : LowR O s) {k : Int} : LowR (O ++ [k]) (openS s k) := by
  refine ⟨fun c => ?_, fun c => ?_⟩
  · show c ∈ (s.op.filter fun o => !decide (o = k)) ++ [k] ↔ _
    rw [List.mem_append, List.mem_append, List.mem_filter, h.m c, List.mem_singleton]
    by_cases q : c = k <;> simp [q]
  · show lwGet (putI (lowS s.op k s.lw) k false) c = _
    rw [lwGet_putI, lowO_snoc, lwGet_low, h.l c]
    by_cases q : c = k
    · rw [if_pos q, if_pos q.symm]
    · have e : decide (c ∈ s.op) = decide (c ∈ O) := decide_eq_decide.mpr (h.m c)
      rw [if_neg q, if_neg (Ne.symm q), e]
      by_cases r : c ∈ O
      · simp [r]
      · rw [lowO_not r]
        simp [r]
theorem LowR.nil {n : Int} {ms : List Str} {top : Int} {sh : Int} : LowR [] ⟨n, ms, top, [], sh, []⟩ := ⟨fun c => by simp, fun c => rfl⟩
end DX
namespace DX
open PySem PySem.Spec L2 DK
local macro_rules
  | `(tactic| push_cast [$ts,*]) => `(tactic| simp only [q_seq, q_ifS, q_if, q_and, q_or, q_not, q_andV, q_orV, q_notV, q_test, q_op, q_un, q_asg, q_ret, q_drop, q_cons, q_dat, q_dat1, q_tup, q_lst, q_call, q_meth, q_for, q_lc, q_seqI, q_sl, q_var, q_c, q_nil, q_next, q_cont, q_break, q_retN, q_yes, q_noPart, q_partB, q_isN, q_ixB, q_fld, q_enum, q_par, q_body, varW_some, view_val, view_loc, viewM_lst, viewM_frz, isBl_bl, partW_int, name_set, ixW_val, ixF_l, ixF_t, fld_row_word, fld_row_tests, fld_row_deeds, fld_row_opens, fld_tool_window, fld_tool_rows, fld_tool_marks, recv_row, recv_tool, bodyE_rt, bodyE_nx, exit_any, exit_dst, negF_int, plusF_int, minusF_int, ltF_int, leF_int, gtF_int, geF_int, eqF_int, eqF_str, eqF_bl, intF_int, maxF_int, minF_int, lenF_l, lenF_t, lenF_s, tupF_l, tupF_t, lstF_l, lstF_t, strF_s, seqOf_t, seqOf_l, guard_val, guard_loc, isNW_val, isNW_loc, enumW_1, parW_2, tup_set, cons_set, nil_set, frzL_nil, frzL_cons, frz1_val, frz1_loc, frzM_lst, frzM_frz, ofS, ite_bind, Option.bind_some, then_nx, then_rt, then_ct, then_bk, start, List.length_cons, List.length_nil, List.map_cons, List.map_nil, List.replicate, List.cons_append, List.nil_append, List.append_nil, List.getElem?_cons_succ, List.getElem?_cons_zero, List.set_cons_succ, List.set_cons_zero, Nat.sub_self, Nat.reduceSub, Nat.reduceAdd, Nat.reduceEqDiff, if_true, if_false, reduceIte, decide_eq_true_eq, decide_true, decide_false, Bool.false_xor, Bool.true_xor, Nat.zero_add, eq_self, String.reduceEq, Bool.false_eq_true, wipeE, List.foldl_cons, List.foldl_nil, Bool.not_true, Bool.not_false, inF_strsT, inF_strsL, q_fldS, q_make, isNon_int, isNon_non, isNon_bl, isNon_str, isNon_tup, isNon_lst, q_lcM, q_setI, q_addM, addW_val, seqOf_loc, seqM_lst, seqM_frz, ixW_loc, ixM_lsW, ixM_lst, ixM_frz, setIW_loc, setIM_lst, exit_val, exit_loc, exitV_if, List.take_succ_cons, List.take_zero, List.take_nil, List.all_cons, List.all_nil, Bool.and_true, Bool.true_and, Bool.and_self, Nat.reduceLT, Nat.reduceLeDiff, Nat.zero_le, Nat.lt_add_one, exitM_lst, exitM_frz, below_lst, below_frz, below_dK, below_scr, below_lsW, below_ins, below_dW, wbelow_val, wbelow_loc, q_append, appA_loc, appW_1, appM_lst, q_lstOfM, lstM_lst, q_lstM, q_rng1, standB_none, standB_some, standM_lst, standM_frz, q_join, joinA_str, q_joined, q_jNil, q_jCons, jW_str, q_star, q_own1, ownW_val, okStr_str, isIns_row, isIns_tool, q_kget, kgetW_str, q_indexC, indexW_lst, q_makeL, mkL_cls, q_cmeth, cmW_cls, q_star1, star1W_cons, q_chain, chainW_bl, chainE_bl, q_eqOwn, fmtF_s, and_self, q_aug, augM_int, q_parN, setAll_cons, setAll_nil, q_never, intF_bl, q_extend, extA_loc, extW_1, extD_lst, extM_lst, q_asgT, uTup_tup, uCons_cons, uNil_nil, uName_eq, uFld_eq, ufW_loc, ufM_ins, fldSW_loc, fldSM_ins, fldW_loc, fldM_ins, look_cons, putW_nil, putW_cons, $ts,*])
variable {ρ : Env'} {μ : Mu}
def hnd (k : Nat) (n : Int) (ms : List Str) (top : Int) (O : List Int) (sh : Int) : MO := .dW [(("number" : Str), .val (.int n)), ("marks", .val (.tup (ms.map D.str))), ("top", .val (.int top)), ("opened", .val (.lst (O.map D.int))), ("shown", .val (.int sh)), ("tries", .loc k), ("done", .loc (k + 1)), ("met", .loc (k + 2))]
section
variable {μ0 : Mu} {A B C A' : List D} {H H' : MO} {n top sh : Int} {ms : List Str} {O : List Int}
section
variable {i : Nat} (hi : ρ[i]? = some (some (.loc (μ0.length + 3))))
include hi
end
theorem exitW {n : Nat} {d : D} (hn : μ.length = n) (h : μ.all (MO.below n) = true) : exitF true n (.val d) μ = some (.val d, μ) := by
  rw [exit_val, exitV_eq (by omega) (by rw [← hn, List.take_length, hn]; exact h), ← hn, List.take_length]
structure LwOk (X : Txt) (T : ToolM) (p : PlS) (O : List Int) (j : Nat) : Prop where
  pl : PlOk X j p
  lr : LowR O p.s
  le : O.length ≤ j
  top : 0 ≤ p.s.top
  srt : srt p.s.ms = p.s.ms
def opO (T : ToolM) (s : Crs) (O : List Int) : Evt → List Int
  | .tr k => if (ansS T s.n s.ms k).op = true then O ++ [(k : Int)] else O
  | _ => O
section
variable {X : Txt} {T : ToolM} {p : PlS} {j : Nat} {e : Evt}
theorem LwOk.step (h : LawT X T) (w : LwOk X T p O j) {i : Nat} : LwOk X T (plStep T i p e) (opO T p.s O e) (j + 1) := by
  refine ⟨w.pl.step h.ok, ?_, ?_, ?_, ?_⟩
  · cases e with
    | give => exact ⟨w.lr.m, w.lr.l⟩
    | house => exact ⟨w.lr.m, w.lr.l⟩
    | tr k =>
      show LowR (if _ then _ else _) (tryC T p.s k)
      unfold tryC
      have h1 : LowR O (aftS T p.s k) := ⟨w.lr.m, w.lr.l⟩
      split
      · exact h1.open
      · exact h1
  · have := w.le
    cases e with
    | give => show O.length ≤ j + 1; omega
    | house => show O.length ≤ j + 1; omega
    | tr k =>
      unfold opO
      dsimp only
      split
      · rw [List.length_append, List.length_singleton]; omega
      · omega
  · have := w.top
    cases e with
    | give => show 0 ≤ p.s.top + 1; omega
    | house => exact this
    | tr k => show 0 ≤ (tryC T p.s k).top; rw [tryC_n.2.2]; exact this
  · cases e with
    | give => exact w.srt
    | house => exact hseS_srt
    | tr k => show DK.srt (tryC T p.s k).ms = (tryC T p.s k).ms; rw [tryC_n.2.1]; exact ansS_srt
end
end
end DX
namespace DX
open PySem PySem.Spec L2 DK
local macro_rules
  | `(tactic| push_cast [$ts,*]) => `(tactic| simp only [q_seq, q_ifS, q_if, q_and, q_or, q_not, q_andV, q_orV, q_notV, q_test, q_op, q_un, q_asg, q_ret, q_drop, q_cons, q_dat, q_dat1, q_tup, q_lst, q_call, q_meth, q_for, q_lc, q_seqI, q_sl, q_var, q_c, q_nil, q_next, q_cont, q_break, q_retN, q_yes, q_noPart, q_partB, q_isN, q_ixB, q_fld, q_enum, q_par, q_body, varW_some, view_val, view_loc, viewM_lst, viewM_frz, isBl_bl, partW_int, name_set, ixW_val, ixF_l, ixF_t, fld_row_word, fld_row_tests, fld_row_deeds, fld_row_opens, fld_tool_window, fld_tool_rows, fld_tool_marks, recv_row, recv_tool, bodyE_rt, bodyE_nx, exit_any, exit_dst, negF_int, plusF_int, minusF_int, ltF_int, leF_int, gtF_int, geF_int, eqF_int, eqF_str, eqF_bl, intF_int, maxF_int, minF_int, lenF_l, lenF_t, lenF_s, tupF_l, tupF_t, lstF_l, lstF_t, strF_s, seqOf_t, seqOf_l, guard_val, guard_loc, isNW_val, isNW_loc, enumW_1, parW_2, tup_set, cons_set, nil_set, frzL_nil, frzL_cons, frz1_val, frz1_loc, frzM_lst, frzM_frz, ofS, ite_bind, Option.bind_some, then_nx, then_rt, then_ct, then_bk, start, List.length_cons, List.length_nil, List.map_cons, List.map_nil, List.replicate, List.cons_append, List.nil_append, List.append_nil, List.getElem?_cons_succ, List.getElem?_cons_zero, List.set_cons_succ, List.set_cons_zero, Nat.sub_self, Nat.reduceSub, Nat.reduceAdd, Nat.reduceEqDiff, if_true, if_false, reduceIte, decide_eq_true_eq, decide_true, decide_false, Bool.false_xor, Bool.true_xor, Nat.zero_add, eq_self, String.reduceEq, Bool.false_eq_true, wipeE, List.foldl_cons, List.foldl_nil, Bool.not_true, Bool.not_false, inF_strsT, inF_strsL, q_fldS, q_make, isNon_int, isNon_non, isNon_bl, isNon_str, isNon_tup, isNon_lst, q_lcM, q_setI, q_addM, addW_val, seqOf_loc, seqM_lst, seqM_frz, ixW_loc, ixM_lsW, ixM_lst, ixM_frz, setIW_loc, setIM_lst, exit_val, exit_loc, exitV_if, List.take_succ_cons, List.take_zero, List.take_nil, List.all_cons, List.all_nil, Bool.and_true, Bool.true_and, Bool.and_self, Nat.reduceLT, Nat.reduceLeDiff, Nat.zero_le, Nat.lt_add_one, exitM_lst, exitM_frz, below_lst, below_frz, below_dK, below_scr, below_lsW, below_ins, below_dW, wbelow_val, wbelow_loc, q_append, appA_loc, appW_1, appM_lst, q_lstOfM, lstM_lst, q_lstM, q_rng1, standB_none, standB_some, standM_lst, standM_frz, q_join, joinA_str, q_joined, q_jNil, q_jCons, jW_str, q_star, q_own1, ownW_val, okStr_str, isIns_row, isIns_tool, q_kget, kgetW_str, q_indexC, indexW_lst, q_makeL, mkL_cls, q_cmeth, cmW_cls, q_star1, star1W_cons, q_chain, chainW_bl, chainE_bl, q_eqOwn, fmtF_s, and_self, q_aug, augM_int, q_parN, setAll_cons, setAll_nil, q_never, intF_bl, q_extend, extA_loc, extW_1, extD_lst, extM_lst, q_asgT, uTup_tup, uCons_cons, uNil_nil, uName_eq, uFld_eq, ufW_loc, ufM_ins, fldSW_loc, fldSM_ins, fldW_loc, fldM_ins, look_cons, putW_nil, putW_cons, $ts,*])
variable {ρ : Env'} {μ : Mu}
section
variable {μ0 : Mu} {X : Txt} {T : ToolM} {p : PlS} {O : List Int} {j i : Nat} {e : Evt} {x1 x5 x6 x7 x8 x9 x10 x11 x12 : Option W}
end
section
variable {μ0 : Mu} {X : Txt} {T : ToolM}
end
end DX
namespace DX
open PySem PySem.Spec L2 DK
end DX
namespace DX
open PySem PySem.Spec L2 DK
local macro_rules
  | `(tactic| push_cast [$ts,*]) => `(tactic| simp only [q_seq, q_ifS, q_if, q_and, q_or, q_not, q_andV, q_orV, q_notV, q_test, q_op, q_un, q_asg, q_ret, q_drop, q_cons, q_dat, q_dat1, q_tup, q_lst, q_call, q_meth, q_for, q_lc, q_seqI, q_sl, q_var, q_c, q_nil, q_next, q_cont, q_break, q_retN, q_yes, q_noPart, q_partB, q_isN, q_ixB, q_fld, q_enum, q_par, q_body, varW_some, view_val, view_loc, viewM_lst, viewM_frz, isBl_bl, partW_int, name_set, ixW_val, ixF_l, ixF_t, fld_row_word, fld_row_tests, fld_row_deeds, fld_row_opens, fld_tool_window, fld_tool_rows, fld_tool_marks, recv_row, recv_tool, bodyE_rt, bodyE_nx, exit_any, exit_dst, negF_int, plusF_int, minusF_int, ltF_int, leF_int, gtF_int, geF_int, eqF_int, eqF_str, eqF_bl, intF_int, maxF_int, minF_int, lenF_l, lenF_t, lenF_s, tupF_l, tupF_t, lstF_l, lstF_t, strF_s, seqOf_t, seqOf_l, guard_val, guard_loc, isNW_val, isNW_loc, enumW_1, parW_2, tup_set, cons_set, nil_set, frzL_nil, frzL_cons, frz1_val, frz1_loc, frzM_lst, frzM_frz, ofS, ite_bind, Option.bind_some, then_nx, then_rt, then_ct, then_bk, start, List.length_cons, List.length_nil, List.map_cons, List.map_nil, List.replicate, List.cons_append, List.nil_append, List.append_nil, List.getElem?_cons_succ, List.getElem?_cons_zero, List.set_cons_succ, List.set_cons_zero, Nat.sub_self, Nat.reduceSub, Nat.reduceAdd, Nat.reduceEqDiff, if_true, if_false, reduceIte, decide_eq_true_eq, decide_true, decide_false, Bool.false_xor, Bool.true_xor, Nat.zero_add, eq_self, String.reduceEq, Bool.false_eq_true, wipeE, List.foldl_cons, List.foldl_nil, Bool.not_true, Bool.not_false, inF_strsT, inF_strsL, q_fldS, q_make, isNon_int, isNon_non, isNon_bl, isNon_str, isNon_tup, isNon_lst, q_lcM, q_setI, q_addM, addW_val, seqOf_loc, seqM_lst, seqM_frz, ixW_loc, ixM_lsW, ixM_lst, ixM_frz, setIW_loc, setIM_lst, exit_val, exit_loc, exitV_if, List.take_succ_cons, List.take_zero, List.take_nil, List.all_cons, List.all_nil, Bool.and_true, Bool.true_and, Bool.and_self, Nat.reduceLT, Nat.reduceLeDiff, Nat.zero_le, Nat.lt_add_one, exitM_lst, exitM_frz, below_lst, below_frz, below_dK, below_scr, below_lsW, below_ins, below_dW, wbelow_val, wbelow_loc, q_append, appA_loc, appW_1, appM_lst, q_lstOfM, lstM_lst, q_lstM, q_rng1, standB_none, standB_some, standM_lst, standM_frz, q_join, joinA_str, q_joined, q_jNil, q_jCons, jW_str, q_star, q_own1, ownW_val, okStr_str, isIns_row, isIns_tool, q_kget, kgetW_str, q_indexC, indexW_lst, q_makeL, mkL_cls, q_cmeth, cmW_cls, q_star1, star1W_cons, q_chain, chainW_bl, chainE_bl, q_eqOwn, fmtF_s, and_self, q_aug, augM_int, q_parN, setAll_cons, setAll_nil, q_never, intF_bl, q_extend, extA_loc, extW_1, extD_lst, extM_lst, q_asgT, uTup_tup, uCons_cons, uNil_nil, uName_eq, uFld_eq, ufW_loc, ufM_ins, fldSW_loc, fldSM_ins, fldW_loc, fldM_ins, look_cons, putW_nil, putW_cons, $ts,*])
variable {ρ : Env'} {μ : Mu}
structure LvS where
  T : ToolM
  es : List Evt
  pa : List (ToolM × List Evt)
section
variable {A : Mu} {m m' : MO}
end
section
variable {A : Mu} {L : LvS} {X : Txt} {e : Evt}
end
end DX
namespace DX
open PySem PySem.Spec L2 DK
local macro_rules
  | `(tactic| push_cast [$ts,*]) => `(tactic| simp only [q_seq, q_ifS, q_if, q_and, q_or, q_not, q_andV, q_orV, q_notV, q_test, q_op, q_un, q_asg, q_ret, q_drop, q_cons, q_dat, q_dat1, q_tup, q_lst, q_call, q_meth, q_for, q_lc, q_seqI, q_sl, q_var, q_c, q_nil, q_next, q_cont, q_break, q_retN, q_yes, q_noPart, q_partB, q_isN, q_ixB, q_fld, q_enum, q_par, q_body, varW_some, view_val, view_loc, viewM_lst, viewM_frz, isBl_bl, partW_int, name_set, ixW_val, ixF_l, ixF_t, fld_row_word, fld_row_tests, fld_row_deeds, fld_row_opens, fld_tool_window, fld_tool_rows, fld_tool_marks, recv_row, recv_tool, bodyE_rt, bodyE_nx, exit_any, exit_dst, negF_int, plusF_int, minusF_int, ltF_int, leF_int, gtF_int, geF_int, eqF_int, eqF_str, eqF_bl, intF_int, maxF_int, minF_int, lenF_l, lenF_t, lenF_s, tupF_l, tupF_t, lstF_l, lstF_t, strF_s, seqOf_t, seqOf_l, guard_val, guard_loc, isNW_val, isNW_loc, enumW_1, parW_2, tup_set, cons_set, nil_set, frzL_nil, frzL_cons, frz1_val, frz1_loc, frzM_lst, frzM_frz, ofS, ite_bind, Option.bind_some, then_nx, then_rt, then_ct, then_bk, start, List.length_cons, List.length_nil, List.map_cons, List.map_nil, List.replicate, List.cons_append, List.nil_append, List.append_nil, List.getElem?_cons_succ, List.getElem?_cons_zero, List.set_cons_succ, List.set_cons_zero, Nat.sub_self, Nat.reduceSub, Nat.reduceAdd, Nat.reduceEqDiff, if_true, if_false, reduceIte, decide_eq_true_eq, decide_true, decide_false, Bool.false_xor, Bool.true_xor, Nat.zero_add, eq_self, String.reduceEq, Bool.false_eq_true, wipeE, List.foldl_cons, List.foldl_nil, Bool.not_true, Bool.not_false, inF_strsT, inF_strsL, q_fldS, q_make, isNon_int, isNon_non, isNon_bl, isNon_str, isNon_tup, isNon_lst, q_lcM, q_setI, q_addM, addW_val, seqOf_loc, seqM_lst, seqM_frz, ixW_loc, ixM_lsW, ixM_lst, ixM_frz, setIW_loc, setIM_lst, exit_val, exit_loc, exitV_if, List.take_succ_cons, List.take_zero, List.take_nil, List.all_cons, List.all_nil, Bool.and_true, Bool.true_and, Bool.and_self, Nat.reduceLT, Nat.reduceLeDiff, Nat.zero_le, Nat.lt_add_one, exitM_lst, exitM_frz, below_lst, below_frz, below_dK, below_scr, below_lsW, below_ins, below_dW, wbelow_val, wbelow_loc, q_append, appA_loc, appW_1, appM_lst, q_lstOfM, lstM_lst, q_lstM, q_rng1, standB_none, standB_some, standM_lst, standM_frz, q_join, joinA_str, q_joined, q_jNil, q_jCons, jW_str, q_star, q_own1, ownW_val, okStr_str, isIns_row, isIns_tool, q_kget, kgetW_str, q_indexC, indexW_lst, q_makeL, mkL_cls, q_cmeth, cmW_cls, q_star1, star1W_cons, q_chain, chainW_bl, chainE_bl, q_eqOwn, fmtF_s, and_self, q_aug, augM_int, q_parN, setAll_cons, setAll_nil, q_never, intF_bl, q_extend, extA_loc, extW_1, extD_lst, extM_lst, q_asgT, uTup_tup, uCons_cons, uNil_nil, uName_eq, uFld_eq, ufW_loc, ufM_ins, fldSW_loc, fldSM_ins, fldW_loc, fldM_ins, look_cons, putW_nil, putW_cons, $ts,*])
variable {ρ : Env'} {μ : Mu}
section
variable {A : Mu} {L : LvS} {X : Txt} {e : Evt}
end
end DX
namespace DX
open PySem PySem.Spec L2 DK
local macro_rules
  | `(tactic| push_cast [$ts,*]) => `(tactic| simp only [q_seq, q_ifS, q_if, q_and, q_or, q_not, q_andV, q_orV, q_notV, q_test, q_op, q_un, q_asg, q_ret, q_drop, q_cons, q_dat, q_dat1, q_tup, q_lst, q_call, q_meth, q_for, q_lc, q_seqI, q_sl, q_var, q_c, q_nil, q_next, q_cont, q_break, q_retN, q_yes, q_noPart, q_partB, q_isN, q_ixB, q_fld, q_enum, q_par, q_body, varW_some, view_val, view_loc, viewM_lst, viewM_frz, isBl_bl, partW_int, name_set, ixW_val, ixF_l, ixF_t, fld_row_word, fld_row_tests, fld_row_deeds, fld_row_opens, fld_tool_window, fld_tool_rows, fld_tool_marks, recv_row, recv_tool, bodyE_rt, bodyE_nx, exit_any, exit_dst, negF_int, plusF_int, minusF_int, ltF_int, leF_int, gtF_int, geF_int, eqF_int, eqF_str, eqF_bl, intF_int, maxF_int, minF_int, lenF_l, lenF_t, lenF_s, tupF_l, tupF_t, lstF_l, lstF_t, strF_s, seqOf_t, seqOf_l, guard_val, guard_loc, isNW_val, isNW_loc, enumW_1, parW_2, tup_set, cons_set, nil_set, frzL_nil, frzL_cons, frz1_val, frz1_loc, frzM_lst, frzM_frz, ofS, ite_bind, Option.bind_some, then_nx, then_rt, then_ct, then_bk, start, List.length_cons, List.length_nil, List.map_cons, List.map_nil, List.replicate, List.cons_append, List.nil_append, List.append_nil, List.getElem?_cons_succ, List.getElem?_cons_zero, List.set_cons_succ, List.set_cons_zero, Nat.sub_self, Nat.reduceSub, Nat.reduceAdd, Nat.reduceEqDiff, if_true, if_false, reduceIte, decide_eq_true_eq, decide_true, decide_false, Bool.false_xor, Bool.true_xor, Nat.zero_add, eq_self, String.reduceEq, Bool.false_eq_true, wipeE, List.foldl_cons, List.foldl_nil, Bool.not_true, Bool.not_false, inF_strsT, inF_strsL, q_fldS, q_make, isNon_int, isNon_non, isNon_bl, isNon_str, isNon_tup, isNon_lst, q_lcM, q_setI, q_addM, addW_val, seqOf_loc, seqM_lst, seqM_frz, ixW_loc, ixM_lsW, ixM_lst, ixM_frz, setIW_loc, setIM_lst, exit_val, exit_loc, exitV_if, List.take_succ_cons, List.take_zero, List.take_nil, List.all_cons, List.all_nil, Bool.and_true, Bool.true_and, Bool.and_self, Nat.reduceLT, Nat.reduceLeDiff, Nat.zero_le, Nat.lt_add_one, exitM_lst, exitM_frz, below_lst, below_frz, below_dK, below_scr, below_lsW, below_ins, below_dW, wbelow_val, wbelow_loc, q_append, appA_loc, appW_1, appM_lst, q_lstOfM, lstM_lst, q_lstM, q_rng1, standB_none, standB_some, standM_lst, standM_frz, q_join, joinA_str, q_joined, q_jNil, q_jCons, jW_str, q_star, q_own1, ownW_val, okStr_str, isIns_row, isIns_tool, q_kget, kgetW_str, q_indexC, indexW_lst, q_makeL, mkL_cls, q_cmeth, cmW_cls, q_star1, star1W_cons, q_chain, chainW_bl, chainE_bl, q_eqOwn, fmtF_s, and_self, q_aug, augM_int, q_parN, setAll_cons, setAll_nil, q_never, intF_bl, q_extend, extA_loc, extW_1, extD_lst, extM_lst, q_asgT, uTup_tup, uCons_cons, uNil_nil, uName_eq, uFld_eq, ufW_loc, ufM_ins, fldSW_loc, fldSM_ins, fldW_loc, fldM_ins, look_cons, putW_nil, putW_cons, $ts,*])
variable {ρ : Env'} {μ : Mu}
theorem lc_deal {P : D → Prop} {g : RG} {e : RE} {t : Mu} : ∀ {xs : List D} {d : Dl}, (∀ x ∈ xs, ∀ d : Dl, d.1.length ≤ 1000 → ∃ (ρ1 : Env') (y : D) (d' : Dl), g (.val x) ρ = some ρ1 ∧ e ρ1 (MO.lst (List.map D.int (Prod.fst d)) :: MO.lsW [W.loc 0, W.val (D.int (Prod.snd d))] :: (t)) = some (.val y, (MO.lst (List.map D.int (Prod.fst d')) :: MO.lsW [W.loc 0, W.val (D.int (Prod.snd d'))] :: (t))) ∧ d'.1.length ≤ 1000 ∧ P y) → d.1.length ≤ 1000 →
    ∃ (ys : List D) (d' : Dl), lcR g mYes e none ρ xs (MO.lst (List.map D.int (Prod.fst d)) :: MO.lsW [W.loc 0, W.val (D.int (Prod.snd d))] :: (t)) = some (ys, (MO.lst (List.map D.int (Prod.fst d')) :: MO.lsW [W.loc 0, W.val (D.int (Prod.snd d'))] :: (t))) ∧ ys.length = xs.length ∧ (∀ y ∈ ys, P y) ∧ d'.1.length ≤ 1000
  | [], d, _, hd => ⟨[], d, rfl, rfl, (fun y h => by cases h), hd⟩
  | x :: xs, d, h, hd => by
    obtain ⟨ρ1, y, d1, h1, h2, h3, h4⟩ := h x (List.mem_cons_self ..) d hd
    obtain ⟨ys, d2, i1, i2, i3, i4⟩ := lc_deal (xs := xs) (d := d1) (fun z hz => h z (List.mem_cons_of_mem _ hz)) h3
    refine ⟨y :: ys, d2, ?_, by rw [List.length_cons, List.length_cons, i2], fun z hz => ?_, i4⟩
    · have hd1 : dat1 e ρ1 (MO.lst (List.map D.int (Prod.fst d)) :: MO.lsW [W.loc 0, W.val (D.int (Prod.snd d))] :: (t)) = some (y, (MO.lst (List.map D.int (Prod.fst d1)) :: MO.lsW [W.loc 0, W.val (D.int (Prod.snd d1))] :: (t))) := by
        unfold dat1
        rw [h2]
        rfl
      rw [lcR, h1]
      dsimp only
      rw [show mYes ρ1 (MO.lst (List.map D.int (Prod.fst d)) :: MO.lsW [W.loc 0, W.val (D.int (Prod.snd d))] :: (t)) = some (true, (MO.lst (List.map D.int (Prod.fst d)) :: MO.lsW [W.loc 0, W.val (D.int (Prod.snd d))] :: (t))) from rfl]
      dsimp only
      rw [hd1]
      dsimp only
      rw [if_pos (show standB none _ = true from rfl), i1]
    · rcases List.mem_cons.mp hz with rfl | hz
      · exact h4
      · exact i3 z hz
theorem range_len {a : Int} {n : Nat} : (rangeD a n).length = n := by
  unfold rangeD
  simp
def vE (k : Int) (x2 x3 x4 : Option W) : Env' := [some (.loc 1), some (.val (.int k)), x2, x3, x4]
end DX
namespace DX.K01
open PySem PySem.Spec L2 DK
local macro_rules
  | `(tactic| push_cast [$ts,*]) => `(tactic| simp only [q_seq, q_ifS, q_if, q_and, q_or, q_not, q_andV, q_orV, q_notV, q_test, q_op, q_un, q_asg, q_ret, q_drop, q_cons, q_dat, q_dat1, q_tup, q_lst, q_call, q_meth, q_for, q_lc, q_seqI, q_sl, q_var, q_c, q_nil, q_next, q_cont, q_break, q_retN, q_yes, q_noPart, q_partB, q_isN, q_ixB, q_fld, q_enum, q_par, q_body, varW_some, view_val, view_loc, viewM_lst, viewM_frz, isBl_bl, partW_int, name_set, ixW_val, ixF_l, ixF_t, fld_row_word, fld_row_tests, fld_row_deeds, fld_row_opens, fld_tool_window, fld_tool_rows, fld_tool_marks, recv_row, recv_tool, bodyE_rt, bodyE_nx, exit_any, exit_dst, negF_int, plusF_int, minusF_int, ltF_int, leF_int, gtF_int, geF_int, eqF_int, eqF_str, eqF_bl, intF_int, maxF_int, minF_int, lenF_l, lenF_t, lenF_s, tupF_l, tupF_t, lstF_l, lstF_t, strF_s, seqOf_t, seqOf_l, guard_val, guard_loc, isNW_val, isNW_loc, enumW_1, parW_2, tup_set, cons_set, nil_set, frzL_nil, frzL_cons, frz1_val, frz1_loc, frzM_lst, frzM_frz, ofS, ite_bind, Option.bind_some, then_nx, then_rt, then_ct, then_bk, start, List.length_cons, List.length_nil, List.map_cons, List.map_nil, List.replicate, List.cons_append, List.nil_append, List.append_nil, List.getElem?_cons_succ, List.getElem?_cons_zero, List.set_cons_succ, List.set_cons_zero, Nat.sub_self, Nat.reduceSub, Nat.reduceAdd, Nat.reduceEqDiff, if_true, if_false, reduceIte, decide_eq_true_eq, decide_true, decide_false, Bool.false_xor, Bool.true_xor, Nat.zero_add, eq_self, String.reduceEq, Bool.false_eq_true, wipeE, List.foldl_cons, List.foldl_nil, Bool.not_true, Bool.not_false, inF_strsT, inF_strsL, q_fldS, q_make, isNon_int, isNon_non, isNon_bl, isNon_str, isNon_tup, isNon_lst, q_lcM, q_setI, q_addM, addW_val, seqOf_loc, seqM_lst, seqM_frz, ixW_loc, ixM_lsW, ixM_lst, ixM_frz, setIW_loc, setIM_lst, exit_val, exit_loc, exitV_if, List.take_succ_cons, List.take_zero, List.take_nil, List.all_cons, List.all_nil, Bool.and_true, Bool.true_and, Bool.and_self, Nat.reduceLT, Nat.reduceLeDiff, Nat.zero_le, Nat.lt_add_one, exitM_lst, exitM_frz, below_lst, below_frz, below_dK, below_scr, below_lsW, below_ins, below_dW, wbelow_val, wbelow_loc, q_append, appA_loc, appW_1, appM_lst, q_lstOfM, lstM_lst, q_lstM, q_rng1, standB_none, standB_some, standM_lst, standM_frz, q_join, joinA_str, q_joined, q_jNil, q_jCons, jW_str, q_star, q_own1, ownW_val, okStr_str, isIns_row, isIns_tool, q_kget, kgetW_str, q_indexC, indexW_lst, q_makeL, mkL_cls, q_cmeth, cmW_cls, q_star1, star1W_cons, q_chain, chainW_bl, chainE_bl, q_eqOwn, fmtF_s, and_self, q_aug, augM_int, q_parN, setAll_cons, setAll_nil, q_never, intF_bl, q_extend, extA_loc, extW_1, extD_lst, extM_lst, q_asgT, uTup_tup, uCons_cons, uNil_nil, uName_eq, uFld_eq, ufW_loc, ufM_ins, fldSW_loc, fldSM_ins, fldW_loc, fldM_ins, look_cons, putW_nil, putW_cons, $ts,*])
variable {ρ : Env'} {μ : Mu}
def cN : Nat → Nat
  | 0 => 0
  | 1 => 94
  | n + 2 => (cN (n + 1) + 2) * 3 + 3
abbrev Sane (n : Nat) (v : D) : Prop := Sh (cN n) n v
theorem cN_ge : ∀ n, 94 ≤ cN (n + 1)
  | 0 => Nat.le_refl _
  | n + 1 => by
    have := cN_ge n
    rw [show cN (n + 1 + 1) = (cN (n + 1) + 2) * 3 + 3 from rfl]
    omega
def leafB : D → Bool
  | .non => true
  | .bl _ => true
  | .int i => decide (i.natAbs < 1000000000000000000000000)
  | .str s => s.cps.all (· < 0x110000) && decide (s.length ≤ 9)
  | _ => false
theorem leaf_of {n : Nat} (hn : 1 ≤ n) {v : D} (h : leafB v = true) : Sane n v := by
  obtain ⟨m, rfl⟩ : ∃ m, n = m + 1 := ⟨n - 1, by omega⟩
  have hc := cN_ge m
  cases v with
  | str s =>
    obtain ⟨h1, h2⟩ := Bool.and_eq_true_iff.mp h
    have h2 := of_decide_eq_true h2
    exact (sh_str h1).mono (by omega) hn
  | non => exact sh_non.mono (by omega) hn
  | bl b => exact sh_bl.mono (by omega) hn
  | int b => exact (sh_int2 (of_decide_eq_true h)).mono (by omega) hn
  | _ => cases h
theorem sl_of {n : Nat} (hn : 1 ≤ n) {l : List D} (h : l.all leafB = true) {x : D} (hx : x ∈ l) : Sane n x := leaf_of hn (List.all_eq_true.mp h x hx)
theorem lst_of {n : Nat} (hn : 1 ≤ n) {l : List D} (hl : l.length ≤ 3) (h : ∀ y ∈ l, Sane n y) : Sane (n + 1) (.lst l) := by
  obtain ⟨m, rfl⟩ : ∃ m, n = m + 1 := ⟨n - 1, by omega⟩
  exact (sh_lst h).mono (Nat.add_le_add_right (Nat.mul_le_mul_left _ hl) 3) (Nat.le_refl _)
theorem tup_of {n : Nat} (hn : 1 ≤ n) {l : List D} (hl : l.length ≤ 3) (h : ∀ y ∈ l, Sane n y) : Sane (n + 1) (.tup l) := by
  obtain ⟨m, rfl⟩ : ∃ m, n = m + 1 := ⟨n - 1, by omega⟩
  exact (sh_tup h).mono (Nat.add_le_add_right (Nat.mul_le_mul_left _ hl) 3) (Nat.le_refl _)
def VEx (f : FX) (K : Int) (n : Nat) : Prop := ∀ d : Dl, d.1.length ≤ 1000 → ∃ (d' : Dl) (v : D), d'.1.length ≤ 1000 ∧ Sane n v ∧ ∀ t, callX f [.loc 1, .val (.int K)] (MO.lst (List.map D.int (Prod.fst d)) :: MO.lsW [W.loc 0, W.val (D.int (Prod.snd d))] :: (t)) = some (.val v, (MO.lst (List.map D.int (Prod.fst d')) :: MO.lsW [W.loc 0, W.val (D.int (Prod.snd d'))] :: (t)))
def vB8 (f : FX) : RS := mAsg (mLc (kRng1 (mCons (mCall f_law_draw [] (mCons (mVar 0) (mCons (mC (.int 4)) mNil))) mNil)) (hName 3) mYes (mCall f [] (mCons (mVar 0) (mCons (mOp minusF (mVar 1) (mC (.int 1))) mNil))) [3]) (hName 4)
def vB (f : FX) : RS := (mSeq (m_law_value_p1)
      (mSeq (m_law_value_p3)
      (mSeq (m_law_value_p5)
      (mSeq (m_law_value_p7)
      (mSeq (vB8 f)
      (m_law_value_p9))))))
theorem vB0_ex {f : FX} : VEx (bodyF true 2 5 (vB f)) 0 1 := fun d hd => by
  have hlb : LB = 100000 := rfl
  suffices hr : ∃ (d' : Dl) (v : D), d'.1.length ≤ 1000 ∧ Sane 1 v ∧ vB f (vE 0 none none none) (MO.lst (List.map D.int (Prod.fst d)) :: MO.lsW [W.loc 0, W.val (D.int (Prod.snd d))] :: ([])) = some (.rt (.val v) (MO.lst (List.map D.int (Prod.fst d')) :: MO.lsW [W.loc 0, W.val (D.int (Prod.snd d'))] :: ([]))) by
    obtain ⟨d', v, h1, h2, h3⟩ := hr
    exact ⟨d', v, h1, h2, fun t => callX_front (μ0 := (MO.lst (List.map D.int (Prod.fst d)) :: MO.lsW [W.loc 0, W.val (D.int (Prod.snd d))] :: ([]))) (μ1 := (MO.lst (List.map D.int (Prod.fst d')) :: MO.lsW [W.loc 0, W.val (D.int (Prod.snd d'))] :: ([]))) (rest := t) rfl rfl (body_rt (w := .val v) (μ1 := (MO.lst (List.map D.int (Prod.fst d')) :: MO.lsW [W.loc 0, W.val (D.int (Prod.snd d'))] :: ([]))) rfl h3 (exitW rfl rfl)) rfl⟩
  obtain ⟨k, d1, k0, k1, hd1, hdr⟩ := draw_ex d 4 hd (by omega) (by omega)
  have hdr := hdr []
  have s1 : m_law_value_p1 (vE 0 none none none) (MO.lst (List.map D.int (Prod.fst d)) :: MO.lsW [W.loc 0, W.val (D.int (Prod.snd d))] :: ([])) = some (.nx (vE 0 (some (.val (.int k))) none none) (MO.lst (List.map D.int (Prod.fst d1)) :: MO.lsW [W.loc 0, W.val (D.int (Prod.snd d1))] :: ([]))) := by
    generalize ((MO.lst (List.map D.int (Prod.fst d)) :: MO.lsW [W.loc 0, W.val (D.int (Prod.snd d))] :: ([])) : Mu) = μ at hdr ⊢
    generalize ((MO.lst (List.map D.int (Prod.fst d1)) :: MO.lsW [W.loc 0, W.val (D.int (Prod.snd d1))] :: ([])) : Mu) = μ1 at hdr ⊢
    have hq : ((0 : Int) < 0) = False := by simp
    unfold m_law_value_p1 vE
    push_cast [hq, hdr]
  have h4 : (4 ≤ LB) = True := eq_true (by omega)
  have h3 : (3 ≤ LB) = True := eq_true (by omega)
  have h8 : (8 ≤ LB) = True := eq_true (by omega)
  by_cases q0 : k = 0
  · obtain ⟨x, d2, hx, hd2, hpk⟩ := pick_ex d1 [.int 0, .int 1, .int (0 - 7), .int 100000000000000000000] hd1 (by simp) (by simp)
    have hpk := hpk []
    refine ⟨d2, x, hd2, sl_of (by omega) (by rfl) hx, seq_nx s1 (seq_rt ?_)⟩
    have hp : pwF (.int 10) (.int 20) = some (.int 100000000000000000000) := by kernel_rfl
    generalize ((MO.lst (List.map D.int (Prod.fst d1)) :: MO.lsW [W.loc 0, W.val (D.int (Prod.snd d1))] :: ([])) : Mu) = μ1 at hpk ⊢
    generalize ((MO.lst (List.map D.int (Prod.fst d2)) :: MO.lsW [W.loc 0, W.val (D.int (Prod.snd d2))] :: ([])) : Mu) = μ2 at hpk ⊢
    unfold m_law_value_p3 m_law_value_p2 vE
    push_cast [eq_true q0, h4, hp, hpk]
  have s3 : ∀ μ, m_law_value_p3 (vE 0 (some (.val (.int k))) none none) μ = some (.nx (vE 0 (some (.val (.int k))) none none) μ) := fun μ => by
    unfold m_law_value_p3 vE
    push_cast [eq_false q0]
  by_cases q1 : k = 1
  · obtain ⟨x, d2, hx, hd2, hpk⟩ := pick_ex d1 [.non, .bl true, .bl false] hd1 (by simp) (by simp)
    have hpk := hpk []
    refine ⟨d2, x, hd2, sl_of (by omega) (by rfl) hx, seq_nx s1 (seq_nx (s3 _) (seq_rt ?_))⟩
    generalize ((MO.lst (List.map D.int (Prod.fst d1)) :: MO.lsW [W.loc 0, W.val (D.int (Prod.snd d1))] :: ([])) : Mu) = μ1 at hpk ⊢
    generalize ((MO.lst (List.map D.int (Prod.fst d2)) :: MO.lsW [W.loc 0, W.val (D.int (Prod.snd d2))] :: ([])) : Mu) = μ2 at hpk ⊢
    unfold m_law_value_p5 m_law_value_p4 vE
    push_cast [eq_true q1, h3, hpk]
  have s5 : ∀ μ, m_law_value_p5 (vE 0 (some (.val (.int k))) none none) μ = some (.nx (vE 0 (some (.val (.int k))) none none) μ) := fun μ => by
    unfold m_law_value_p5 vE
    push_cast [eq_false q1]
  by_cases q2 : k < 4
  · obtain ⟨x, d2, hx, hd2, hpk⟩ := pick_ex d1 [.str "", .str "same", .str "try 1", .str "give", .str "mark k", .str "marked k", .str "not", .str "x y"] hd1 (by simp) (by simp)
    have hpk := hpk []
    refine ⟨d2, x, hd2, sl_of (by omega) (by kernel_rfl) hx, seq_nx s1 (seq_nx (s3 _) (seq_nx (s5 _) (seq_rt ?_)))⟩
    generalize ((MO.lst (List.map D.int (Prod.fst d1)) :: MO.lsW [W.loc 0, W.val (D.int (Prod.snd d1))] :: ([])) : Mu) = μ1 at hpk ⊢
    generalize ((MO.lst (List.map D.int (Prod.fst d2)) :: MO.lsW [W.loc 0, W.val (D.int (Prod.snd d2))] :: ([])) : Mu) = μ2 at hpk ⊢
    unfold m_law_value_p7 m_law_value_p6 vE
    push_cast [eq_true q2, h8, hpk]
  omega
theorem vB_ex {f : FX} {K : Int} {n : Nat} (hn : 1 ≤ n) (hK : 0 < K) (hf : VEx f (K - 1) n) : VEx (bodyF true 2 5 (vB f)) K (n + 1) := fun d hd => by
  have hlb : LB = 100000 := rfl
  suffices hr : ∃ (d' : Dl) (v : D), d'.1.length ≤ 1000 ∧ Sane (n + 1) v ∧ vB f (vE K none none none) (MO.lst (List.map D.int (Prod.fst d)) :: MO.lsW [W.loc 0, W.val (D.int (Prod.snd d))] :: ([])) = some (.rt (.val v) (MO.lst (List.map D.int (Prod.fst d')) :: MO.lsW [W.loc 0, W.val (D.int (Prod.snd d'))] :: ([]))) by
    obtain ⟨d', v, h1, h2, h3⟩ := hr
    exact ⟨d', v, h1, h2, fun t => callX_front (μ0 := (MO.lst (List.map D.int (Prod.fst d)) :: MO.lsW [W.loc 0, W.val (D.int (Prod.snd d))] :: ([]))) (μ1 := (MO.lst (List.map D.int (Prod.fst d')) :: MO.lsW [W.loc 0, W.val (D.int (Prod.snd d'))] :: ([]))) (rest := t) rfl rfl (body_rt (w := .val v) (μ1 := (MO.lst (List.map D.int (Prod.fst d')) :: MO.lsW [W.loc 0, W.val (D.int (Prod.snd d'))] :: ([]))) rfl h3 (exitW rfl rfl)) rfl⟩
  obtain ⟨k, d1, k0, k1, hd1, hdr⟩ := draw_ex d 7 hd (by omega) (by omega)
  have hdr := hdr []
  have s1 : m_law_value_p1 (vE K none none none) (MO.lst (List.map D.int (Prod.fst d)) :: MO.lsW [W.loc 0, W.val (D.int (Prod.snd d))] :: ([])) = some (.nx (vE K (some (.val (.int k))) none none) (MO.lst (List.map D.int (Prod.fst d1)) :: MO.lsW [W.loc 0, W.val (D.int (Prod.snd d1))] :: ([]))) := by
    generalize ((MO.lst (List.map D.int (Prod.fst d)) :: MO.lsW [W.loc 0, W.val (D.int (Prod.snd d))] :: ([])) : Mu) = μ at hdr ⊢
    generalize ((MO.lst (List.map D.int (Prod.fst d1)) :: MO.lsW [W.loc 0, W.val (D.int (Prod.snd d1))] :: ([])) : Mu) = μ1 at hdr ⊢
    have hq : ((0 : Int) < K) = True := eq_true hK
    unfold m_law_value_p1 vE
    push_cast [hq, hdr]
  have h4 : (4 ≤ LB) = True := eq_true (by omega)
  have h3 : (3 ≤ LB) = True := eq_true (by omega)
  have h8 : (8 ≤ LB) = True := eq_true (by omega)
  by_cases q0 : k = 0
  · obtain ⟨x, d2, hx, hd2, hpk⟩ := pick_ex d1 [.int 0, .int 1, .int (0 - 7), .int 100000000000000000000] hd1 (by simp) (by simp)
    have hpk := hpk []
    refine ⟨d2, x, hd2, sl_of (by omega) (by rfl) hx, seq_nx s1 (seq_rt ?_)⟩
    have hp : pwF (.int 10) (.int 20) = some (.int 100000000000000000000) := by kernel_rfl
    generalize ((MO.lst (List.map D.int (Prod.fst d1)) :: MO.lsW [W.loc 0, W.val (D.int (Prod.snd d1))] :: ([])) : Mu) = μ1 at hpk ⊢
    generalize ((MO.lst (List.map D.int (Prod.fst d2)) :: MO.lsW [W.loc 0, W.val (D.int (Prod.snd d2))] :: ([])) : Mu) = μ2 at hpk ⊢
    unfold m_law_value_p3 m_law_value_p2 vE
    push_cast [eq_true q0, h4, hp, hpk]
  have s3 : ∀ μ, m_law_value_p3 (vE K (some (.val (.int k))) none none) μ = some (.nx (vE K (some (.val (.int k))) none none) μ) := fun μ => by
    unfold m_law_value_p3 vE
    push_cast [eq_false q0]
  by_cases q1 : k = 1
  · obtain ⟨x, d2, hx, hd2, hpk⟩ := pick_ex d1 [.non, .bl true, .bl false] hd1 (by simp) (by simp)
    have hpk := hpk []
    refine ⟨d2, x, hd2, sl_of (by omega) (by rfl) hx, seq_nx s1 (seq_nx (s3 _) (seq_rt ?_))⟩
    generalize ((MO.lst (List.map D.int (Prod.fst d1)) :: MO.lsW [W.loc 0, W.val (D.int (Prod.snd d1))] :: ([])) : Mu) = μ1 at hpk ⊢
    generalize ((MO.lst (List.map D.int (Prod.fst d2)) :: MO.lsW [W.loc 0, W.val (D.int (Prod.snd d2))] :: ([])) : Mu) = μ2 at hpk ⊢
    unfold m_law_value_p5 m_law_value_p4 vE
    push_cast [eq_true q1, h3, hpk]
  have s5 : ∀ μ, m_law_value_p5 (vE K (some (.val (.int k))) none none) μ = some (.nx (vE K (some (.val (.int k))) none none) μ) := fun μ => by
    unfold m_law_value_p5 vE
    push_cast [eq_false q1]
  by_cases q2 : k < 4
  · obtain ⟨x, d2, hx, hd2, hpk⟩ := pick_ex d1 [.str "", .str "same", .str "try 1", .str "give", .str "mark k", .str "marked k", .str "not", .str "x y"] hd1 (by simp) (by simp)
    have hpk := hpk []
    refine ⟨d2, x, hd2, sl_of (by omega) (by kernel_rfl) hx, seq_nx s1 (seq_nx (s3 _) (seq_nx (s5 _) (seq_rt ?_)))⟩
    generalize ((MO.lst (List.map D.int (Prod.fst d1)) :: MO.lsW [W.loc 0, W.val (D.int (Prod.snd d1))] :: ([])) : Mu) = μ1 at hpk ⊢
    generalize ((MO.lst (List.map D.int (Prod.fst d2)) :: MO.lsW [W.loc 0, W.val (D.int (Prod.snd d2))] :: ([])) : Mu) = μ2 at hpk ⊢
    unfold m_law_value_p7 m_law_value_p6 vE
    push_cast [eq_true q2, h8, hpk]
  have s7 : ∀ μ, m_law_value_p7 (vE K (some (.val (.int k))) none none) μ = some (.nx (vE K (some (.val (.int k))) none none) μ) := fun μ => by
    unfold m_law_value_p7 vE
    push_cast [eq_false q2]
  obtain ⟨m, d2, n0, n1, hd2, hdr2⟩ := draw_ex d1 4 hd1 (by omega) (by omega)
  have hdr2 := hdr2 []
  obtain ⟨ys, d3, i1, i2, i3, hd3⟩ := lc_deal (ρ := vE K (some (.val (.int k))) none none) (g := hName 3) (e := mCall f [] (mCons (mVar 0) (mCons (mOp minusF (mVar 1) (mC (.int 1))) mNil))) (t := []) (P := fun y => Sane n y) (xs := rangeD 0 m.toNat) (d := d2) (fun x _ d hd => by
    obtain ⟨d', v, hd', hv, hc⟩ := hf d hd
    have hc := hc []
    refine ⟨_, v, d', rfl, ?_, hd', hv⟩
    generalize ((MO.lst (List.map D.int (Prod.fst d)) :: MO.lsW [W.loc 0, W.val (D.int (Prod.snd d))] :: ([])) : Mu) = μ at hc ⊢
    generalize ((MO.lst (List.map D.int (Prod.fst d')) :: MO.lsW [W.loc 0, W.val (D.int (Prod.snd d'))] :: ([])) : Mu) = μ2 at hc ⊢
    unfold vE
    push_cast [hc]) hd2
  rw [range_len] at i2
  have s8 : vB8 f (vE K (some (.val (.int k))) none none) (MO.lst (List.map D.int (Prod.fst d1)) :: MO.lsW [W.loc 0, W.val (D.int (Prod.snd d1))] :: ([])) = some (.nx (vE K (some (.val (.int k))) none (some (.val (.lst ys)))) (MO.lst (List.map D.int (Prod.fst d3)) :: MO.lsW [W.loc 0, W.val (D.int (Prod.snd d3))] :: ([]))) := by
    have hrl : ((rangeD 0 m.toNat).length ≤ LB) = True := eq_true (by rw [range_len]; omega)
    generalize ((MO.lst (List.map D.int (Prod.fst d1)) :: MO.lsW [W.loc 0, W.val (D.int (Prod.snd d1))] :: ([])) : Mu) = μ1 at hdr2 ⊢
    generalize ((MO.lst (List.map D.int (Prod.fst d2)) :: MO.lsW [W.loc 0, W.val (D.int (Prod.snd d2))] :: ([])) : Mu) = μ2 at hdr2 i1
    generalize ((MO.lst (List.map D.int (Prod.fst d3)) :: MO.lsW [W.loc 0, W.val (D.int (Prod.snd d3))] :: ([])) : Mu) = μ3 at i1 ⊢
    unfold vB8
    unfold vE at i1 ⊢
    push_cast [hdr2, rng_ok n0 (by omega), hrl, i1]
  by_cases q4 : k = 4
  · refine ⟨d3, .lst ys, hd3, lst_of hn (by omega) i3, seq_nx s1 (seq_nx (s3 _) (seq_nx (s5 _) (seq_nx (s7 _) (seq_nx s8 ?_))))⟩
    generalize ((MO.lst (List.map D.int (Prod.fst d3)) :: MO.lsW [W.loc 0, W.val (D.int (Prod.snd d3))] :: ([])) : Mu) = μ3
    unfold m_law_value_p9 vE
    push_cast [eq_true q4]
  · refine ⟨d3, .tup ys, hd3, tup_of hn (by omega) i3, seq_nx s1 (seq_nx (s3 _) (seq_nx (s5 _) (seq_nx (s7 _) (seq_nx s8 ?_))))⟩
    generalize ((MO.lst (List.map D.int (Prod.fst d3)) :: MO.lsW [W.loc 0, W.val (D.int (Prod.snd d3))] :: ([])) : Mu) = μ3
    unfold m_law_value_p9 vE
    push_cast [eq_false q4]
theorem vex_step {f g : FX} {K : Int} {n : Nat} (hn : 1 ≤ n) (hK : 0 < K) (e : g = bodyF true 2 5 (vB f)) (h : VEx f (K - 1) n) : VEx g K (n + 1) := by
  subst e
  exact vB_ex hn hK h
theorem law_value_ex3 : VEx f_law_value 3 4 := by
  have v1 : VEx f_law_value_1 0 1 := vB0_ex (f := f_law_value_0)
  have v2 : VEx f_law_value_2 1 2 := vex_step (by decide) (by decide) rfl v1
  have v3 : VEx f_law_value_3 2 3 := vex_step (by decide) (by decide) rfl v2
  exact vex_step (by decide) (by decide) rfl v3
theorem law_value_ex2 : VEx f_law_value 2 3 := by
  have v2 : VEx f_law_value_2 0 1 := vB0_ex (f := f_law_value_1)
  have v3 : VEx f_law_value_3 1 2 := vex_step (by decide) (by decide) rfl v2
  exact vex_step (by decide) (by decide) rfl v3
end DX.K01
namespace DX.K01
open PySem PySem.Spec L2 DK
local macro_rules
  | `(tactic| push_cast [$ts,*]) => `(tactic| simp only [q_seq, q_ifS, q_if, q_and, q_or, q_not, q_andV, q_orV, q_notV, q_test, q_op, q_un, q_asg, q_ret, q_drop, q_cons, q_dat, q_dat1, q_tup, q_lst, q_call, q_meth, q_for, q_lc, q_seqI, q_sl, q_var, q_c, q_nil, q_next, q_cont, q_break, q_retN, q_yes, q_noPart, q_partB, q_isN, q_ixB, q_fld, q_enum, q_par, q_body, varW_some, view_val, view_loc, viewM_lst, viewM_frz, isBl_bl, partW_int, name_set, ixW_val, ixF_l, ixF_t, fld_row_word, fld_row_tests, fld_row_deeds, fld_row_opens, fld_tool_window, fld_tool_rows, fld_tool_marks, recv_row, recv_tool, bodyE_rt, bodyE_nx, exit_any, exit_dst, negF_int, plusF_int, minusF_int, ltF_int, leF_int, gtF_int, geF_int, eqF_int, eqF_str, eqF_bl, intF_int, maxF_int, minF_int, lenF_l, lenF_t, lenF_s, tupF_l, tupF_t, lstF_l, lstF_t, strF_s, seqOf_t, seqOf_l, guard_val, guard_loc, isNW_val, isNW_loc, enumW_1, parW_2, tup_set, cons_set, nil_set, frzL_nil, frzL_cons, frz1_val, frz1_loc, frzM_lst, frzM_frz, ofS, ite_bind, Option.bind_some, then_nx, then_rt, then_ct, then_bk, start, List.length_cons, List.length_nil, List.map_cons, List.map_nil, List.replicate, List.cons_append, List.nil_append, List.append_nil, List.getElem?_cons_succ, List.getElem?_cons_zero, List.set_cons_succ, List.set_cons_zero, Nat.sub_self, Nat.reduceSub, Nat.reduceAdd, Nat.reduceEqDiff, if_true, if_false, reduceIte, decide_eq_true_eq, decide_true, decide_false, Bool.false_xor, Bool.true_xor, Nat.zero_add, eq_self, String.reduceEq, Bool.false_eq_true, wipeE, List.foldl_cons, List.foldl_nil, Bool.not_true, Bool.not_false, inF_strsT, inF_strsL, q_fldS, q_make, isNon_int, isNon_non, isNon_bl, isNon_str, isNon_tup, isNon_lst, q_lcM, q_setI, q_addM, addW_val, seqOf_loc, seqM_lst, seqM_frz, ixW_loc, ixM_lsW, ixM_lst, ixM_frz, setIW_loc, setIM_lst, exit_val, exit_loc, exitV_if, List.take_succ_cons, List.take_zero, List.take_nil, List.all_cons, List.all_nil, Bool.and_true, Bool.true_and, Bool.and_self, Nat.reduceLT, Nat.reduceLeDiff, Nat.zero_le, Nat.lt_add_one, exitM_lst, exitM_frz, below_lst, below_frz, below_dK, below_scr, below_lsW, below_ins, below_dW, wbelow_val, wbelow_loc, q_append, appA_loc, appW_1, appM_lst, q_lstOfM, lstM_lst, q_lstM, q_rng1, standB_none, standB_some, standM_lst, standM_frz, q_join, joinA_str, q_joined, q_jNil, q_jCons, jW_str, q_star, q_own1, ownW_val, okStr_str, isIns_row, isIns_tool, q_kget, kgetW_str, q_indexC, indexW_lst, q_makeL, mkL_cls, q_cmeth, cmW_cls, q_star1, star1W_cons, q_chain, chainW_bl, chainE_bl, q_eqOwn, fmtF_s, and_self, q_aug, augM_int, q_parN, setAll_cons, setAll_nil, q_never, intF_bl, q_extend, extA_loc, extW_1, extD_lst, extM_lst, q_asgT, uTup_tup, uCons_cons, uNil_nil, uName_eq, uFld_eq, ufW_loc, ufM_ins, fldSW_loc, fldSM_ins, fldW_loc, fldM_ins, look_cons, putW_nil, putW_cons, $ts,*])
variable {ρ : Env'} {μ : Mu}
theorem from_lt {t u : Str} (h : t.length < u.length) : ∀ (n k : Nat) {a b : Str}, a.length ≤ b.length → (textFrom k a (List.replicate n t)).length ≤ (textFrom k b (List.replicate n u)).length ∧ (0 < n → (textFrom k a (List.replicate n t)).length < (textFrom k b (List.replicate n u)).length)
  | 0, k, a, b, hab => ⟨hab, fun z => absurd z (by decide)⟩
  | n + 1, k, a, b, hab => by
    have h1 : (a ++ ((if k > 0 then ", " else "" : String) : Str) ++ t).length < (b ++ ((if k > 0 then ", " else "" : String) : Str) ++ u).length := by
      rw [len_append, len_append, len_append, len_append]
      omega
    have h2 : ∀ (a b : Str), a.length < b.length → (textFrom (k + 1) a (List.replicate n t)).length < (textFrom (k + 1) b (List.replicate n u)).length := by
      intro a b hab
      by_cases q : n = 0
      · subst q
        exact hab
      · exact (from_lt h n (k + 1) (Nat.le_of_lt hab)).2 (by omega)
    have h3 := h2 _ _ h1
    exact ⟨Nat.le_of_lt h3, fun _ => h3⟩
theorem list_lt {t u : Str} (h : t.length < u.length) {n : Nat} (hn : 0 < n) : (listText (List.replicate n t)).length < (listText (List.replicate n u)).length := by
  have := (from_lt h n 0 (a := "[") (b := "[") (Nat.le_refl _)).2 hn
  unfold listText
  rw [len_append, len_append]
  omega
theorem two_lt {t u : Str} : (listText [t]).length < (listText [t, u]).length := by
  unfold listText
  show (("[" : Str) ++ ((if 0 > 0 then ", " else "" : String) : Str) ++ t ++ "]").length < (("[" : Str) ++ ((if 0 > 0 then ", " else "" : String) : Str) ++ t ++ ((if 0 + 1 > 0 then ", " else "" : String) : Str) ++ u ++ "]").length
  simp only [len_append]
  have : (((if 0 + 1 > 0 then ", " else "" : String) : Str)).length = 2 := rfl
  omega
def lot (xs : List D) : D := .lst (List.replicate 12 (.lst xs))
theorem lot_ne {v v2 : D} : (toPy (lot [v])).shown ≠ (toPy (lot [v, v2])).shown := fun e => by
  have h1 : (toPy (.lst [v])).shown.length < (toPy (.lst [v, v2])).shown.length := two_lt
  have h2 : (toPy (lot [v])).shown.length < (toPy (lot [v, v2])).shown.length := list_lt h1 (n := 12) (by decide)
  rw [e] at h2
  exact absurd h2 (Nat.lt_irrefl _)
theorem sh_one {v : D} (h : Sane 4 v) : Sh 2660 5 (.lst [v]) := (sh_lst (xs := [v]) (fun x hx => by rw [List.mem_singleton.mp hx]; exact h)).mono (show (cN 4 + 2) * 1 + 3 ≤ 2660 by decide) (Nat.le_refl _)
theorem sh_two {v v2 : D} (h : Sane 4 v) (h2 : Sane 3 v2) : Sh 3545 5 (.lst [v, v2]) := by
  refine ⟨?_, ?_, ?_, ?_, ?_⟩
  · show (pyOk v && (pyOk v2 && true)) = true
    rw [h.py, h2.py]; rfl
  · show ((toPy v).showable && ((toPy v2).showable && true)) = true
    rw [h.sh, h2.sh]; rfl
  · have := h.dp
    have := h2.dp
    show PyData.depth (.list [toPy v, toPy v2]) ≤ 5
    rw [PyData.depth, PyData.depthAll, PyData.depthAll, PyData.depthAll]
    omega
  · show (strsIn v && (strsIn v2 && true)) = true
    rw [h.st, h2.st]; rfl
  · have e1 : showCost v ≤ 2655 := h.co
    have e2 : showCost v2 ≤ 882 := h2.co
    show showCostL [v, v2] + 3 ≤ _
    simp only [showCostL]
    omega
theorem sh_lot {c : Nat} {xs : List D} (h : Sh c 5 (.lst xs)) (hc : c ≤ 3545) : showsB (lot xs) = true := by
  have h1 : Sh ((c + 2) * 12 + 3) 6 (lot xs) := sh_lst (xs := List.replicate 12 (.lst xs)) fun x hx => by rw [(List.mem_replicate.mp hx).2]; exact h
  exact h1.b (by decide) (by have : SB = 90000 := rfl; omega)
def exo (c f : Str) : MO := .exW c [(f, .loc 2)]
def nr : MO := exo "NoRow" "at"
def lw (n : Nat) : MO := .lsW (List.replicate n (.loc 2))
def kst : Mu := [exo "InvalidRow" "word", exo "InvalidTool" "word", lw 2, exo "InvalidTerms" "word", exo "InvalidRow" "word", lw 2, lw 4, exo "InvalidText" "at", exo "InvalidEvent" "at", exo "InvalidSeen" "at", exo "Refused" "at", lw 4, lw 8, exo "NoRow" "at", exo "NoRow" "at", exo "Refused" "at", exo "InvalidTerms" "word", lw 4, lw 12]
theorem kept1 {d : Dl} {xs : List D} : callX f_law_kept [.loc 2] (MO.lst (List.map D.int (Prod.fst d)) :: MO.lsW [W.loc 0, W.val (D.int (Prod.snd d))] :: ([.lst xs, nr])) = some (.loc 22, (MO.lst (List.map D.int (Prod.fst d)) :: MO.lsW [W.loc 0, W.val (D.int (Prod.snd d))] :: ([.lst xs, nr] ++ kst))) := by kernel_rfl
theorem kept2 {d : Dl} {xs : List D} : callX f_law_kept [.loc 2] (MO.lst (List.map D.int (Prod.fst d)) :: MO.lsW [W.loc 0, W.val (D.int (Prod.snd d))] :: ([.lst xs, nr] ++ kst)) = some (.loc 41, (MO.lst (List.map D.int (Prod.fst d)) :: MO.lsW [W.loc 0, W.val (D.int (Prod.snd d))] :: ([.lst xs, nr] ++ kst ++ kst))) := by kernel_rfl
theorem kept3 {d : Dl} {xs : List D} : callX f_law_kept [.loc 2] (MO.lst (List.map D.int (Prod.fst d)) :: MO.lsW [W.loc 0, W.val (D.int (Prod.snd d))] :: ([.lst xs, nr] ++ kst ++ kst)) = some (.loc 60, (MO.lst (List.map D.int (Prod.fst d)) :: MO.lsW [W.loc 0, W.val (D.int (Prod.snd d))] :: ([.lst xs, nr] ++ kst ++ kst ++ kst))) := by kernel_rfl
theorem rw_of {a : RE} {μ1 : Mu} {j : Nat} {ws : List W} {ds : List D} (h : a ρ μ = some (.loc j, μ1)) (h1 : μ1[j]? = some (.lsW ws)) (h2 : lendWs μ1 ws = some ds) (h3 : showsB (.lst ds) = true) : mReprW a ρ μ = some (.val (.str (toPy (.lst ds)).shown), μ1) := by
  unfold mReprW
  rw [h]
  dsimp only
  rw [h1]
  dsimp only
  rw [h2]
  dsimp only
  rw [if_pos h3]
theorem app_of {i j : Nat} {r : RA} {x D0 : D} {xs : List D} {μ2 : Mu} (h0 : mVar i ρ μ = some (.loc j, μ)) (h1 : view μ (.loc j) = some D0) (h2 : dat r ρ μ = some ([x], μ2)) (h3 : μ2[j]? = some (.lst xs)) (h4 : xs.length < LB) : mAppend (mVar i) r ρ μ = some (.val .non, μ2.set j (.lst (xs ++ [x]))) := by
  unfold mAppend
  rw [h0]
  dsimp only
  rw [h1, h2]
  dsimp only
  rw [h3]
  dsimp only
  rw [if_pos h4]
theorem same_text {a b : RE} {μ1 : Mu} {w1 w2 : W} {dd : D} (ha : a ρ μ = some (w1, μ1)) (h1 : view μ1 w1 = some dd) (hb : b ρ μ1 = some (w2, μ1)) (h2 : view μ1 w2 = some dd) (hs : showsB dd = true) : mTest (mReprC true a b) ρ μ = some (false, μ1) := by
  rw [q_test, q_reprC, ha, Option.bind_some, h1, Option.bind_some, if_pos hs, hb, Option.bind_some, h2, Option.bind_some, if_pos hs, decide_eq_true rfl]
  rfl
abbrev E (ns : List Int) (x2 x3 x4 x5 x6 x7 x8 : Option W) : Env' := [some (.val (.scr ns)), some (.loc 1), x2, x3, x4, x5, x6, x7, x8]
section
variable {ns : List Int} {x2 x3 x4 x5 x6 x7 x8 : Option W} {d : Dl}
def txtD (xs : List D) : D := .str (toPy (lot xs)).shown
theorem p2_ok (hd : d.1.length ≤ 1000) : ∃ (d' : Dl) (v : D), d'.1.length ≤ 1000 ∧ Sane 4 v ∧ m_law_p2 (E ns x2 x3 x4 x5 x6 x7 x8) (MO.lst (List.map D.int (Prod.fst d)) :: MO.lsW [W.loc 0, W.val (D.int (Prod.snd d))] :: ([])) = some (.nx (E ns x2 (some (.loc 2)) x4 x5 x6 x7 x8) (MO.lst (List.map D.int (Prod.fst d')) :: MO.lsW [W.loc 0, W.val (D.int (Prod.snd d'))] :: ([.lst [v]]))) := by
  obtain ⟨d1, v, hd1, hv, hc⟩ := law_value_ex3 d hd
  have hc := hc []
  refine ⟨d1, v, hd1, hv, ?_⟩
  have hb : (1 ≤ LB) = True := eq_true (by decide)
  have hm : mLstM (mCons (mCall f_law_value [] (mCons (mVar 1) (mCons (mC (.int 3)) mNil))) mNil) (E ns x2 x3 x4 x5 x6 x7 x8) (MO.lst (List.map D.int (Prod.fst d)) :: MO.lsW [W.loc 0, W.val (D.int (Prod.snd d))] :: ([])) = some (.loc 2, (MO.lst (List.map D.int (Prod.fst d1)) :: MO.lsW [W.loc 0, W.val (D.int (Prod.snd d1))] :: ([.lst [v]]))) := by
    have hda : dat (mCons (mCall f_law_value [] (mCons (mVar 1) (mCons (mC (.int 3)) mNil))) mNil) (E ns x2 x3 x4 x5 x6 x7 x8) (MO.lst (List.map D.int (Prod.fst d)) :: MO.lsW [W.loc 0, W.val (D.int (Prod.snd d))] :: ([])) = some ([v], (MO.lst (List.map D.int (Prod.fst d1)) :: MO.lsW [W.loc 0, W.val (D.int (Prod.snd d1))] :: ([]))) := by
      generalize ((MO.lst (List.map D.int (Prod.fst d)) :: MO.lsW [W.loc 0, W.val (D.int (Prod.snd d))] :: ([])) : Mu) = μ at hc ⊢
      generalize ((MO.lst (List.map D.int (Prod.fst d1)) :: MO.lsW [W.loc 0, W.val (D.int (Prod.snd d1))] :: ([])) : Mu) = μ1 at hc ⊢
      push_cast [hc]
    rw [q_lstM, hda]
    rfl
  unfold m_law_p2
  rw [q_asg, hm]
  rfl
theorem e_txt {xs : List D} {c : Nat} (h : Sh c 5 (.lst xs)) (hc : c ≤ 3545) : mReprW (mCall f_law_kept [] (mCons (mVar 3) mNil)) (E ns x2 (some (.loc 2)) x4 x5 x6 x7 x8) (MO.lst (List.map D.int (Prod.fst d)) :: MO.lsW [W.loc 0, W.val (D.int (Prod.snd d))] :: ([.lst xs, nr])) = some (.val (txtD xs), (MO.lst (List.map D.int (Prod.fst d)) :: MO.lsW [W.loc 0, W.val (D.int (Prod.snd d))] :: ([.lst xs, nr] ++ kst))) :=
  rw_of (call_of rfl kept1) rfl (ds := List.replicate 12 (.lst xs)) rfl (sh_lot h hc)
theorem e_txt2 {xs : List D} {c : Nat} (h : Sh c 5 (.lst xs)) (hc : c ≤ 3545) : mReprW (mCall f_law_kept [] (mCons (mVar 3) mNil)) (E ns x2 (some (.loc 2)) x4 x5 x6 x7 x8) (MO.lst (List.map D.int (Prod.fst d)) :: MO.lsW [W.loc 0, W.val (D.int (Prod.snd d))] :: ([.lst xs, nr] ++ kst)) = some (.val (txtD xs), (MO.lst (List.map D.int (Prod.fst d)) :: MO.lsW [W.loc 0, W.val (D.int (Prod.snd d))] :: ([.lst xs, nr] ++ kst ++ kst))) :=
  rw_of (call_of rfl kept2) rfl (ds := List.replicate 12 (.lst xs)) rfl (sh_lot h hc)
theorem p3_ok {v : D} (hv : Sane 4 v) : m_law_p3 (E ns x2 (some (.loc 2)) x4 x5 x6 x7 x8) (MO.lst (List.map D.int (Prod.fst d)) :: MO.lsW [W.loc 0, W.val (D.int (Prod.snd d))] :: ([.lst [v]])) = some (.nx (E ns x2 (some (.loc 2)) (some (.loc 3)) (some (.val (txtD [v]))) x6 x7 x8) (MO.lst (List.map D.int (Prod.fst d)) :: MO.lsW [W.loc 0, W.val (D.int (Prod.snd d))] :: ([.lst [v], nr] ++ kst))) := by
  have h1 : mExV "NoRow" "at" (mCons (mVar 3) mNil) (E ns x2 (some (.loc 2)) x4 x5 x6 x7 x8) (MO.lst (List.map D.int (Prod.fst d)) :: MO.lsW [W.loc 0, W.val (D.int (Prod.snd d))] :: ([.lst [v]])) = some (.loc 3, (MO.lst (List.map D.int (Prod.fst d)) :: MO.lsW [W.loc 0, W.val (D.int (Prod.snd d))] :: ([.lst [v], nr]))) := by kernel_rfl
  have h2 := e_txt (ns := ns) (x2 := x2) (x4 := x4) (x5 := x5) (x6 := x6) (x7 := x7) (x8 := x8) (d := d) (sh_one hv) (by decide)
  have hp : (mCons (mExV "NoRow" "at" (mCons (mVar 3) mNil)) (mCons ((mReprW (mCall f_law_kept [] (mCons (mVar 3) mNil)))) mNil)) (E ns x2 (some (.loc 2)) x4 x5 x6 x7 x8) (MO.lst (List.map D.int (Prod.fst d)) :: MO.lsW [W.loc 0, W.val (D.int (Prod.snd d))] :: ([.lst [v]])) = some ([.loc 3, .val (txtD [v])], (MO.lst (List.map D.int (Prod.fst d)) :: MO.lsW [W.loc 0, W.val (D.int (Prod.snd d))] :: ([.lst [v], nr] ++ kst))) := by
    generalize ((MO.lst (List.map D.int (Prod.fst d)) :: MO.lsW [W.loc 0, W.val (D.int (Prod.snd d))] :: ([.lst [v]])) : Mu) = μ at h1 ⊢
    generalize ((MO.lst (List.map D.int (Prod.fst d)) :: MO.lsW [W.loc 0, W.val (D.int (Prod.snd d))] :: ([.lst [v], nr])) : Mu) = μ1 at h1 h2 ⊢
    generalize ((MO.lst (List.map D.int (Prod.fst d)) :: MO.lsW [W.loc 0, W.val (D.int (Prod.snd d))] :: ([.lst [v], nr] ++ kst)) : Mu) = μ2 at h2 ⊢
    push_cast [h1, h2]
  unfold m_law_p3
  rw [q_par, hp]
  rfl
theorem p4_ok {v : D} (hd : d.1.length ≤ 1000) : ∃ (d' : Dl) (v2 : D), d'.1.length ≤ 1000 ∧ Sane 3 v2 ∧ m_law_p4 (E ns x2 (some (.loc 2)) x4 x5 x6 x7 x8) (MO.lst (List.map D.int (Prod.fst d)) :: MO.lsW [W.loc 0, W.val (D.int (Prod.snd d))] :: ([.lst [v], nr] ++ kst)) = some (.nx (E ns x2 (some (.loc 2)) x4 x5 x6 x7 x8) (MO.lst (List.map D.int (Prod.fst d')) :: MO.lsW [W.loc 0, W.val (D.int (Prod.snd d'))] :: ([.lst [v, v2], nr] ++ kst))) := by
  obtain ⟨d1, v2, hd1, hv, hc⟩ := law_value_ex2 d hd
  have hc := hc ([.lst [v], nr] ++ kst)
  refine ⟨d1, v2, hd1, hv, ?_⟩
  have hda : dat (mCons (mCall f_law_value [] (mCons (mVar 1) (mCons (mC (.int 2)) mNil))) mNil) (E ns x2 (some (.loc 2)) x4 x5 x6 x7 x8) (MO.lst (List.map D.int (Prod.fst d)) :: MO.lsW [W.loc 0, W.val (D.int (Prod.snd d))] :: ([.lst [v], nr] ++ kst)) = some ([v2], (MO.lst (List.map D.int (Prod.fst d1)) :: MO.lsW [W.loc 0, W.val (D.int (Prod.snd d1))] :: ([.lst [v], nr] ++ kst))) := by
    generalize ((MO.lst (List.map D.int (Prod.fst d)) :: MO.lsW [W.loc 0, W.val (D.int (Prod.snd d))] :: ([.lst [v], nr] ++ kst)) : Mu) = μ at hc ⊢
    generalize ((MO.lst (List.map D.int (Prod.fst d1)) :: MO.lsW [W.loc 0, W.val (D.int (Prod.snd d1))] :: ([.lst [v], nr] ++ kst)) : Mu) = μ1 at hc ⊢
    push_cast [hc]
  have ha := app_of (i := 3) (j := 2) (ρ := E ns x2 (some (.loc 2)) x4 x5 x6 x7 x8) (D0 := .lst [v]) rfl rfl hda rfl (by show 1 < 100000; decide)
  unfold m_law_p4
  rw [q_drop, ha]
  rfl
theorem p6_ok {v v2 : D} (hv : Sane 4 v) (hv2 : Sane 3 v2) : m_law_p6 (E ns x2 (some (.loc 2)) (some (.loc 3)) (some (.val (txtD [v]))) x6 x7 x8) (MO.lst (List.map D.int (Prod.fst d)) :: MO.lsW [W.loc 0, W.val (D.int (Prod.snd d))] :: ([.lst [v, v2], nr] ++ kst)) = some (.nx (E ns x2 (some (.loc 2)) (some (.loc 3)) (some (.val (txtD [v]))) x6 x7 x8) (MO.lst (List.map D.int (Prod.fst d)) :: MO.lsW [W.loc 0, W.val (D.int (Prod.snd d))] :: ([.lst [v, v2], nr] ++ kst ++ kst))) := by
  have hs := sh_two hv hv2
  have h1 := e_txt2 (ns := ns) (x2 := x2) (x4 := some (.loc 3)) (x5 := some (.val (txtD [v]))) (x6 := x6) (x7 := x7) (x8 := x8) (d := d) hs (Nat.le_refl _)
  have hne : eqF false (txtD [v]) (txtD [v, v2]) = some (.bl false) := by
    show some (D.bl (false ^^ decide ((toPy (lot [v])).shown = (toPy (lot [v, v2])).shown))) = _
    rw [decide_eq_false lot_ne]
    rfl
  have h2 : mTest (mReprC true (mExvF ["NoRow"] "at" (mVar 4)) (mVar 3)) (E ns x2 (some (.loc 2)) (some (.loc 3)) (some (.val (txtD [v]))) x6 x7 x8) (MO.lst (List.map D.int (Prod.fst d)) :: MO.lsW [W.loc 0, W.val (D.int (Prod.snd d))] :: ([.lst [v, v2], nr] ++ kst ++ kst)) = some (false, (MO.lst (List.map D.int (Prod.fst d)) :: MO.lsW [W.loc 0, W.val (D.int (Prod.snd d))] :: ([.lst [v, v2], nr] ++ kst ++ kst))) :=
    same_text (w1 := .loc 2) (w2 := .loc 2) (dd := .lst [v, v2]) (by kernel_rfl) rfl rfl rfl (hs.b (by decide) (by decide))
  have h3 : mTest (mOp (eqF false) (mVar 5) ((mReprW (mCall f_law_kept [] (mCons (mVar 3) mNil))))) (E ns x2 (some (.loc 2)) (some (.loc 3)) (some (.val (txtD [v]))) x6 x7 x8) (MO.lst (List.map D.int (Prod.fst d)) :: MO.lsW [W.loc 0, W.val (D.int (Prod.snd d))] :: ([.lst [v, v2], nr] ++ kst)) = some (false, (MO.lst (List.map D.int (Prod.fst d)) :: MO.lsW [W.loc 0, W.val (D.int (Prod.snd d))] :: ([.lst [v, v2], nr] ++ kst ++ kst))) := by
    generalize ((MO.lst (List.map D.int (Prod.fst d)) :: MO.lsW [W.loc 0, W.val (D.int (Prod.snd d))] :: ([.lst [v, v2], nr] ++ kst)) : Mu) = μ at h1 ⊢
    generalize ((MO.lst (List.map D.int (Prod.fst d)) :: MO.lsW [W.loc 0, W.val (D.int (Prod.snd d))] :: ([.lst [v, v2], nr] ++ kst ++ kst)) : Mu) = μ2 at h1 ⊢
    push_cast [h1, hne]
  unfold m_law_p6 m_law_p5
  generalize mTest (mReprC true (mExvF ["NoRow"] "at" (mVar 4)) (mVar 3)) = t2 at h2 ⊢
  generalize mTest (mOp (eqF false) (mVar 5) ((mReprW (mCall f_law_kept [] (mCons (mVar 3) mNil))))) = t1 at h3 ⊢
  generalize ((MO.lst (List.map D.int (Prod.fst d)) :: MO.lsW [W.loc 0, W.val (D.int (Prod.snd d))] :: ([.lst [v, v2], nr] ++ kst)) : Mu) = μ at h3 ⊢
  generalize ((MO.lst (List.map D.int (Prod.fst d)) :: MO.lsW [W.loc 0, W.val (D.int (Prod.snd d))] :: ([.lst [v, v2], nr] ++ kst ++ kst)) : Mu) = μ2 at h2 h3 ⊢
  push_cast [h2, h3]
theorem lc_none_of {i : Nat} {t : RB} {e : RE} {ρ : Env'} : ∀ (n : Nat) {w : W}, t (ρ.set i (some w)) μ = some (false, μ) → lcFR i t e ρ (List.replicate n w) μ = some ([], μ)
  | 0, w, _ => rfl
  | n + 1, w, h => by
    rw [List.replicate_succ, lcFR, h]
    exact lc_none_of n h
theorem lcw_of {a e : RE} {t : RB} {i j : Nat} {ws : List W} {μ1 μ2 : Mu} {ys : List D} (h : a ρ μ = some (.loc j, μ1)) (h1 : μ1[j]? = some (.lsW ws)) (h2 : μ.length ≤ j) (h3 : (μ1.take j).all (MO.below j) = true) (h4 : ws.all (W.below j) = true) (h5 : ws.length ≤ 100) (hl : lcFR i t e (wipeE (ρ.map (clr j)) [i]) ws (μ1.take j) = some (ys, μ2)) : mLcWf a i t e ρ μ = some (.val (.lst ys), μ2) := by
  unfold mLcWf
  rw [h]
  dsimp only
  rw [h1]
  dsimp only
  rw [if_pos ⟨h2, h3, h4, h5⟩, hl]
theorem p8_ok {v v2 : D} (hv : Sane 4 v) (hv2 : Sane 3 v2) : m_law_p8 (E ns x2 (some (.loc 2)) (some (.loc 3)) x5 x6 x7 x8) (MO.lst (List.map D.int (Prod.fst d)) :: MO.lsW [W.loc 0, W.val (D.int (Prod.snd d))] :: ([.lst [v, v2], nr] ++ kst ++ kst)) = some (.nx (E ns x2 (some (.loc 2)) (some (.loc 3)) x5 x6 x7 x8) (MO.lst (List.map D.int (Prod.fst d)) :: MO.lsW [W.loc 0, W.val (D.int (Prod.snd d))] :: ([.lst [v, v2], nr] ++ kst ++ kst ++ kst.take 18))) := by
  have hs := sh_two hv hv2
  have hl : lcFR 6 (mTest (mReprC true (mVar 6) (mVar 3))) (mC (.int 1)) (wipeE ((E ns x2 (some (.loc 2)) (some (.loc 3)) x5 x6 x7 x8).map (clr 60)) [6]) (List.replicate 12 (.loc 2)) (MO.lst (List.map D.int (Prod.fst d)) :: MO.lsW [W.loc 0, W.val (D.int (Prod.snd d))] :: ([.lst [v, v2], nr] ++ kst ++ kst ++ kst.take 18)) = some ([], (MO.lst (List.map D.int (Prod.fst d)) :: MO.lsW [W.loc 0, W.val (D.int (Prod.snd d))] :: ([.lst [v, v2], nr] ++ kst ++ kst ++ kst.take 18))) :=
    lc_none_of 12 (same_text (w1 := .loc 2) (w2 := .loc 2) (dd := .lst [v, v2]) rfl rfl rfl rfl (hs.b (by decide) (by decide)))
  have hm := lcw_of (ρ := E ns x2 (some (.loc 2)) (some (.loc 3)) x5 x6 x7 x8) (a := mCall f_law_kept [] (mCons (mVar 3) mNil)) (i := 6) (j := 60) (ws := List.replicate 12 (.loc 2)) (call_of rfl kept3) rfl (by show 42 ≤ 60; decide) (by rfl) (by rfl) (by decide) hl
  unfold m_law_p8 m_law_p7
  generalize mLcWf (mCall f_law_kept [] (mCons (mVar 3) mNil)) 6 (mTest (mReprC true (mVar 6) (mVar 3))) (mC (.int 1)) = lc at hm ⊢
  generalize ((MO.lst (List.map D.int (Prod.fst d)) :: MO.lsW [W.loc 0, W.val (D.int (Prod.snd d))] :: ([.lst [v, v2], nr] ++ kst ++ kst)) : Mu) = μ at hm ⊢
  generalize ((MO.lst (List.map D.int (Prod.fst d)) :: MO.lsW [W.loc 0, W.val (D.int (Prod.snd d))] :: ([.lst [v, v2], nr] ++ kst ++ kst ++ kst.take 18)) : Mu) = μ2 at hm ⊢
  have hz : (0 ≤ LB) = True := eq_true (by decide)
  have he : eqF true (.lst []) (.lst []) = some (.bl false) := rfl
  push_cast [hm, hz, he]
theorem turn (hd : d.1.length ≤ 1000) : ∃ (d' : Dl) (y2 y3 y4 y5 y6 y7 y8 : Option W), d'.1.length ≤ 1000 ∧ mCut m_law_1 (E ns x2 x3 x4 x5 x6 x7 x8) (MO.lst (List.map D.int (Prod.fst d)) :: MO.lsW [W.loc 0, W.val (D.int (Prod.snd d))] :: ([])) = some (.nx (E ns y2 y3 y4 y5 y6 y7 y8) (MO.lst (List.map D.int (Prod.fst d')) :: MO.lsW [W.loc 0, W.val (D.int (Prod.snd d'))] :: ([]))) := by
  obtain ⟨d1, v, hd1, hv, s2⟩ := p2_ok (ns := ns) (x2 := x2) (x3 := x3) (x4 := x4) (x5 := x5) (x6 := x6) (x7 := x7) (x8 := x8) hd
  have s3 := p3_ok (ns := ns) (x2 := x2) (x4 := x4) (x5 := x5) (x6 := x6) (x7 := x7) (x8 := x8) (d := d1) hv
  obtain ⟨d2, v2, hd2, hv2, s4⟩ := p4_ok (ns := ns) (x2 := x2) (x4 := some (.loc 3)) (x5 := some (.val (txtD [v]))) (x6 := x6) (x7 := x7) (x8 := x8) (v := v) hd1
  have s6 := p6_ok (ns := ns) (x2 := x2) (x6 := x6) (x7 := x7) (x8 := x8) (d := d2) hv hv2
  have s8 := p8_ok (ns := ns) (x2 := x2) (x5 := some (.val (txtD [v]))) (x6 := x6) (x7 := x7) (x8 := x8) (d := d2) hv hv2
  have hall := seq_nx s2 (seq_nx s3 (seq_nx s4 (seq_nx s6 s8)))
  have hcut := cut_nx (b := m_law_1) hall (show 2 ≤ 60 by omega) rfl
  exact ⟨d2, clr 2 x2, none, none, _, clr 2 x6, clr 2 x7, clr 2 x8, hd2, hcut⟩
end
def Ou (ns : List Int) (ρ : Env') (μ : Mu) : Prop := ∃ (d : Dl) (x2 x3 x4 x5 x6 x7 x8 : Option W), d.1.length ≤ 1000 ∧ ρ = E ns x2 x3 x4 x5 x6 x7 x8 ∧ μ = (MO.lst (List.map D.int (Prod.fst d)) :: MO.lsW [W.loc 0, W.val (D.int (Prod.snd d))] :: ([]))
def isT : Option Out → Bool
  | some (.rt (.val (.bl true)) _) => true
  | _ => false
theorem isT_ok {o : Option Out} (h : isT o = true) : ∃ μ', o = some (.rt (.val (.bl true)) μ') := by
  unfold isT at h
  split at h
  · exact ⟨_, rfl⟩
  · cases h
def tailR : RS := (mSeq (m_law_p10) (mSeq (m_law_p15) (mSeq (m_law_p16) (m_law_p17))))
theorem law_ok (ns : List Int) (hl : ns.length ≤ 63) : f_law [.val (.scr ns)] [] = some (.val (.bl true), []) := by
  obtain ⟨d, hd, hdl⟩ := e_gdeal (a := 36195017) (b := 43) (p := 2147483629) (q := 2147483647) (base := 0) (ns := ns) (by decide) (by decide) (by decide) (by omega)
  have hg : mCall f_law_deal [] (mCons (mVar 0) (mCons (mC (.int 0)) mNil)) [some (.val (.scr ns)), none, none, none, none, none, none, none, none] [] = some (.loc 1, (MO.lst (List.map D.int (Prod.fst d)) :: MO.lsW [W.loc 0, W.val (D.int (Prod.snd d))] :: ([]))) := call_of rfl (callX_nil rfl hd)
  obtain ⟨ρ5, μ5, l1, l2⟩ := loop_all (g := hName 2) (b := mCut m_law_1) (c := none) (I := Ou ns) (xs := rangeD 0 (6 : Int).toNat) (ρ := E ns none none none none none none none) (μ := (MO.lst (List.map D.int (Prod.fst d)) :: MO.lsW [W.loc 0, W.val (D.int (Prod.snd d))] :: ([]))) (by
    rintro x ρ μ - ⟨d, x2, x3, x4, x5, x6, x7, x8, hd, rfl, rfl⟩
    obtain ⟨d', y2, y3, y4, y5, y6, y7, y8, hd', i1⟩ := turn (ns := ns) (d := d) (x2 := some (.val x)) (x3 := x3) (x4 := x4) (x5 := x5) (x6 := x6) (x7 := x7) (x8 := x8) hd
    exact ⟨_, _, _, rfl, .inl i1, rfl, d', y2, y3, y4, y5, y6, y7, y8, hd', rfl, rfl⟩) ⟨d, none, none, none, none, none, none, none, by omega, rfl, rfl⟩
  obtain ⟨d4, x2, x3, x4, x5, x6, x7, x8, hd4, rfl, rfl⟩ := l2
  have q1 : m_law_p1 [some (.val (.scr ns)), none, none, none, none, none, none, none, none] [] = some (.nx (E ns none none none none none none none) (MO.lst (List.map D.int (Prod.fst d)) :: MO.lsW [W.loc 0, W.val (D.int (Prod.snd d))] :: ([]))) := by
    unfold m_law_p1
    rw [q_asg, hg]
    rfl
  have q9 : m_law_p9 (E ns none none none none none none none) (MO.lst (List.map D.int (Prod.fst d)) :: MO.lsW [W.loc 0, W.val (D.int (Prod.snd d))] :: ([])) = some (.nx (E ns x2 x3 x4 x5 x6 x7 x8) (MO.lst (List.map D.int (Prod.fst d4)) :: MO.lsW [W.loc 0, W.val (D.int (Prod.snd d4))] :: ([]))) := by
    unfold m_law_p9
    push_cast [rng_ok (k := 6) (by omega) (by omega), l1]
  obtain ⟨μ', qt⟩ := isT_ok (show isT (tailR (E ns x2 x3 x4 x5 x6 x7 x8) (MO.lst (List.map D.int (Prod.fst d4)) :: MO.lsW [W.loc 0, W.val (D.int (Prod.snd d4))] :: ([]))) = true by kernel_rfl)
  exact body_rt (w := .val (.bl true)) (μ1 := μ') rfl (seq_nx q1 (seq_nx q9 qt)) rfl
end DX.K01
namespace DX.K01
open PySem PySem.Spec PyProof.Rows L2 DK
theorem facts {P : Program} {w : World} {K : PySem.W.Frag} {h : Heap} {mg : Str → Option Value} {f : Addr} (X : K.In h) (G : h.Ns mainGlobals mg) (hfa : mg ("law" : Str) = some (.ref f)) (c : SaysY sy w K) (hP : SupP P theFile) :
    ∃ fd : FuncData, (∀ (s : Shared) (v : Value), BindsTo s fd ⟨[v], []⟩ [("_law_script", v)]) ∧ ∀ base : Heap, K.In base → base.Ns mainGlobals mg → FnG P w K mg base CX0 7 f fd ["_law_script"] (@sp_law K ⟨w, []⟩) := by
  obtain ⟨fd_law_deal, F_law_deal⟩ := c.def_ 0 (y := dq_law_deal) rfl
  obtain ⟨fd_law_draw, F_law_draw⟩ := c.def_ 1 (y := dq_law_draw) rfl
  obtain ⟨fd_law_pick, F_law_pick⟩ := c.def_ 2 (y := dq_law_pick) rfl
  obtain ⟨fd_law_value_0, F_law_value_0⟩ := c.def_ 3 (y := dq_law_value_0) rfl
  obtain ⟨fd_law_value_1, F_law_value_1⟩ := c.def_ 4 (y := dq_law_value_1) rfl
  obtain ⟨fd_law_value_2, F_law_value_2⟩ := c.def_ 5 (y := dq_law_value_2) rfl
  obtain ⟨fd_law_value_3, F_law_value_3⟩ := c.def_ 6 (y := dq_law_value_3) rfl
  obtain ⟨fd_law_value, F_law_value⟩ := c.def_ 7 (y := dq_law_value) rfl
  obtain ⟨fd_law_sorts, F_law_sorts⟩ := c.def_ 8 (y := dq_law_sorts) rfl
  obtain ⟨fd_law_kept, F_law_kept⟩ := c.def_ 9 (y := dq_law_kept) rfl
  obtain ⟨fd_law, F_law⟩ := c.def_ 10 (y := dq_law) rfl
  obtain ⟨y0, y1, y2, y3, y4, y5, y6, y7, y8⟩ := xb_all c.x
  obtain ⟨fd_InvalidRow_init, F_InvalidRow_init⟩ := DefY.funS (y := dq_InvalidRow_init) rfl rfl (c.seen 11 (y := dq_InvalidRow_init) rfl).1 (c.seen 11 (y := dq_InvalidRow_init) rfl).2 (xb_at y0 11 _ rfl)
  obtain ⟨fd_InvalidTool_init, F_InvalidTool_init⟩ := DefY.funS (y := dq_InvalidTool_init) rfl rfl (c.seen 12 (y := dq_InvalidTool_init) rfl).1 (c.seen 12 (y := dq_InvalidTool_init) rfl).2 (xb_at y1 3 _ rfl)
  obtain ⟨fd_InvalidTerms_init, F_InvalidTerms_init⟩ := DefY.funS (y := dq_InvalidTerms_init) rfl rfl (c.seen 13 (y := dq_InvalidTerms_init) rfl).1 (c.seen 13 (y := dq_InvalidTerms_init) rfl).2 (xb_at y0 17 _ rfl)
  obtain ⟨fd_InvalidText_init, F_InvalidText_init⟩ := DefY.funS (y := dq_InvalidText_init) rfl rfl (c.seen 14 (y := dq_InvalidText_init) rfl).1 (c.seen 14 (y := dq_InvalidText_init) rfl).2 (xb_at y1 0 _ rfl)
  obtain ⟨fd_InvalidEvent_init, F_InvalidEvent_init⟩ := DefY.funS (y := dq_InvalidEvent_init) rfl rfl (c.seen 15 (y := dq_InvalidEvent_init) rfl).1 (c.seen 15 (y := dq_InvalidEvent_init) rfl).2 (xb_at y0 5 _ rfl)
  obtain ⟨fd_InvalidFault_init, F_InvalidFault_init⟩ := DefY.funS (y := dq_InvalidFault_init) rfl rfl (c.seen 16 (y := dq_InvalidFault_init) rfl).1 (c.seen 16 (y := dq_InvalidFault_init) rfl).2 (xb_at y0 8 _ rfl)
  obtain ⟨fd_InvalidSeen_init, F_InvalidSeen_init⟩ := DefY.funS (y := dq_InvalidSeen_init) rfl rfl (c.seen 17 (y := dq_InvalidSeen_init) rfl).1 (c.seen 17 (y := dq_InvalidSeen_init) rfl).2 (xb_at y0 14 _ rfl)
  obtain ⟨fd_InvalidCommand_init, F_InvalidCommand_init⟩ := DefY.funS (y := dq_InvalidCommand_init) rfl rfl (c.seen 18 (y := dq_InvalidCommand_init) rfl).1 (c.seen 18 (y := dq_InvalidCommand_init) rfl).2 (xb_at y0 2 _ rfl)
  obtain ⟨fd_Refused_init, F_Refused_init⟩ := DefY.funS (y := dq_Refused_init) rfl rfl (c.seen 19 (y := dq_Refused_init) rfl).1 (c.seen 19 (y := dq_Refused_init) rfl).2 (xb_at y1 9 _ rfl)
  obtain ⟨fd_NoRow_init, F_NoRow_init⟩ := DefY.funS (y := dq_NoRow_init) rfl rfl (c.seen 20 (y := dq_NoRow_init) rfl).1 (c.seen 20 (y := dq_NoRow_init) rfl).2 (xb_at y1 6 _ rfl)
  letI : HasW K := ⟨w, []⟩
  let T : Tx P K mg w := {
    hww := rfl
    f_IndexError := He.free_ok X G (c.fact 0 (f := .free "IndexError") rfl)
    f_KeyError := He.free_ok X G (c.fact 1 (f := .free "KeyError") rfl)
    f_ValueError := He.free_ok X G (c.fact 2 (f := .free "ValueError") rfl)
    f_abs := He.free_ok X G (c.fact 3 (f := .free "abs") rfl)
    f_int := He.free_ok X G (c.fact 4 (f := .free "int") rfl)
    f_isinstance := He.free_ok X G (c.fact 5 (f := .free "isinstance") rfl)
    f_len := He.free_ok X G (c.fact 6 (f := .free "len") rfl)
    f_range := He.free_ok X G (c.fact 7 (f := .free "range") rfl)
    f_repr := He.free_ok X G (c.fact 8 (f := .free "repr") rfl)
    f_super := He.free_ok X G (c.fact 9 (f := .free "super") rfl)
    f_tuple := He.free_ok X G (c.fact 10 (f := .free "tuple") rfl)
    g_CardError := He.glo_ok X G (c.fact 11 (f := .glo "CardError") rfl)
    g_InvalidCommand := He.glo_ok X G (c.fact 12 (f := .glo "InvalidCommand") rfl)
    g_InvalidEvent := He.glo_ok X G (c.fact 13 (f := .glo "InvalidEvent") rfl)
    g_InvalidFault := He.glo_ok X G (c.fact 14 (f := .glo "InvalidFault") rfl)
    g_InvalidRow := He.glo_ok X G (c.fact 15 (f := .glo "InvalidRow") rfl)
    g_InvalidSeen := He.glo_ok X G (c.fact 16 (f := .glo "InvalidSeen") rfl)
    g_InvalidTerms := He.glo_ok X G (c.fact 17 (f := .glo "InvalidTerms") rfl)
    g_InvalidText := He.glo_ok X G (c.fact 18 (f := .glo "InvalidText") rfl)
    g_InvalidTool := He.glo_ok X G (c.fact 19 (f := .glo "InvalidTool") rfl)
    g_NoRow := He.glo_ok X G (c.fact 20 (f := .glo "NoRow") rfl)
    g_Refused := He.glo_ok X G (c.fact 21 (f := .glo "Refused") rfl)
    g_law_deal := He.glo_ok X G (c.fact 22 (f := .glo "_law_deal") rfl)
    g_law_draw := He.glo_ok X G (c.fact 23 (f := .glo "_law_draw") rfl)
    g_law_pick := He.glo_ok X G (c.fact 24 (f := .glo "_law_pick") rfl)
    g_law_value_0 := He.glo_ok X G (c.fact 25 (f := .glo "_law_value") rfl)
    g_law_value_1 := He.glo_ok X G (c.fact 26 (f := .glo "_law_value") rfl)
    g_law_value_2 := He.glo_ok X G (c.fact 27 (f := .glo "_law_value") rfl)
    g_law_value_3 := He.glo_ok X G (c.fact 28 (f := .glo "_law_value") rfl)
    g_law_value := He.glo_ok X G (c.fact 29 (f := .glo "_law_value") rfl)
    g_law_sorts := He.glo_ok X G (c.fact 30 (f := .glo "_law_sorts") rfl)
    g_law_kept := He.glo_ok X G (c.fact 31 (f := .glo "_law_kept") rfl)
    g_law := He.glo_ok X G (c.fact 32 (f := .glo "law") rfl)
    xs_InvalidCommand := supcB_ok (xb_at y0 0 _ rfl)
    xi_InvalidCommand := iniB_ok (xb_at y0 1 _ rfl)
    xd_InvalidCommand := id (xb_at y0 2 _ rfl)
    xs_InvalidEvent := supcB_ok (xb_at y0 3 _ rfl)
    xi_InvalidEvent := iniB_ok (xb_at y0 4 _ rfl)
    xd_InvalidEvent := id (xb_at y0 5 _ rfl)
    xs_InvalidFault := supcB_ok (xb_at y0 6 _ rfl)
    xi_InvalidFault := iniB_ok (xb_at y0 7 _ rfl)
    xd_InvalidFault := id (xb_at y0 8 _ rfl)
    xs_InvalidRow := supcB_ok (xb_at y0 9 _ rfl)
    xi_InvalidRow := iniB_ok (xb_at y0 10 _ rfl)
    xd_InvalidRow := id (xb_at y0 11 _ rfl)
    xs_InvalidSeen := supcB_ok (xb_at y0 12 _ rfl)
    xi_InvalidSeen := iniB_ok (xb_at y0 13 _ rfl)
    xd_InvalidSeen := id (xb_at y0 14 _ rfl)
    xs_InvalidTerms := supcB_ok (xb_at y0 15 _ rfl)
    xi_InvalidTerms := iniB_ok (xb_at y0 16 _ rfl)
    xd_InvalidTerms := id (xb_at y0 17 _ rfl)
    xs_InvalidText := supcB_ok (xb_at y0 18 _ rfl)
    xi_InvalidText := iniB_ok (xb_at y0 19 _ rfl)
    xd_InvalidText := id (xb_at y1 0 _ rfl)
    xs_InvalidTool := supcB_ok (xb_at y1 1 _ rfl)
    xi_InvalidTool := iniB_ok (xb_at y1 2 _ rfl)
    xd_InvalidTool := id (xb_at y1 3 _ rfl)
    xs_NoRow := supcIB_ok (xb_at y1 4 _ rfl)
    xi_NoRow := iniB_ok (xb_at y1 5 _ rfl)
    xd_NoRow := id (xb_at y1 6 _ rfl)
    xs_Refused := supcB_ok (xb_at y1 7 _ rfl)
    xi_Refused := iniB_ok (xb_at y1 8 _ rfl)
    xd_Refused := id (xb_at y1 9 _ rfl)
    xn_InvalidEvent := noaB_ok (xb_at y1 10 _ rfl)
    xn_InvalidRow := noaB_ok (xb_at y1 11 _ rfl)
    xn_InvalidSeen := noaB_ok (xb_at y1 12 _ rfl)
    xn_InvalidTerms := noaB_ok (xb_at y1 13 _ rfl)
    xn_InvalidText := noaB_ok (xb_at y1 14 _ rfl)
    xn_InvalidTool := noaB_ok (xb_at y1 15 _ rfl)
    xn_NoRow := noaB_ok (xb_at y1 16 _ rfl)
    xn_Refused := noaB_ok (xb_at y1 17 _ rfl)
    xe_InvalidCommand := excB_ok (xb_at y1 18 _ rfl)
    xe_InvalidEvent := excB_ok (xb_at y1 19 _ rfl)
    xe_InvalidFault := excB_ok (xb_at y2 0 _ rfl)
    xe_InvalidRow := excB_ok (xb_at y2 1 _ rfl)
    xe_InvalidSeen := excB_ok (xb_at y2 2 _ rfl)
    xe_InvalidTerms := excB_ok (xb_at y2 3 _ rfl)
    xe_InvalidText := excB_ok (xb_at y2 4 _ rfl)
    xe_InvalidTool := excB_ok (xb_at y2 5 _ rfl)
    xe_NoRow := excB_ok (xb_at y2 6 _ rfl)
    xe_Refused := excB_ok (xb_at y2 7 _ rfl)
    xa_InvalidCommand_KeyError_IndexError := of_decide_eq_true (xb_at y2 8 _ rfl)
    xa_InvalidEvent_KeyError_IndexError := of_decide_eq_true (xb_at y2 9 _ rfl)
    xa_InvalidFault_KeyError_IndexError := of_decide_eq_true (xb_at y2 10 _ rfl)
    xa_InvalidRow_KeyError_IndexError := of_decide_eq_true (xb_at y2 11 _ rfl)
    xa_InvalidSeen_KeyError_IndexError := of_decide_eq_true (xb_at y2 12 _ rfl)
    xa_InvalidTerms_KeyError_IndexError := of_decide_eq_true (xb_at y2 13 _ rfl)
    xa_InvalidText_KeyError_IndexError := of_decide_eq_true (xb_at y2 14 _ rfl)
    xa_InvalidTool_KeyError_IndexError := of_decide_eq_true (xb_at y2 15 _ rfl)
    xa_NoRow_KeyError_IndexError := of_decide_eq_true (xb_at y2 16 _ rfl)
    xa_Refused_KeyError_IndexError := of_decide_eq_true (xb_at y2 17 _ rfl)
    xt_InvalidCommand_CardError := of_decide_eq_true (xb_at y2 18 _ rfl)
    xt_InvalidCommand_IndexError := of_decide_eq_true (xb_at y2 19 _ rfl)
    xt_InvalidCommand_InvalidCommand := of_decide_eq_true (xb_at y3 0 _ rfl)
    xt_InvalidCommand_InvalidEvent := of_decide_eq_true (xb_at y3 1 _ rfl)
    xt_InvalidCommand_InvalidFault := of_decide_eq_true (xb_at y3 2 _ rfl)
    xt_InvalidCommand_InvalidRow := of_decide_eq_true (xb_at y3 3 _ rfl)
    xt_InvalidCommand_InvalidSeen := of_decide_eq_true (xb_at y3 4 _ rfl)
    xt_InvalidCommand_InvalidTerms := of_decide_eq_true (xb_at y3 5 _ rfl)
    xt_InvalidCommand_InvalidText := of_decide_eq_true (xb_at y3 6 _ rfl)
    xt_InvalidCommand_InvalidTool := of_decide_eq_true (xb_at y3 7 _ rfl)
    xt_InvalidCommand_KeyError := of_decide_eq_true (xb_at y3 8 _ rfl)
    xt_InvalidCommand_Refused := of_decide_eq_true (xb_at y3 9 _ rfl)
    xt_InvalidCommand_ValueError := of_decide_eq_true (xb_at y3 10 _ rfl)
    xt_InvalidEvent_CardError := of_decide_eq_true (xb_at y3 11 _ rfl)
    xt_InvalidEvent_IndexError := of_decide_eq_true (xb_at y3 12 _ rfl)
    xt_InvalidEvent_InvalidCommand := of_decide_eq_true (xb_at y3 13 _ rfl)
    xt_InvalidEvent_InvalidEvent := of_decide_eq_true (xb_at y3 14 _ rfl)
    xt_InvalidEvent_InvalidFault := of_decide_eq_true (xb_at y3 15 _ rfl)
    xt_InvalidEvent_InvalidRow := of_decide_eq_true (xb_at y3 16 _ rfl)
    xt_InvalidEvent_InvalidSeen := of_decide_eq_true (xb_at y3 17 _ rfl)
    xt_InvalidEvent_InvalidTerms := of_decide_eq_true (xb_at y3 18 _ rfl)
    xt_InvalidEvent_InvalidText := of_decide_eq_true (xb_at y3 19 _ rfl)
    xt_InvalidEvent_InvalidTool := of_decide_eq_true (xb_at y4 0 _ rfl)
    xt_InvalidEvent_KeyError := of_decide_eq_true (xb_at y4 1 _ rfl)
    xt_InvalidEvent_Refused := of_decide_eq_true (xb_at y4 2 _ rfl)
    xt_InvalidEvent_ValueError := of_decide_eq_true (xb_at y4 3 _ rfl)
    xt_InvalidFault_CardError := of_decide_eq_true (xb_at y4 4 _ rfl)
    xt_InvalidFault_IndexError := of_decide_eq_true (xb_at y4 5 _ rfl)
    xt_InvalidFault_InvalidCommand := of_decide_eq_true (xb_at y4 6 _ rfl)
    xt_InvalidFault_InvalidEvent := of_decide_eq_true (xb_at y4 7 _ rfl)
    xt_InvalidFault_InvalidFault := of_decide_eq_true (xb_at y4 8 _ rfl)
    xt_InvalidFault_InvalidRow := of_decide_eq_true (xb_at y4 9 _ rfl)
    xt_InvalidFault_InvalidSeen := of_decide_eq_true (xb_at y4 10 _ rfl)
    xt_InvalidFault_InvalidTerms := of_decide_eq_true (xb_at y4 11 _ rfl)
    xt_InvalidFault_InvalidText := of_decide_eq_true (xb_at y4 12 _ rfl)
    xt_InvalidFault_InvalidTool := of_decide_eq_true (xb_at y4 13 _ rfl)
    xt_InvalidFault_KeyError := of_decide_eq_true (xb_at y4 14 _ rfl)
    xt_InvalidFault_Refused := of_decide_eq_true (xb_at y4 15 _ rfl)
    xt_InvalidFault_ValueError := of_decide_eq_true (xb_at y4 16 _ rfl)
    xt_InvalidRow_CardError := of_decide_eq_true (xb_at y4 17 _ rfl)
    xt_InvalidRow_IndexError := of_decide_eq_true (xb_at y4 18 _ rfl)
    xt_InvalidRow_InvalidCommand := of_decide_eq_true (xb_at y4 19 _ rfl)
    xt_InvalidRow_InvalidEvent := of_decide_eq_true (xb_at y5 0 _ rfl)
    xt_InvalidRow_InvalidFault := of_decide_eq_true (xb_at y5 1 _ rfl)
    xt_InvalidRow_InvalidRow := of_decide_eq_true (xb_at y5 2 _ rfl)
    xt_InvalidRow_InvalidSeen := of_decide_eq_true (xb_at y5 3 _ rfl)
    xt_InvalidRow_InvalidTerms := of_decide_eq_true (xb_at y5 4 _ rfl)
    xt_InvalidRow_InvalidText := of_decide_eq_true (xb_at y5 5 _ rfl)
    xt_InvalidRow_InvalidTool := of_decide_eq_true (xb_at y5 6 _ rfl)
    xt_InvalidRow_KeyError := of_decide_eq_true (xb_at y5 7 _ rfl)
    xt_InvalidRow_Refused := of_decide_eq_true (xb_at y5 8 _ rfl)
    xt_InvalidRow_ValueError := of_decide_eq_true (xb_at y5 9 _ rfl)
    xt_InvalidSeen_CardError := of_decide_eq_true (xb_at y5 10 _ rfl)
    xt_InvalidSeen_IndexError := of_decide_eq_true (xb_at y5 11 _ rfl)
    xt_InvalidSeen_InvalidCommand := of_decide_eq_true (xb_at y5 12 _ rfl)
    xt_InvalidSeen_InvalidEvent := of_decide_eq_true (xb_at y5 13 _ rfl)
    xt_InvalidSeen_InvalidFault := of_decide_eq_true (xb_at y5 14 _ rfl)
    xt_InvalidSeen_InvalidRow := of_decide_eq_true (xb_at y5 15 _ rfl)
    xt_InvalidSeen_InvalidSeen := of_decide_eq_true (xb_at y5 16 _ rfl)
    xt_InvalidSeen_InvalidTerms := of_decide_eq_true (xb_at y5 17 _ rfl)
    xt_InvalidSeen_InvalidText := of_decide_eq_true (xb_at y5 18 _ rfl)
    xt_InvalidSeen_InvalidTool := of_decide_eq_true (xb_at y5 19 _ rfl)
    xt_InvalidSeen_KeyError := of_decide_eq_true (xb_at y6 0 _ rfl)
    xt_InvalidSeen_Refused := of_decide_eq_true (xb_at y6 1 _ rfl)
    xt_InvalidSeen_ValueError := of_decide_eq_true (xb_at y6 2 _ rfl)
    xt_InvalidTerms_CardError := of_decide_eq_true (xb_at y6 3 _ rfl)
    xt_InvalidTerms_IndexError := of_decide_eq_true (xb_at y6 4 _ rfl)
    xt_InvalidTerms_InvalidCommand := of_decide_eq_true (xb_at y6 5 _ rfl)
    xt_InvalidTerms_InvalidEvent := of_decide_eq_true (xb_at y6 6 _ rfl)
    xt_InvalidTerms_InvalidFault := of_decide_eq_true (xb_at y6 7 _ rfl)
    xt_InvalidTerms_InvalidRow := of_decide_eq_true (xb_at y6 8 _ rfl)
    xt_InvalidTerms_InvalidSeen := of_decide_eq_true (xb_at y6 9 _ rfl)
    xt_InvalidTerms_InvalidTerms := of_decide_eq_true (xb_at y6 10 _ rfl)
    xt_InvalidTerms_InvalidText := of_decide_eq_true (xb_at y6 11 _ rfl)
    xt_InvalidTerms_InvalidTool := of_decide_eq_true (xb_at y6 12 _ rfl)
    xt_InvalidTerms_KeyError := of_decide_eq_true (xb_at y6 13 _ rfl)
    xt_InvalidTerms_Refused := of_decide_eq_true (xb_at y6 14 _ rfl)
    xt_InvalidTerms_ValueError := of_decide_eq_true (xb_at y6 15 _ rfl)
    xt_InvalidText_CardError := of_decide_eq_true (xb_at y6 16 _ rfl)
    xt_InvalidText_IndexError := of_decide_eq_true (xb_at y6 17 _ rfl)
    xt_InvalidText_InvalidCommand := of_decide_eq_true (xb_at y6 18 _ rfl)
    xt_InvalidText_InvalidEvent := of_decide_eq_true (xb_at y6 19 _ rfl)
    xt_InvalidText_InvalidFault := of_decide_eq_true (xb_at y7 0 _ rfl)
    xt_InvalidText_InvalidRow := of_decide_eq_true (xb_at y7 1 _ rfl)
    xt_InvalidText_InvalidSeen := of_decide_eq_true (xb_at y7 2 _ rfl)
    xt_InvalidText_InvalidTerms := of_decide_eq_true (xb_at y7 3 _ rfl)
    xt_InvalidText_InvalidText := of_decide_eq_true (xb_at y7 4 _ rfl)
    xt_InvalidText_InvalidTool := of_decide_eq_true (xb_at y7 5 _ rfl)
    xt_InvalidText_KeyError := of_decide_eq_true (xb_at y7 6 _ rfl)
    xt_InvalidText_Refused := of_decide_eq_true (xb_at y7 7 _ rfl)
    xt_InvalidText_ValueError := of_decide_eq_true (xb_at y7 8 _ rfl)
    xt_InvalidTool_CardError := of_decide_eq_true (xb_at y7 9 _ rfl)
    xt_InvalidTool_IndexError := of_decide_eq_true (xb_at y7 10 _ rfl)
    xt_InvalidTool_InvalidCommand := of_decide_eq_true (xb_at y7 11 _ rfl)
    xt_InvalidTool_InvalidEvent := of_decide_eq_true (xb_at y7 12 _ rfl)
    xt_InvalidTool_InvalidFault := of_decide_eq_true (xb_at y7 13 _ rfl)
    xt_InvalidTool_InvalidRow := of_decide_eq_true (xb_at y7 14 _ rfl)
    xt_InvalidTool_InvalidSeen := of_decide_eq_true (xb_at y7 15 _ rfl)
    xt_InvalidTool_InvalidTerms := of_decide_eq_true (xb_at y7 16 _ rfl)
    xt_InvalidTool_InvalidText := of_decide_eq_true (xb_at y7 17 _ rfl)
    xt_InvalidTool_InvalidTool := of_decide_eq_true (xb_at y7 18 _ rfl)
    xt_InvalidTool_KeyError := of_decide_eq_true (xb_at y7 19 _ rfl)
    xt_InvalidTool_Refused := of_decide_eq_true (xb_at y8 0 _ rfl)
    xt_InvalidTool_ValueError := of_decide_eq_true (xb_at y8 1 _ rfl)
    xt_NoRow_CardError := of_decide_eq_true (xb_at y8 2 _ rfl)
    xt_NoRow_IndexError := of_decide_eq_true (xb_at y8 3 _ rfl)
    xt_NoRow_KeyError := of_decide_eq_true (xb_at y8 4 _ rfl)
    xt_NoRow_ValueError := of_decide_eq_true (xb_at y8 5 _ rfl)
    xt_Refused_CardError := of_decide_eq_true (xb_at y8 6 _ rfl)
    xt_Refused_IndexError := of_decide_eq_true (xb_at y8 7 _ rfl)
    xt_Refused_InvalidCommand := of_decide_eq_true (xb_at y8 8 _ rfl)
    xt_Refused_InvalidEvent := of_decide_eq_true (xb_at y8 9 _ rfl)
    xt_Refused_InvalidFault := of_decide_eq_true (xb_at y8 10 _ rfl)
    xt_Refused_InvalidRow := of_decide_eq_true (xb_at y8 11 _ rfl)
    xt_Refused_InvalidSeen := of_decide_eq_true (xb_at y8 12 _ rfl)
    xt_Refused_InvalidTerms := of_decide_eq_true (xb_at y8 13 _ rfl)
    xt_Refused_InvalidText := of_decide_eq_true (xb_at y8 14 _ rfl)
    xt_Refused_InvalidTool := of_decide_eq_true (xb_at y8 15 _ rfl)
    xt_Refused_KeyError := of_decide_eq_true (xb_at y8 16 _ rfl)
    xt_Refused_Refused := of_decide_eq_true (xb_at y8 17 _ rfl)
    xt_Refused_ValueError := of_decide_eq_true (xb_at y8 18 _ rfl)
    fd_law_deal := fd_law_deal
    F_law_deal := F_law_deal
    fd_law_draw := fd_law_draw
    F_law_draw := F_law_draw
    fd_law_pick := fd_law_pick
    F_law_pick := F_law_pick
    fd_law_value_0 := fd_law_value_0
    F_law_value_0 := F_law_value_0
    fd_law_value_1 := fd_law_value_1
    F_law_value_1 := F_law_value_1
    fd_law_value_2 := fd_law_value_2
    F_law_value_2 := F_law_value_2
    fd_law_value_3 := fd_law_value_3
    F_law_value_3 := F_law_value_3
    fd_law_value := fd_law_value
    F_law_value := F_law_value
    fd_law_sorts := fd_law_sorts
    F_law_sorts := F_law_sorts
    fd_law_kept := fd_law_kept
    F_law_kept := F_law_kept
    fd_law := fd_law
    F_law := F_law
    fd_InvalidRow_init := fd_InvalidRow_init
    F_InvalidRow_init := F_InvalidRow_init
    fd_InvalidTool_init := fd_InvalidTool_init
    F_InvalidTool_init := F_InvalidTool_init
    fd_InvalidTerms_init := fd_InvalidTerms_init
    F_InvalidTerms_init := F_InvalidTerms_init
    fd_InvalidText_init := fd_InvalidText_init
    F_InvalidText_init := F_InvalidText_init
    fd_InvalidEvent_init := fd_InvalidEvent_init
    F_InvalidEvent_init := F_InvalidEvent_init
    fd_InvalidFault_init := fd_InvalidFault_init
    F_InvalidFault_init := F_InvalidFault_init
    fd_InvalidSeen_init := fd_InvalidSeen_init
    F_InvalidSeen_init := F_InvalidSeen_init
    fd_InvalidCommand_init := fd_InvalidCommand_init
    F_InvalidCommand_init := F_InvalidCommand_init
    fd_Refused_init := fd_Refused_init
    F_Refused_init := F_Refused_init
    fd_NoRow_init := fd_NoRow_init
    F_NoRow_init := F_NoRow_init
    hP := hP
    }
  have e := hfa.symm.trans (He.glo_ok X G (c.fact 32 (f := .glo "law") rfl))
  cases e
  have b := FunD.bindsA (ps := ["_law_script"]) F_law fun _ _ _ _ _ _ us hl => match us, hl with | [_], _ => rfl
  exact ⟨fd_law, fun s v => b s [v] rfl, fun base _ _ => ok_law T⟩
end DX.K01
open PySem PySem.W PySem.Calls PyProof.Rows
theorem PySem.Challenge.cw_deskcards_k01_errors_and_what_they_keep_holds : PySem.Challenge.rw_deskcards_k01_errors_and_what_they_keep.Holds := by
  w_on; o_law
  refine HandSHeadRun.head_any (r := OpenLaw.row PySem.Challenge.rw_deskcards_k01_errors_and_what_they_keep) (q := view (OpenLaw.row PySem.Challenge.rw_deskcards_k01_errors_and_what_they_keep).prog [19]) (H := DX.K01.hk) (ob := DX.K01.ob) (M := 20000) (loose := DX.K01.names) (d := HandSHeadRun.topDef (OpenLaw.row PySem.Challenge.rw_deskcards_k01_errors_and_what_they_keep).prog 19) (kwd := []) DX.K01.ob_eq
    (by kernel_rfl) (fun s => by kernel_rfl) DX.K01.run (by kernel_rfl) (by kernel_rfl) (by kernel_rfl) (by rfl) (by first | assumption | decide +kernel) (by decide +kernel) ⟨rfl, rfl, rfl, rfl, rfl, by decide +kernel⟩ ?hw ?hc
  case hw => w_witness2
  case hc =>
    refine DK.walk_G (l := PySem.Challenge.rw_deskcards_k01_errors_and_what_they_keep) (n := 63) (k := 7) (xn := "_law_script") (CX := L2.CX0) rfl (by decide) (by kernel_rfl) ⟨rfl, by decide, by decide⟩ ?F (fun _ _ _ _ z => z)
    intro w mg fa h Y G hmg0
    obtain ⟨K, KX, c⟩ := Y
    have hmg : mg ("law" : PySem.Str) = some (.ref fa) := by
      have e : (HandSHeadRun.topDef (OpenLaw.row PySem.Challenge.rw_deskcards_k01_errors_and_what_they_keep).prog 19).name = ("law" : PySem.Str) := by kernel_rfl
      rw [← e]
      exact hmg0
    obtain ⟨fd, hb, hF⟩ := DX.K01.facts (P := (PySem.Challenge.rw_deskcards_k01_errors_and_what_they_keep).prog) (w := w) KX G hmg c ⟨by kernel_rfl, by kernel_rfl⟩
    exact ⟨K, fd, @DX.K01.sp_law K ⟨w, []⟩, KX, hb, fun H a ns hl hS => @DX.law_spF K ⟨w, []⟩ _ _ _ _ (DX.K01.law_ok ns hl) hS rfl, hF⟩
