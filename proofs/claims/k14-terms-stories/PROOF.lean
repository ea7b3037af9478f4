import PyProof.Rows.All
import Wide.All
import OpenK.AllK
import Wide.FinOn
import KE.KStateDown
import HandS.ForMost
import HandS.HeadHook2
import KE.KeyNested
import HandS.Lambda
import HandS.IsInst
import HandS.TupAny
import HandS.TupMul
import HandS.Style
import HandS.RaiseMore
import HandS.FStr
import HandS.Steps
import HandS.Set
import HandS.SetBool
import HandS.Codes
import HandS.Star
import HandS.DictComp
import HandS.Flow
import KE.GoesEnum
import HandS.Head0
import HandS.Head1
import HandS.Head2
import HandS.HeadEnd
import HandS.HeadHook1
import PyProof.ReprRoads
import PyProof.StrLawsRepr
import HandS.Deep
import KE.KAssignIn
import PyProof.P3In
import HandS.More
import HandS.SlotsOwn
import PyProof.CallStr
import PyProof.Rows.Range3
import KE.KUnpack
import PyProof.CollectIter
import HandS.Exc
import HandS.ClsMeth
import HandS.ExcValue
import HandS.HeadHook3
import PySem.Challenge.RW_deskcards_k14_terms_and_stories
import HandS.Property
import HandS.Small
import PyProof.InstNe
import PyProof.Rows.CountFlat
import PyProof.FactsAll.str_7
import PyProof.MeetsStr3
import KE.KDictDisplayH
import HandS.MakeKw
import HandS.MakeKwOnly
import HandS.Strs
import HandS.Conv
import HandS.ReplaceLit
import HandS.Dict
import HandS.SetKeys
import PyProof.DictUpdate
import OpenK.KWalk
set_option Elab.async false
set_option linter.all false
set_option maxRecDepth 100000
set_option maxHeartbeats 0
namespace DK
open PySem PySem.Spec L2
inductive D where
  | non | bl (b : Bool) | int (i : Int) | str (s : Str) | tup (xs : List D) | lst (xs : List D)
  | obj (c : Str) (ns : List Str) (xs : List D) | ty (n : String) | cls (c : Str) | scr (ns : List Int)
abbrev SB : Nat := 90000
abbrev LB : Nat := 100000
def sOk (s : Str) : Prop := s.length ≤ SB ∧ s.cps.all (· < 0x110000) = true
structure ClsOk (K : PySem.W.Frag) (C : Addr) : Prop where
  cl : Cls K C
  ha : PySem.W.findIn K (.ref C) "__class__" = some (some (.builtin "object.__class__"))
  hn : PySem.W.specialIn K (.builtin "object.__class__") "__get__" = some (some (.builtin "getset_descriptor.__get__"))
  htk : PySem.W.takesIn K (.builtin "object.__class__") = some true
  hm : PySem.W.mroIn K C (.type "object") = some true
  no : ∀ T : String, T ∈ ["int", "bool", "str", "list", "tuple"] → PySem.W.kitOne K (.ref C) (.type T) = some false
section
variable (K : PySem.W.Frag) (G : Hp)
mutual
def Rep : D → V → Prop
  | .non, v => v = .non
  | .bl b, v => v = .bl b
  | .int i, v => v = .int i
  | .str s, v => v = .str s ∧ sOk s
  | .tup xs, v => xs.length ≤ LB ∧ ∃ a vs, v = .ref a ∧ SqT K G a vs ∧ RepL xs vs
  | .lst xs, v => xs.length ≤ LB ∧ ∃ a vs, v = .ref a ∧ G a = some (.lst vs) ∧ RepL xs vs
  | .obj c ns xs, v => ClsOk K (He.ga K c) ∧ ∃ a dx vs, v = .ref a ∧ G a = some (.ins (He.ga K c) dx (ns.zip vs)) ∧ ns.length = xs.length ∧ RepL xs vs
  | .ty n, v => v = .ty n
  | .cls c, v => v = .ref (He.ga K c)
  | .scr ns, v => ∃ a, v = .ref a ∧ SqL K G a (ns.map V.int)
def RepL : List D → List V → Prop
  | [], vs => vs = []
  | d :: ds, vs => ∃ v r, vs = v :: r ∧ Rep d v ∧ RepL ds r
end
end
section
variable {K : PySem.W.Frag} {G G' : Hp}
theorem same_sql {a : Addr} {xs : List V} (e : Same G G') (h : SqL K G a xs) : SqL K G' a xs := by
  rcases h with (h | ⟨o, h⟩) | h
  · exact .inl (.inl (e _ _ h))
  · exact .inl (.inr ⟨o, e _ _ h⟩)
  · exact .inr h
theorem same_sqt {a : Addr} {xs : List V} (e : Same G G') (h : SqT K G a xs) : SqT K G' a xs := by
  rcases h with (h | ⟨o, h⟩) | h
  · exact .inl (.inl (e _ _ h))
  · exact .inl (.inr ⟨o, e _ _ h⟩)
  · exact .inr h
mutual
theorem Rep.mono (e : Same G G') : ∀ (d : D) (v : V), Rep K G d v → Rep K G' d v
  | .non, _, h => h
  | .bl _, _, h => h
  | .int _, _, h => h
  | .str _, _, h => h
  | .tup xs, _, ⟨z, a, vs, ev, h, r⟩ => ⟨z, a, vs, ev, same_sqt e h, RepL.mono e xs vs r⟩
  | .lst xs, _, ⟨z, a, vs, ev, h, r⟩ => ⟨z, a, vs, ev, e _ _ h, RepL.mono e xs vs r⟩
  | .obj _ _ xs, _, ⟨k, a, dx, vs, ev, h, n, r⟩ => ⟨k, a, dx, vs, ev, e _ _ h, n, RepL.mono e xs vs r⟩
  | .ty _, _, h => h
  | .cls _, _, h => h
  | .scr _, _, ⟨a, e, h⟩ => ⟨a, e, same_sql ‹_› h⟩
theorem RepL.mono (e : Same G G') : ∀ (ds : List D) (vs : List V), RepL K G ds vs → RepL K G' ds vs
  | [], _, h => h
  | d :: ds, _, ⟨v, r, ev, h1, h2⟩ => ⟨v, r, ev, Rep.mono e d v h1, RepL.mono e ds r h2⟩
end
theorem RepL.length : ∀ {ds : List D} {vs : List V}, RepL K G ds vs → vs.length = ds.length
  | [], _, h => by rw [h]; rfl
  | _ :: _, _, ⟨_, _, e, _, h⟩ => by rw [e, List.length_cons, List.length_cons, RepL.length h]
theorem RepL.nil : RepL K G [] [] := rfl
theorem RepL.cons {d : D} {ds : List D} {v : V} {vs : List V} (h : Rep K G d v) (t : RepL K G ds vs) : RepL K G (d :: ds) (v :: vs) := ⟨v, vs, rfl, h, t⟩
theorem RepL.append : ∀ {ds es : List D} {vs us : List V}, RepL K G ds vs → RepL K G es us → RepL K G (ds ++ es) (vs ++ us)
  | [], _, _, _, h, k => by rw [show _ = [] from h]; exact k
  | _ :: _, _, _, _, ⟨v, r, e, h1, h2⟩, k => by rw [e]; exact ⟨v, r ++ _, rfl, h1, RepL.append h2 k⟩
theorem RepL.get : ∀ {ds : List D} {vs : List V} {i : Nat} {d : D}, RepL K G ds vs → ds[i]? = some d → ∃ v, vs[i]? = some v ∧ Rep K G d v
  | [], _, _, _, _, e => by simp at e
  | _ :: _, _, 0, _, ⟨v, r, ev, h1, _⟩, e => by
    subst ev
    simp at e
    subst e
    exact ⟨v, rfl, h1⟩
  | _ :: _, _, i + 1, d, ⟨v, r, ev, _, h2⟩, e => by
    subst ev
    obtain ⟨u, q1, q2⟩ := RepL.get (i := i) (d := d) h2 (by simpa using e)
    exact ⟨u, by simpa using q1, q2⟩
theorem RepL.take : ∀ {ds : List D} {vs : List V} (n : Nat), RepL K G ds vs → RepL K G (ds.take n) (vs.take n)
  | [], _, n, h => by
    rw [show _ = [] from h]
    simp [RepL]
  | _ :: _, _, 0, ⟨v, r, ev, _, _⟩ => rfl
  | _ :: _, _, n + 1, ⟨v, r, ev, h1, h2⟩ => by
    subst ev
    exact ⟨v, _, rfl, h1, RepL.take n h2⟩
theorem RepL.drop : ∀ {ds : List D} {vs : List V} (n : Nat), RepL K G ds vs → RepL K G (ds.drop n) (vs.drop n)
  | [], _, n, h => by
    rw [show _ = [] from h]
    simp [RepL]
  | _ :: _, _, 0, h => h
  | _ :: _, _, n + 1, ⟨v, r, ev, h1, h2⟩ => by
    subst ev
    exact RepL.drop n h2
theorem RepL.reverse : ∀ {ds : List D} {vs : List V}, RepL K G ds vs → RepL K G ds.reverse vs.reverse
  | [], _, h => by rw [show _ = [] from h]; rfl
  | d :: ds, _, ⟨v, r, ev, h1, h2⟩ => by
    subst ev
    rw [List.reverse_cons, List.reverse_cons]
    exact RepL.append (RepL.reverse h2) (RepL.cons h1 RepL.nil)
theorem RepL.strs : ∀ {ss : List Str} {vs : List V}, RepL K G (ss.map D.str) vs → vs = ss.map V.str ∧ ∀ s ∈ ss, sOk s
  | [], _, h => ⟨h, fun _ hs => by cases hs⟩
  | s :: ss, _, ⟨v, r, ev, ⟨h1, h1'⟩, h2⟩ => by
    obtain ⟨e, k⟩ := RepL.strs h2
    subst ev h1 e
    refine ⟨rfl, fun x hx => ?_⟩
    rcases List.mem_cons.mp hx with rfl | hx
    · exact h1'
    · exact k x hx
theorem RepL.ofStrs : ∀ {ss : List Str}, (∀ s ∈ ss, sOk s) → RepL K G (ss.map D.str) (ss.map V.str)
  | [], _ => rfl
  | s :: ss, h => ⟨.str s, _, rfl, ⟨rfl, h s (List.mem_cons_self)⟩, RepL.ofStrs fun x hx => h x (List.mem_cons_of_mem _ hx)⟩
theorem RepL.ofInts : ∀ {ns : List Int}, RepL K G (ns.map D.int) (ns.map V.int)
  | [] => rfl
  | n :: ns => ⟨.int n, _, rfl, rfl, RepL.ofInts⟩
theorem RepL.bls : ∀ {bs : List Bool} {vs : List V}, RepL K G (bs.map D.bl) vs → vs = bs.map V.bl
  | [], _, h => h
  | _ :: _, _, ⟨v, r, ev, h1, h2⟩ => by
    have e := RepL.bls h2
    subst ev e
    rw [show v = _ from h1]
    rfl
end
mutual
/-- data as a key of a dict, if it is one -/
def nkD : D → Option NestedKey
  | .non => some .none
  | .bl b => some (.num (if b = true then 1 else 0))
  | .int i => some (.num i)
  | .str s => some (.text s)
  | .tup xs => match nkDs xs with
    | some ks => some (.tup ks)
    | none => none
  | _ => none
def nkDs : List D → Option (List NestedKey)
  | [] => some []
  | x :: xs => match nkD x with
    | some k => match nkDs xs with
      | some ks => some (k :: ks)
      | none => none
    | none => none
end
def nkT : D → Option NestedKey
  | .tup xs => match nkDs xs with
    | some ks => if Nat.ble (NestedKey.tup ks).depth 8 = true then some (.tup ks) else none
    | none => none
  | _ => none
class HasW (K : PySem.W.Frag) where
  w : World
  ts : List (Addr × Str)
instance (priority := 10) noW {K : PySem.W.Frag} : HasW K := ⟨⟨fun _ _ => 0, { strHash := fun _ => 0, shareClass := fun _ => 0, mergeTok := fun t => t, idOf := fun _ => 0, idOfShared := fun _ _ => 0, followText := fun _ => false, idOfImm := fun _ => 0 }⟩, []⟩
def NdO (w : World) (a : Addr) (es : List (NestedKey × Addr × V)) : HO := .ext fun h => es.length ≤ sizeLine ∧ (a == sysModules) = false ∧ ∃ xs : List (NestedKey × Addr × Value), Paired (fun p q => p.1 = q.1 ∧ p.2.1 = q.2.1 ∧ RelV p.2.2 q.2.2) es xs ∧
  ∃ o ds ep, h.get? a = some o ∧ o.ExactDict ∧ o.data = .dict ds ep ∧ ds.toList = xs.map (fun x => (⟨x.1.hash w, .ref x.2.1, x.2.2⟩ : DictEntry)) ∧ (xs.map (·.1)).Nodup
inductive W where
  | val (d : D) | loc (j : Nat)
inductive MO where
  | lst (xs : List D) | frz (xs : List D) | lsW (ws : List W) | ins (c : Str) (fs : List (Str × W)) | dK (kvs : List (Key × D)) | scr (ns : List Int) | gone | raw (o : HO) | dW (kvs : List (Str × W)) | lkW (kvs : List (Str × W)) | dN (kvs : List (NestedKey × D × D)) | tupW (ws : List W)
abbrev Env' := List (Option W)
abbrev Mu := List MO
def W.below (n : Nat) : W → Bool
  | .val _ => true
  | .loc j => decide (j < n)
def MO.below (n : Nat) : MO → Bool
  | .lsW ws => ws.all (W.below n)
  | .ins _ fs => fs.all fun p => p.2.below n
  | .dW fs => fs.all fun p => p.2.below n
  | .lkW fs => fs.all fun p => p.2.below n
  | .tupW ws => ws.all (W.below n)
  | _ => true
section
variable (K : PySem.W.Frag) (G H : Hp) (as : List Addr)
def RepW : W → V → Prop
  | .val d, v => Rep K G d v
  | .loc j, v => ∃ a, as[j]? = some a ∧ v = .ref a
def RepWs : List W → List V → Prop
  | [], vs => vs = []
  | w :: ws, vs => ∃ v r, vs = v :: r ∧ RepW K G as w v ∧ RepWs ws r
def RepFs : List (Str × W) → List (Str × V) → Prop
  | [], vs => vs = []
  | (f, w) :: ws, vs => ∃ v r, vs = (f, v) :: r ∧ RepW K G as w v ∧ RepFs ws r
def RepK : List (Key × D) → List (Key × V) → Prop
  | [], vs => vs = []
  | (k, d) :: ks, vs => ∃ v r, vs = (k, v) :: r ∧ Rep K G d v ∧ RepK ks r
def RepN : List (NestedKey × D × D) → List (NestedKey × Addr × V) → Prop
  | [], es => es = []
  | (k, d, v) :: r, es => ∃ b y t, es = (k, b, y) :: t ∧ nkT d = some k ∧ Rep K G d (.ref b) ∧ Rep K G v y ∧ RepN r t
def kS (p : Str × V) : Key × V := (.inr p.1, p.2)
variable [HasW K]
def MOk (a : Addr) : MO → Prop
  | .lst xs => G a = none ∧ xs.length ≤ LB ∧ ∃ vs, H a = some (.lst vs) ∧ RepL K G xs vs
  | .frz xs => xs.length ≤ LB ∧ ∃ vs, G a = some (.lst vs) ∧ RepL K G xs vs
  | .lsW ws => G a = none ∧ ws.length ≤ LB ∧ ∃ vs, H a = some (.lst vs) ∧ RepWs K G as ws vs
  | .ins c fs => G a = none ∧ fs.length ≤ 100 ∧ ∃ dx vs, H a = some (.ins (He.ga K c) dx vs) ∧ RepFs K G as fs vs
  | .dK kvs => G a = none ∧ kvs.length ≤ LB ∧ ∃ vs, H a = some (.dK vs) ∧ RepK K G kvs vs
  | .scr ns => G a = none ∧ H a ≠ none ∧ SqL K H a (ns.map V.int)
  | .gone => H a ≠ none
  | .raw o => G a = none ∧ H a = some o
  | .dW fs => G a = none ∧ fs.length ≤ 100 ∧ ∃ vs : List (Str × V), H a = some (.dK (vs.map kS)) ∧ RepFs K G as fs vs
  | .lkW fs => fs.length ≤ 100 ∧ ∃ (o : Obj) (vs : List (Str × V)), G a = some (.frz o (.dK (vs.map kS))) ∧ RepFs K G as fs vs
  | .dN kvs => G a = none ∧ kvs.length ≤ LB ∧ ∃ es, H a = some (NdO (HasW.w K) a es) ∧ RepN K G kvs es
  | .tupW ws => ws.length ≤ LB ∧ ∃ vs, G a = some (.tup vs) ∧ RepWs K G as ws vs
def TbOk (P : Addr → Prop) : Prop := (∀ b ps, G b ≠ some (.tbl ps)) ∧ ∀ p : Addr × Str, p ∈ HasW.ts K → ¬ P p.1 ∧ G p.1 = none ∧ p.1 ∉ as ∧ ∃ ps : Array Value, H p.1 = some (.tbl ps) ∧ TriplesOk ps.toList ∧ ∀ (pos : Pos) (cv : Value), codeAmong pos ps.toList = some cv → ∃ c, cv = .ref c ∧ G c = some (LamX.CodeO c p.2)
structure Rl (P : Addr → Prop) (ρ : Env') (μ : Mu) (σ : St) : Prop where
  sub : Same G H
  pro : ∀ a, P a → G a = none ∧ H a ≠ none ∧ a ∉ as
  nd : as.Nodup
  len : as.length = μ.length
  mu : ∀ (j : Nat) (a : Addr) (m : MO), as[j]? = some a → μ[j]? = some m → MOk K G H as a m
  wf : ∀ m : MO, m ∈ μ → m.below μ.length = true
  sz : ρ.length = σ.length
  env : ∀ (i : Nat) (w : W), ρ[i]? = some (some w) → ∃ v, σ[i]? = some (some v) ∧ RepW K G as w v
  tb : TbOk K G H as P
end
structure Nx (P : Addr → Prop) (as : List Addr) (G H : Hp) (as' : List Addr) (G' H' : Hp) : Prop where
  pre : ∃ t, as' = as ++ t
  gr : Same G G'
  kp : ∀ a, P a → H' a = H a
theorem Nx.refl {P : Addr → Prop} {as : List Addr} {G H : Hp} : Nx P as G H as G H := ⟨⟨[], by simp⟩, Same.refl _, fun _ _ => rfl⟩
theorem Nx.trans {P : Addr → Prop} {as as1 as2 : List Addr} {G G1 G2 H H1 H2 : Hp} (a : Nx P as G H as1 G1 H1) (b : Nx P as1 G1 H1 as2 G2 H2) : Nx P as G H as2 G2 H2 := by
  obtain ⟨t, e⟩ := a.pre
  obtain ⟨u, f⟩ := b.pre
  exact ⟨⟨t ++ u, by rw [f, e, List.append_assoc]⟩, a.gr.trans b.gr, fun x hx => (b.kp x hx).trans (a.kp x hx)⟩
theorem at_pre {α : Type} {as as' : List α} {j : Nat} {a : α} (p : ∃ t, as' = as ++ t) (h : as[j]? = some a) : as'[j]? = some a := by
  obtain ⟨t, e⟩ := p
  rw [e, List.getElem?_append_left (List.getElem?_eq_some_iff.mp h).1]
  exact h
section
variable {K : PySem.W.Frag} [HasW K] {G G' H H' : Hp} {as as' : List Addr} {P : Addr → Prop} {ρ : Env'} {μ : Mu} {σ : St}
theorem RepW.mono {w : W} {v : V} (e : Same G G') (p : ∃ t, as' = as ++ t) (h : RepW K G as w v) : RepW K G' as' w v := by
  cases w with
  | val d => exact Rep.mono e d v h
  | loc j =>
    obtain ⟨a, q, ev⟩ := h
    exact ⟨a, at_pre p q, ev⟩
theorem RepWs.mono (e : Same G G') (p : ∃ t, as' = as ++ t) : ∀ {ws : List W} {vs : List V}, RepWs K G as ws vs → RepWs K G' as' ws vs
  | [], _, h => h
  | _ :: _, _, ⟨v, r, ev, h1, h2⟩ => ⟨v, r, ev, h1.mono e p, RepWs.mono e p h2⟩
theorem RepFs.mono (e : Same G G') (p : ∃ t, as' = as ++ t) : ∀ {ws : List (Str × W)} {vs : List (Str × V)}, RepFs K G as ws vs → RepFs K G' as' ws vs
  | [], _, h => h
  | (_, _) :: _, _, ⟨v, r, ev, h1, h2⟩ => ⟨v, r, ev, h1.mono e p, RepFs.mono e p h2⟩
theorem RepK.mono (e : Same G G') : ∀ {ks : List (Key × D)} {vs : List (Key × V)}, RepK K G ks vs → RepK K G' ks vs
  | [], _, h => h
  | (_, d) :: _, _, ⟨v, r, ev, h1, h2⟩ => ⟨v, r, ev, Rep.mono e d v h1, RepK.mono e h2⟩
theorem RepN.mono (e : Same G G') : ∀ {ks : List (NestedKey × D × D)} {vs : List (NestedKey × Addr × V)}, RepN K G ks vs → RepN K G' ks vs
  | [], _, h => h
  | (_, _, _) :: _, _, ⟨b, y, t, ev, h0, h1, h2, h3⟩ => ⟨b, y, t, ev, h0, Rep.mono e _ _ h1, Rep.mono e _ _ h2, RepN.mono e h3⟩
theorem RepWs.vals : ∀ {ds : List D} {vs : List V}, RepWs K G as (ds.map W.val) vs ↔ RepL K G ds vs
  | [], _ => Iff.rfl
  | _ :: _, _ => ⟨fun ⟨v, r, ev, h1, h2⟩ => ⟨v, r, ev, h1, RepWs.vals.mp h2⟩, fun ⟨v, r, ev, h1, h2⟩ => ⟨v, r, ev, h1, RepWs.vals.mpr h2⟩⟩
theorem RepWs.length : ∀ {ws : List W} {vs : List V}, RepWs K G as ws vs → vs.length = ws.length
  | [], _, h => by rw [h]; rfl
  | _ :: _, _, ⟨_, _, e, _, h⟩ => by rw [e, List.length_cons, List.length_cons, RepWs.length h]
theorem MOk.here {a : Addr} {m : MO} (h : MOk K G H as a m) (s : Same G H) : H a ≠ none := by
  cases m with
  | lst xs => obtain ⟨_, _, vs, e, _⟩ := h; rw [e]; simp
  | frz xs => obtain ⟨_, vs, e, _⟩ := h; rw [s _ _ e]; simp
  | lsW ws => obtain ⟨_, _, vs, e, _⟩ := h; rw [e]; simp
  | ins c fs => obtain ⟨_, _, dx, vs, e, _⟩ := h; rw [e]; simp
  | dK kvs => obtain ⟨_, _, vs, e, _⟩ := h; rw [e]; simp
  | scr ns => exact h.2.1
  | gone => exact h
  | raw o => rw [h.2]; simp
  | dW fs => obtain ⟨_, _, vs, e, _⟩ := h; rw [e]; simp
  | lkW fs => obtain ⟨_, o, vs, e, _⟩ := h; rw [s _ _ e]; simp
  | dN kvs => obtain ⟨_, _, vs, e, _⟩ := h; rw [e]; simp
  | tupW ws => obtain ⟨_, vs, e, _⟩ := h; rw [s _ _ e]; simp
theorem Rl.here (R : Rl K G H as P ρ μ σ) {a : Addr} (h : a ∈ as) : H a ≠ none := by
  obtain ⟨j, hj, e⟩ := List.getElem_of_mem h
  have hm : j < μ.length := R.len ▸ hj
  exact (R.mu j a _ (by rw [← e]; exact List.getElem?_eq_getElem hj) (List.getElem?_eq_getElem hm)).here R.sub
theorem MOk.mono {a : Addr} {m : MO} (h : MOk K G H as a m) (e : Same G G') (n : G a = none → G' a = none) (k : H' a = H a) (p : ∃ t, as' = as ++ t) : MOk K G' H' as' a m := by
  cases m with
  | lst xs => obtain ⟨g, z, vs, q, r⟩ := h; exact ⟨n g, z, vs, k.trans q, RepL.mono e _ _ r⟩
  | frz xs => obtain ⟨z, vs, q, r⟩ := h; exact ⟨z, vs, e _ _ q, RepL.mono e _ _ r⟩
  | lsW ws => obtain ⟨g, z, vs, q, r⟩ := h; exact ⟨n g, z, vs, k.trans q, r.mono e p⟩
  | ins c fs => obtain ⟨g, z, dx, vs, q, r⟩ := h; exact ⟨n g, z, dx, vs, k.trans q, r.mono e p⟩
  | dK kvs => obtain ⟨g, z, vs, q, r⟩ := h; exact ⟨n g, z, vs, k.trans q, r.mono e⟩
  | scr ns =>
    obtain ⟨g, z, q⟩ := h
    refine ⟨n g, k ▸ z, ?_⟩
    rcases q with (q | ⟨o, q⟩) | q
    · exact .inl (.inl (k.trans q))
    · exact .inl (.inr ⟨o, k.trans q⟩)
    · exact .inr q
  | gone => show H' a ≠ none; rw [k]; exact h
  | raw o => exact ⟨n h.1, k.trans h.2⟩
  | dW fs => obtain ⟨g, z, vs, q, r⟩ := h; exact ⟨n g, z, vs, k.trans q, r.mono e p⟩
  | lkW fs => obtain ⟨z, o, vs, q, r⟩ := h; exact ⟨z, o, vs, e _ _ q, r.mono e p⟩
  | dN kvs => obtain ⟨g, z, vs, q, r⟩ := h; exact ⟨n g, z, vs, k.trans q, r.mono e⟩
  | tupW ws => obtain ⟨z, vs, q, r⟩ := h; exact ⟨z, vs, e _ _ q, r.mono e p⟩
theorem TbOk.mono {as2 : List Addr} {P P2 : Addr → Prop} (h : TbOk K G H as P) (e : Same G G') (t : ∀ b ps, G' b ≠ some (.tbl ps)) (k : ∀ p : Addr, ¬ P p → G p = none → p ∉ as → H p ≠ none → ¬ P2 p ∧ G' p = none ∧ p ∉ as2 ∧ H' p = H p) : TbOk K G' H' as2 P2 := ⟨t, fun p hp => by
  obtain ⟨h0, h1, h2, ps, h3, h4, h5⟩ := h.2 p hp
  obtain ⟨k0, k1, k2, k3⟩ := k p.1 h0 h1 h2 (by rw [h3]; simp)
  exact ⟨k0, k1, k2, ps, k3.trans h3, h4, fun pos cv hc => let ⟨c, e1, e2⟩ := h5 pos cv hc; ⟨c, e1, e _ _ e2⟩⟩⟩
theorem TbOk.updN {P : Addr → Prop} (h : TbOk K G H as P) {a : Addr} {o : HO} (ho : ∀ ps, o ≠ .tbl ps) : ∀ b ps, upd G a o b ≠ some (.tbl ps) := fun b ps z => by
  by_cases c : b = a
  · rw [c, upd_same] at z
    exact ho ps (Option.some.inj z)
  · rw [upd_ne c] at z
    exact h.1 b ps z
theorem TbOk.ne {P : Addr → Prop} (h : TbOk K G H as P) {a : Addr} (ha : H a = none) : ∀ q ∈ HasW.ts K, q.1 ≠ a := fun q hq z => by
  obtain ⟨_, _, _, ps, h3, _⟩ := h.2 q hq
  rw [z, ha] at h3
  cases h3
theorem TbOk.neo {P : Addr → Prop} (h : TbOk K G H as P) {a : Addr} {o : HO} (ha : H a = some o) (hn : ∀ ps, o ≠ .tbl ps) : ∀ q ∈ HasW.ts K, q.1 ≠ a := fun q hq z => by
  obtain ⟨_, _, _, ps, h3, _⟩ := h.2 q hq
  rw [z, ha] at h3
  exact hn ps (Option.some.inj h3)
theorem Rl.imm (R : Rl K G H as P ρ μ σ) {p : Addr} (hp : H p = none) (o : HO) (ho : ∀ ps, o ≠ HO.tbl ps := by intro ps z; cases z) : Rl K (upd G p o) (upd H p o) as P ρ μ σ ∧ Nx P as G H as (upd G p o) (upd H p o) := by
  have gp : G p = none := R.sub.free hp
  have e : Same G (upd G p o) := fun b u h => by rw [upd_ne (ne_of_none h gp)]; exact h
  have ne : ∀ {a}, H a ≠ none → a ≠ p := fun h z => h (by rw [z]; exact hp)
  refine ⟨⟨fun b u h => ?_, fun a h => ?_, R.nd, R.len, fun j a m h1 h2 => ?_, R.wf, R.sz, fun i w h => ?_, R.tb.mono e (R.tb.updN ho) fun a t0 t1 t2 t3 => ⟨t0, by rw [upd_ne (ne t3)]; exact t1, t2, upd_ne (ne t3)⟩⟩, ⟨⟨[], by simp⟩, e, fun a h => upd_ne (ne (R.pro a h).2.1)⟩⟩
  · by_cases q : b = p
    · subst q
      rw [upd_same] at h ⊢
      exact h
    · rw [upd_ne q] at h ⊢
      exact R.sub _ _ h
  · obtain ⟨h1, h2, h3⟩ := R.pro a h
    exact ⟨by rw [upd_ne (ne h2)]; exact h1, by rw [upd_ne (ne h2)]; exact h2, h3⟩
  · have q := R.mu j a m h1 h2
    have z := ne (q.here R.sub)
    exact q.mono e (fun g => by rw [upd_ne z]; exact g) (upd_ne z) ⟨[], by simp⟩
  · obtain ⟨v, h1, h2⟩ := R.env i w h
    exact ⟨v, h1, h2.mono e ⟨[], by simp⟩⟩
theorem below_mono {m n : Nat} (h : m ≤ n) {o : MO} (q : o.below m = true) : o.below n = true := by
  have hw : ∀ w : W, w.below m = true → w.below n = true := fun w hw => by
    cases w with
    | val d => rfl
    | loc j => exact decide_eq_true (Nat.lt_of_lt_of_le (of_decide_eq_true hw) h)
  cases o with
  | lsW ws => exact List.all_eq_true.mpr fun w hm => hw w (List.all_eq_true.mp q w hm)
  | ins c fs => exact List.all_eq_true.mpr fun w hm => hw w.2 (List.all_eq_true.mp q w hm)
  | dW fs => exact List.all_eq_true.mpr fun w hm => hw w.2 (List.all_eq_true.mp q w hm)
  | lkW fs => exact List.all_eq_true.mpr fun w hm => hw w.2 (List.all_eq_true.mp q w hm)
  | tupW ws => exact List.all_eq_true.mpr fun w hm => hw w (List.all_eq_true.mp q w hm)
  | _ => rfl
theorem Rl.mut (R : Rl K G H as P ρ μ σ) {p : Addr} (hp : H p = none) {o : HO} {m : MO} (hm : MOk K G (upd H p o) (as ++ [p]) p m) (hb : m.below (μ.length + 1) = true) :
    Rl K G (upd H p o) (as ++ [p]) P ρ (μ ++ [m]) σ ∧ Nx P as G H (as ++ [p]) G (upd H p o) := by
  have gp : G p = none := R.sub.free hp
  have ne : ∀ {a}, H a ≠ none → a ≠ p := fun h z => h (by rw [z]; exact hp)
  have pin : p ∉ as := fun z => R.here z hp
  refine ⟨⟨fun b u h => ?_, fun a h => ?_, ?_, by simp [R.len], fun j a k h1 h2 => ?_, fun k hk => ?_, R.sz, fun i w h => ?_, R.tb.mono (Same.refl _) R.tb.1 fun a t0 t1 t2 t3 => ⟨t0, t1, fun z => (List.mem_append.mp z).elim t2 fun z => ne t3 (by simpa using z), upd_ne (ne t3)⟩⟩, ⟨⟨[p], rfl⟩, Same.refl _, fun a h => upd_ne (ne (R.pro a h).2.1)⟩⟩
  · rw [upd_ne (ne_of_none h gp)]
    exact R.sub _ _ h
  · obtain ⟨h1, h2, h3⟩ := R.pro a h
    refine ⟨h1, by rw [upd_ne (ne h2)]; exact h2, fun z => ?_⟩
    rcases List.mem_append.mp z with z | z
    · exact h3 z
    · exact ne h2 (by simpa using z)
  · refine List.nodup_append.mpr ⟨R.nd, by simp, fun a ha b hb => ?_⟩
    have : b = p := by simpa using hb
    subst this
    exact fun z => pin (z ▸ ha)
  · by_cases q : j < as.length
    · rw [List.getElem?_append_left q] at h1
      rw [List.getElem?_append_left (R.len ▸ q)] at h2
      have z := R.mu j a k h1 h2
      exact z.mono (Same.refl _) id (upd_ne (ne (z.here R.sub))) ⟨[p], rfl⟩
    · have hj : j = as.length := by
        have := (List.getElem?_eq_some_iff.mp h1).1
        simp at this
        omega
      subst hj
      rw [List.getElem?_append_right (Nat.le_refl _)] at h1
      rw [List.getElem?_append_right (by rw [R.len]; exact Nat.le_refl _)] at h2
      simp at h1
      rw [R.len] at h2
      simp at h2
      subst h1 h2
      exact hm
  · rw [List.length_append, List.length_singleton]
    rcases List.mem_append.mp hk with z | z
    · exact below_mono (Nat.le_succ _) (R.wf k z)
    · have : k = m := by simpa using z
      subst this
      exact hb
  · obtain ⟨v, h1, h2⟩ := R.env i w h
    exact ⟨v, h1, h2.mono (Same.refl _) ⟨[p], rfl⟩⟩
theorem Rl.put (R : Rl K G H as P ρ μ σ) {j : Nat} {a : Addr} {o : HO} {m m' : MO} (ha : as[j]? = some a) (hm : μ[j]? = some m) (hg : G a = none) (h : MOk K G (upd H a o) as a m') (hb : m'.below μ.length = true) :
    Rl K G (upd H a o) as P ρ (μ.set j m') σ ∧ Nx P as G H as G (upd H a o) := by
  have inA : a ∈ as := List.mem_of_getElem? ha
  have neP : ∀ {b}, P b → b ≠ a := fun hp z => (R.pro _ hp).2.2 (z ▸ inA)
  refine ⟨⟨fun b u q => ?_, fun b hp => ?_, R.nd, by rw [List.length_set]; exact R.len, fun i b k h1 h2 => ?_, fun k hk => ?_, R.sz, R.env, R.tb.mono (Same.refl _) R.tb.1 fun b t0 t1 t2 t3 => ⟨t0, t1, t2, upd_ne fun z => t2 (z ▸ inA)⟩⟩, ⟨⟨[], by simp⟩, Same.refl _, fun b hp => upd_ne (neP hp)⟩⟩
  · rw [upd_ne (ne_of_none q hg)]
    exact R.sub _ _ q
  · obtain ⟨h1, h2, h3⟩ := R.pro b hp
    exact ⟨h1, by rw [upd_ne (neP hp)]; exact h2, h3⟩
  · by_cases q : i = j
    · subst q
      rw [ha] at h1
      cases h1
      rw [List.getElem?_set_self (List.getElem?_eq_some_iff.mp hm).1] at h2
      cases h2
      exact h
    · rw [List.getElem?_set_ne (fun z => q z.symm)] at h2
      have ne : b ≠ a := fun z => by
        subst z
        exact q ((List.getElem?_inj (List.getElem?_eq_some_iff.mp h1).1 R.nd).mp (h1.trans ha.symm))
      exact (R.mu i b k h1 h2).mono (Same.refl _) id (upd_ne ne) ⟨[], by simp⟩
  · rw [List.length_set]
    rcases List.mem_or_eq_of_mem_set hk with z | z
    · exact R.wf k z
    · rw [z]
      exact hb
theorem Rl.freeze (R : Rl K G H as P ρ μ σ) {j : Nat} {xs : List D} (hm : μ[j]? = some (.lst xs)) : ∃ a vs, as[j]? = some a ∧ Rl K (upd G a (.lst vs)) H as P ρ (μ.set j (.frz xs)) σ ∧ Nx P as G H as (upd G a (.lst vs)) H ∧ Rep K (upd G a (.lst vs)) (.lst xs) (.ref a) := by
  have hj : j < as.length := by rw [R.len]; exact (List.getElem?_eq_some_iff.mp hm).1
  obtain ⟨a, ha⟩ : ∃ a, as[j]? = some a := ⟨_, List.getElem?_eq_getElem hj⟩
  obtain ⟨g, z, vs, q, r⟩ := R.mu j a _ ha hm
  have inA : a ∈ as := List.mem_of_getElem? ha
  have e : Same G (upd G a (.lst vs)) := fun b u h => by rw [upd_ne (ne_of_none h g)]; exact h
  refine ⟨a, vs, ha, ⟨fun b u h => ?_, fun b hp => ?_, R.nd, by rw [List.length_set]; exact R.len, fun i b k h1 h2 => ?_, fun k hk => ?_, R.sz, fun i w h => ?_, R.tb.mono e (R.tb.updN fun ps z => by cases z) fun b t0 t1 t2 t3 => ⟨t0, by rw [upd_ne (show b ≠ a from fun z => t2 (by rw [z]; exact inA))]; exact t1, t2, rfl⟩⟩, ⟨⟨[], by simp⟩, e, fun _ _ => rfl⟩, z, a, vs, rfl, upd_same, RepL.mono e _ _ r⟩
  · by_cases y : b = a
    · subst y
      rw [upd_same] at h
      rw [q]
      exact h
    · rw [upd_ne y] at h
      exact R.sub _ _ h
  · obtain ⟨h1, h2, h3⟩ := R.pro b hp
    have nb : b ≠ a := fun y => h3 (by rw [y]; exact inA)
    exact ⟨by rw [upd_ne nb]; exact h1, h2, h3⟩
  · by_cases y : i = j
    · subst y
      rw [ha] at h1
      cases h1
      rw [List.getElem?_set_self (List.getElem?_eq_some_iff.mp hm).1] at h2
      cases h2
      exact ⟨z, vs, upd_same, RepL.mono e _ _ r⟩
    · rw [List.getElem?_set_ne (fun z => y z.symm)] at h2
      have ne : b ≠ a := fun z => by
        subst z
        exact y ((List.getElem?_inj (List.getElem?_eq_some_iff.mp h1).1 R.nd).mp (h1.trans ha.symm))
      exact (R.mu i b k h1 h2).mono e (fun g' => by rw [upd_ne ne]; exact g') rfl ⟨[], by simp⟩
  · rw [List.length_set]
    rcases List.mem_or_eq_of_mem_set hk with z | z
    · exact R.wf k z
    · rw [z]
      rfl
  · obtain ⟨v, h1, h2⟩ := R.env i w h
    exact ⟨v, h1, h2.mono e ⟨[], by simp⟩⟩
theorem Rl.to (R : Rl K G H as P ρ μ σ) {ρ' : Env'} {σ' : St} (hz : ρ'.length = σ'.length) (he : ∀ (i : Nat) (w : W), ρ'[i]? = some (some w) → ∃ v, σ'[i]? = some (some v) ∧ RepW K G as w v) : Rl K G H as P ρ' μ σ' := ⟨R.sub, R.pro, R.nd, R.len, R.mu, R.wf, hz, he, R.tb⟩
theorem Rl.nil (R : Rl K G H as P ρ μ σ) : Rl K G H as P [] μ [] := R.to rfl fun i w h => by simp at h
theorem Rl.set (R : Rl K G H as P ρ μ σ) {i : Nat} {w : W} {v : V} (h : RepW K G as w v) : Rl K G H as P (ρ.set i (some w)) μ (σ.set i (some v)) :=
  R.to (by simp [R.sz]) fun k u hk => by
    by_cases q : k = i
    · subst q
      have hl : k < ρ.length := by
        have := (List.getElem?_eq_some_iff.mp hk).1
        simpa using this
      rw [List.getElem?_set_self hl] at hk
      cases hk
      exact ⟨v, List.getElem?_set_self (R.sz ▸ hl), h⟩
    · rw [List.getElem?_set_ne (fun z => q z.symm)] at hk
      rw [List.getElem?_set_ne (fun z => q z.symm)]
      exact R.env k u hk
theorem Rl.drop (R : Rl K G H as P ρ μ σ) {μ0 t : Mu} (e : μ = μ0 ++ t) (wf : ∀ m : MO, m ∈ μ0 → m.below μ0.length = true) : Rl K G H (as.take μ0.length) P [] μ0 [] := by
  have hl : μ0.length ≤ as.length := by rw [R.len, e, List.length_append]; omega
  refine ⟨R.sub, fun a h => ?_, R.nd.sublist (List.take_sublist _ _), by rw [List.length_take]; omega, fun j a m h1 h2 => ?_, wf, rfl, fun i w h => by simp at h, R.tb.mono (Same.refl _) R.tb.1 fun a t0 t1 t2 _ => ⟨t0, t1, fun z => t2 (List.mem_of_mem_take z), rfl⟩⟩
  · obtain ⟨h1, h2, h3⟩ := R.pro a h
    exact ⟨h1, h2, fun z => h3 (List.mem_of_mem_take z)⟩
  · have hj : j < μ0.length := (List.getElem?_eq_some_iff.mp h2).1
    rw [List.getElem?_take_of_lt hj] at h1
    have q := R.mu j a m h1 (by rw [e, List.getElem?_append_left hj]; exact h2)
    have hw : ∀ (w : W) (v : V), w.below μ0.length = true → RepW K G as w v → RepW K G (as.take μ0.length) w v := fun w v hb hr => by
      cases w with
      | val d => exact hr
      | loc k =>
        obtain ⟨b, q1, q2⟩ := hr
        exact ⟨b, by rw [List.getElem?_take_of_lt (of_decide_eq_true hb)]; exact q1, q2⟩
    have hws : ∀ (ws : List W) (vs : List V), ws.all (W.below μ0.length) = true → RepWs K G as ws vs → RepWs K G (as.take μ0.length) ws vs := by
      intro ws
      induction ws with
      | nil => exact fun vs _ h => h
      | cons w ws ih =>
        rintro vs hb ⟨v, r, ev, h1, h2⟩
        rw [List.all_cons, Bool.and_eq_true] at hb
        exact ⟨v, r, ev, hw w v hb.1 h1, ih r hb.2 h2⟩
    have hfs : ∀ (ws : List (Str × W)) (vs : List (Str × V)), (ws.all fun p => p.2.below μ0.length) = true → RepFs K G as ws vs → RepFs K G (as.take μ0.length) ws vs := by
      intro ws
      induction ws with
      | nil => exact fun vs _ h => h
      | cons w ws ih =>
        rintro vs hb ⟨v, r, ev, h1, h2⟩
        rw [List.all_cons, Bool.and_eq_true] at hb
        exact ⟨v, r, ev, hw w.2 v hb.1 h1, ih r hb.2 h2⟩
    have hm := wf m (List.mem_of_getElem? h2)
    cases m with
    | lsW ws => obtain ⟨g, z, vs, q, r⟩ := q; exact ⟨g, z, vs, q, hws ws vs hm r⟩
    | ins c fs => obtain ⟨g, z, dx, vs, q, r⟩ := q; exact ⟨g, z, dx, vs, q, hfs fs vs hm r⟩
    | lst xs => exact q
    | frz xs => exact q
    | dK kvs => exact q
    | scr ns => exact q
    | gone => exact q
    | raw o => exact q
    | dW fs => obtain ⟨g, z, vs, q, r⟩ := q; exact ⟨g, z, vs, q, hfs fs vs hm r⟩
    | lkW fs => obtain ⟨z, o, vs, q, r⟩ := q; exact ⟨z, o, vs, q, hfs fs vs hm r⟩
    | dN kvs => exact q
    | tupW ws => obtain ⟨z, vs, q, r⟩ := q; exact ⟨z, vs, q, hws ws vs hm r⟩
end
end DK
namespace DK
open PySem PySem.Spec L2
section
variable (K : PySem.W.Frag) [HasW K]
def Ev (te : TE) (ρ : Env') (μ : Mu) (w : W) (μ' : Mu) : Prop := ∀ (P : Addr → Prop) (as : List Addr) (σ : St) (G H : Hp), Rl K G H as P ρ μ σ → ∀ Q : VK,
  (∀ v as' G' H', Nx P as G H as' G' H' → Rl K G' H' as' P ρ μ' σ → RepW K G' as' w v → Q v H') → te σ H Q
def EvB (tt : TT) (ρ : Env') (μ : Mu) (b : Bool) (μ' : Mu) : Prop := ∀ (P : Addr → Prop) (as : List Addr) (σ : St) (G H : Hp), Rl K G H as P ρ μ σ → ∀ Q : Bool → Hp → Prop,
  (∀ as' G' H', Nx P as G H as' G' H' → Rl K G' H' as' P ρ μ' σ → Q b H') → tt σ H Q
def EvA (ta : TA) (ρ : Env') (μ : Mu) (ws : List W) (μ' : Mu) : Prop := ∀ (P : Addr → Prop) (as : List Addr) (σ : St) (G H : Hp), Rl K G H as P ρ μ σ → ∀ Q : List V → Hp → Prop,
  (∀ vs as' G' H', Nx P as G H as' G' H' → Rl K G' H' as' P ρ μ' σ → RepWs K G' as' ws vs → Q vs H') → ta σ H Q
inductive Out where
  | nx (ρ : Env') (μ : Mu) | rt (w : W) (μ : Mu) | bk (ρ : Env') (μ : Mu) | ct (ρ : Env') (μ : Mu)
def OutOk (P : Addr → Prop) (as : List Addr) (G H : Hp) (E : Ends) : Out → Prop
  | .nx ρ' μ' => ∀ as' σ' G' H', Nx P as G H as' G' H' → Rl K G' H' as' P ρ' μ' σ' → E.nx σ' H'
  | .rt w μ' => ∀ v as' G' H', Nx P as G H as' G' H' → Rl K G' H' as' P [] μ' [] → RepW K G' as' w v → E.rt v H'
  | .bk ρ' μ' => ∀ as' σ' G' H', Nx P as G H as' G' H' → Rl K G' H' as' P ρ' μ' σ' → E.bk σ' H'
  | .ct ρ' μ' => ∀ as' σ' G' H', Nx P as G H as' G' H' → Rl K G' H' as' P ρ' μ' σ' → E.ct σ' H'
def Ex (ts : TS) (ρ : Env') (μ : Mu) (o : Out) : Prop := ∀ (P : Addr → Prop) (as : List Addr) (σ : St) (G H : Hp), Rl K G H as P ρ μ σ → ∀ E : Ends, OutOk K P as G H E o → ts E σ H
def EvG (g : TG) (w : W) (ρ ρ' : Env') : Prop := ∀ (P : Addr → Prop) (as : List Addr) (μ : Mu) (σ : St) (G H : Hp) (v : V), Rl K G H as P ρ μ σ → RepW K G as w v → ∀ Q : St → Hp → Prop,
  (∀ σ', Rl K G H as P ρ' μ σ' → Q σ' H) → g v σ H Q
def Op2 (r : R2) (a b d : D) : Prop := ∀ (P : Addr → Prop) (as : List Addr) (ρ : Env') (μ : Mu) (σ : St) (G H : Hp) (x y : V), Rl K G H as P ρ μ σ → Rep K G a x → Rep K G b y → ∀ Q : VK,
  (∀ v G' H', Nx P as G H as G' H' → Rl K G' H' as P ρ μ σ → Rep K G' d v → Q v H') → r x y H Q
def OpC (r : List V → Hp → VK → Prop) (ds : List D) (d : D) : Prop := ∀ (P : Addr → Prop) (as : List Addr) (ρ : Env') (μ : Mu) (σ : St) (G H : Hp) (vs : List V), Rl K G H as P ρ μ σ → RepL K G ds vs → ∀ Q : VK,
  (∀ v G' H', Nx P as G H as G' H' → Rl K G' H' as P ρ μ σ → Rep K G' d v → Q v H') → r vs H Q
end
section
variable {K : PySem.W.Frag} [HasW K] {ρ ρ1 ρ2 : Env'} {μ μ1 μ2 μ3 : Mu} {ta tb te tc : TE} {t u : TT} {w : W} {a b d : D} {r : R2} {i : Nat}
theorem ev_var (h : ρ[i]? = some (some w)) : Ev K (tVar i) ρ μ w μ := fun P as σ G H R Q q => by
  obtain ⟨v, h1, h2⟩ := R.env i w h
  exact ⟨v, h1, q v as G H .refl R h2⟩
theorem ev_int {n : Int} : Ev K (tC (.int n)) ρ μ (.val (.int n)) μ := fun P as σ G H R Q q => q _ as G H .refl R rfl
theorem ev_bl {n : Bool} : Ev K (tC (.bl n)) ρ μ (.val (.bl n)) μ := fun P as σ G H R Q q => q _ as G H .refl R rfl
theorem ev_non : Ev K (tC .non) ρ μ (.val .non) μ := fun P as σ G H R Q q => q _ as G H .refl R rfl
theorem ev_str {s : Str} (h : sOk s := by exact ⟨by decide +kernel, by decide +kernel⟩) : Ev K (tC (.str s)) ρ μ (.val (.str s)) μ := fun P as σ G H R Q q => q _ as G H .refl R ⟨rfl, h⟩
theorem eb_test {k : Bool} (h : Ev K te ρ μ (.val (.bl k)) μ1) : EvB K (tTest te) ρ μ k μ1 := fun P as σ G H R Q q =>
  h P as σ G H R _ fun v as1 G1 H1 n1 R1 r1 => ⟨k, r1, q as1 G1 H1 n1 R1⟩
theorem eb_B {k : Bool} (h : Ev K te ρ μ (.val (.bl k)) μ1) : EvB K (tB te) ρ μ k μ1 := fun P as σ G H R Q q =>
  h P as σ G H R _ fun v as1 G1 H1 n1 R1 r1 => ⟨k, r1, q as1 G1 H1 n1 R1⟩
theorem eb_not {k : Bool} (h : EvB K t ρ μ k μ1) : EvB K (tNot t) ρ μ (!k) μ1 := fun P as σ G H R Q q => h P as σ G H R _ fun as1 G1 H1 n1 R1 => q as1 G1 H1 n1 R1
theorem ev_not {k : Bool} (ha : Ev K ta ρ μ (.val (.bl k)) μ1) : Ev K (tNotV ta) ρ μ (.val (.bl (!k))) μ1 := fun P as σ G H R Q q =>
  ha P as σ G H R _ fun v as1 G1 H1 n1 R1 r1 => ⟨k, r1, q _ as1 G1 H1 n1 R1 rfl⟩
theorem ev_if {k : Bool} (hc : EvB K t ρ μ k μ1) (ha : k = true → Ev K ta ρ μ1 w μ2) (hb : k = false → Ev K tb ρ μ1 w μ2) : Ev K (tIf t ta tb) ρ μ w μ2 := fun P as σ G H R Q q =>
  hc P as σ G H R _ fun as1 G1 H1 n1 R1 => by
    cases k with
    | true => exact iteT (ha rfl P as1 σ G1 H1 R1 Q fun v as2 G2 H2 n2 R2 r2 => q v as2 G2 H2 (n1.trans n2) R2 r2)
    | false => exact iteF (hb rfl P as1 σ G1 H1 R1 Q fun v as2 G2 H2 n2 R2 r2 => q v as2 G2 H2 (n1.trans n2) R2 r2)
theorem ea_nil : EvA K tNil ρ μ [] μ := fun P as σ G H R Q q => q [] as G H .refl R rfl
theorem ea_cons {tr : TA} {ws : List W} (h : Ev K te ρ μ w μ1) (hr : EvA K tr ρ μ1 ws μ2) : EvA K (tCons te tr) ρ μ (w :: ws) μ2 := fun P as σ G H R Q q =>
  h P as σ G H R _ fun v as1 G1 H1 n1 R1 r1 => hr P as1 σ G1 H1 R1 _ fun vs as2 G2 H2 n2 R2 r2 => q (v :: vs) as2 G2 H2 (n1.trans n2) R2 ⟨v, vs, rfl, r1.mono n2.gr n2.pre, r2⟩
def EvD (K : PySem.W.Frag) [HasW K] (ta : TA) (ρ : Env') (μ : Mu) (ds : List D) (μ' : Mu) : Prop := EvA K ta ρ μ (ds.map W.val) μ'
theorem ev_tup {t : TA} {ds : List D} (h : EvD K t ρ μ ds μ1) (hz : ds.length ≤ LB) : Ev K (tTup t) ρ μ (.val (.tup ds)) μ1 := fun P as σ G H R Q q =>
  h P as σ G H R _ fun vs as1 G1 H1 n1 R1 r1 => by
    have r := RepWs.vals.mp r1
    refine ⟨by rw [r.length]; exact Nat.le_trans hz (by decide), fun p hp => ?_⟩
    obtain ⟨R2, n2⟩ := R1.imm hp (.tup vs)
    exact q _ as1 _ _ (n1.trans n2) R2 ⟨hz, p, vs, rfl, SqT.of upd_same, RepL.mono n2.gr _ _ r⟩
theorem ev_lst {t : TA} {ds : List D} (h : EvD K t ρ μ ds μ1) (hz : ds.length ≤ LB) : Ev K (tLst t) ρ μ (.val (.lst ds)) μ1 := fun P as σ G H R Q q =>
  h P as σ G H R _ fun vs as1 G1 H1 n1 R1 r1 => by
    have r := RepWs.vals.mp r1
    refine ⟨by rw [r.length]; exact Nat.le_trans hz (by decide), fun p hp => ?_⟩
    obtain ⟨R2, n2⟩ := R1.imm hp (.lst vs)
    exact q _ as1 _ _ (n1.trans n2) R2 ⟨hz, p, vs, rfl, upd_same, RepL.mono n2.gr _ _ r⟩
def tLstM (t : TA) : TE := tLst t
theorem ev_lstM {t : TA} {ds : List D} (h : EvD K t ρ μ ds μ1) (hz : ds.length ≤ LB) : Ev K (tLstM t) ρ μ (.loc μ1.length) (μ1 ++ [.lst ds]) := fun P as σ G H R Q q =>
  h P as σ G H R _ fun vs as1 G1 H1 n1 R1 r1 => by
    have r := RepWs.vals.mp r1
    refine ⟨by rw [r.length]; exact Nat.le_trans hz (by decide), fun p hp => ?_⟩
    obtain ⟨R2, n2⟩ := R1.mut (m := .lst ds) hp ⟨R1.sub.free hp, hz, vs, upd_same, r⟩ rfl
    exact q _ _ _ _ (n1.trans n2) R2 ⟨p, by rw [List.getElem?_append_right (by rw [R1.len]; exact Nat.le_refl _), R1.len]; simp, rfl⟩
def fpos (f : Str) : List Str → Nat
  | [] => 0
  | n :: ns => if (f == n) = true then 0 else fpos f ns + 1
theorem lookup_zip {f : Str} : ∀ {ns : List Str} {vs : List V} {v : V}, vs[fpos f ns]? = some v → fpos f ns < ns.length → (ns.zip vs).lookup f = some v
  | [], _, _, _, h => by simp at h
  | n :: ns, [], _, h, _ => by simp at h
  | n :: ns, u :: vs, v, h, hl => by
    unfold fpos at h hl
    rw [List.zip_cons_cons, List.lookup_cons]
    by_cases q : (f == n) = true
    · rw [if_pos q] at h
      simp at h
      rw [q, h]
    · rw [if_neg q] at h hl
      rw [Bool.not_eq_true] at q
      rw [q]
      simp at h hl
      exact lookup_zip h hl
theorem ev_fld {c f : Str} {ns : List Str} {ds : List D} (h : Ev K te ρ μ (.val (.obj c ns ds)) μ1) (hn : NoAttr K (He.ga K c) f) (hf : ds[fpos f ns]? = some d) : Ev K (tFld K te f) ρ μ (.val d) μ1 := fun P as σ G H R Q q =>
  h P as σ G H R _ fun v as1 G1 H1 n1 R1 ⟨hc, a, dx, vs, ev, g, hl, r⟩ => by
    obtain ⟨u, e1, e2⟩ := r.get hf
    have hp : fpos f ns < ns.length := by
      rw [hl]
      exact (List.getElem?_eq_some_iff.mp hf).1
    exact ⟨a, _, dx, _, u, ev, R1.sub _ _ g, hc.cl, hn, lookup_zip e1 hp, q u as1 G1 H1 n1 R1 e2⟩
theorem eg_name {w : W} : EvG K (gName i) w ρ (ρ.set i (some w)) := fun P as μ σ G H v R r Q q => q _ (R.set r)
theorem eg_tup {n : Nat} {ts : TGs} {ds : List D} (hn : ds.length = n) (h : ∀ (P : Addr → Prop) (as : List Addr) (μ : Mu) (σ : St) (G H : Hp) (vs : List V), Rl K G H as P ρ μ σ → RepL K G ds vs → ∀ Q : St → Hp → Prop, (∀ σ', Rl K G H as P ρ1 μ σ' → Q σ' H) → ts vs σ H Q) :
    EvG K (gTup K n ts) (.val (.tup ds)) ρ ρ1 := fun P as μ σ G H v R r Q q => by
  obtain ⟨hz, a, vs, ev, hs, hr⟩ := r
  have hs' : SqT K H a vs := same_sqt R.sub hs
  exact ⟨a, vs, ev, hs', by rw [hr.length]; exact hn, h P as μ σ G H vs R hr Q q⟩
def EvGs (K : PySem.W.Frag) [HasW K] (ts : TGs) (ds : List D) (ρ ρ1 : Env') : Prop := ∀ (P : Addr → Prop) (as : List Addr) (μ : Mu) (σ : St) (G H : Hp) (vs : List V), Rl K G H as P ρ μ σ → RepL K G ds vs → ∀ Q : St → Hp → Prop, (∀ σ', Rl K G H as P ρ1 μ σ' → Q σ' H) → ts vs σ H Q
theorem egs_nil : EvGs K gNil [] ρ ρ := fun P as μ σ G H vs R r Q q => ⟨r, q σ R⟩
theorem egs_cons {g : TG} {ts : TGs} {ds : List D} (h1 : EvG K g (.val d) ρ ρ1) (h2 : EvGs K ts ds ρ1 ρ2) : EvGs K (gCons g ts) (d :: ds) ρ ρ2 := fun P as μ σ G H vs R ⟨v, r, ev, r1, r2⟩ Q q =>
  ⟨v, r, ev, h1 P as μ σ G H v R r1 _ fun σ1 R1 => h2 P as μ σ1 G H r R1 r2 Q q⟩
variable {ts us : TS} {o : Out}
theorem OutOk.after {P : Addr → Prop} {as as1 : List Addr} {G G1 H H1 : Hp} {E : Ends} (n : Nx P as G H as1 G1 H1) (h : OutOk K P as G H E o) : OutOk K P as1 G1 H1 E o := by
  cases o with
  | nx ρ' μ' => exact fun as' σ' G' H' n' R' => h as' σ' G' H' (n.trans n') R'
  | rt w μ' => exact fun v as' G' H' n' R' r' => h v as' G' H' (n.trans n') R' r'
  | bk ρ' μ' => exact fun as' σ' G' H' n' R' => h as' σ' G' H' (n.trans n') R'
  | ct ρ' μ' => exact fun as' σ' G' H' n' R' => h as' σ' G' H' (n.trans n') R'
theorem ex_seq (h1 : Ex K ts ρ μ (.nx ρ1 μ1)) (h2 : Ex K us ρ1 μ1 o) : Ex K (tSeq ts us) ρ μ o := fun P as σ G H R E q =>
  h1 P as σ G H R _ fun as' σ' G' H' n' R' => h2 P as' σ' G' H' R' E (q.after n')
theorem ex_seqR (h1 : Ex K ts ρ μ (.rt w μ1)) : Ex K (tSeq ts us) ρ μ (.rt w μ1) := fun P as σ G H R E q => h1 P as σ G H R _ q
theorem ex_seqC (h1 : Ex K ts ρ μ (.ct ρ1 μ1)) : Ex K (tSeq ts us) ρ μ (.ct ρ1 μ1) := fun P as σ G H R E q => h1 P as σ G H R _ q
theorem ex_seqB (h1 : Ex K ts ρ μ (.bk ρ1 μ1)) : Ex K (tSeq ts us) ρ μ (.bk ρ1 μ1) := fun P as σ G H R E q => h1 P as σ G H R _ q
theorem ex_next : Ex K tNext ρ μ (.nx ρ μ) := fun P as σ G H R E q => q as σ G H .refl R
theorem ex_cont : Ex K tCont ρ μ (.ct ρ μ) := fun P as σ G H R E q => q as σ G H .refl R
theorem ex_ret (h : Ev K te ρ μ w μ1) : Ex K (tRet te) ρ μ (.rt w μ1) := fun P as σ G H R E q => h P as σ G H R _ fun v as1 G1 H1 n1 R1 r1 => q v as1 G1 H1 n1 R1.nil r1
theorem ex_drop (h : Ev K te ρ μ w μ1) : Ex K (tDrop te) ρ μ (.nx ρ μ1) := fun P as σ G H R E q => h P as σ G H R _ fun v as1 G1 H1 n1 R1 r1 => q as1 σ G1 H1 n1 R1
theorem ex_asg {g : TG} (h : Ev K te ρ μ w μ1) (hg : EvG K g w ρ ρ1) : Ex K (tAsg te g) ρ μ (.nx ρ1 μ1) := fun P as σ G H R E q => h P as σ G H R _ fun v as1 G1 H1 n1 R1 r1 => hg P as1 μ1 σ G1 H1 v R1 r1 _ fun σ' R' => q as1 σ' G1 H1 n1 R'
theorem ex_if {k : Bool} (hc : EvB K t ρ μ k μ1) (ha : k = true → Ex K ts ρ μ1 o) (hb : k = false → Ex K us ρ μ1 o) : Ex K (tIfS t ts us) ρ μ o := fun P as σ G H R E q =>
  hc P as σ G H R _ fun as1 G1 H1 n1 R1 => by
    cases k with
    | true => exact iteT (ha rfl P as1 σ G1 H1 R1 E (q.after n1))
    | false => exact iteF (hb rfl P as1 σ G1 H1 R1 E (q.after n1))
def ItD (K : PySem.W.Frag) [HasW K] (G : Hp) (as0 : List Addr) (C : Mu → Prop) (J : It) (xs : List D) : Prop := ∀ (i : Nat) (P : Addr → Prop) (as : List Addr) (ρ : Env') (μ : Mu) (σ : St) (G1 H : Hp), Same G G1 → (∃ t, as = as0 ++ t) → C μ → Rl K G1 H as P ρ μ σ →
  (∀ d, xs[i]? = some d → J.go i H ∧ ∀ x H', J.yld i H x H' → ∃ G2, Nx P as G1 H as G2 H' ∧ Rl K G2 H' as P ρ μ σ ∧ Rep K G2 d x) ∧ (xs[i]? = none → J.stop i H)
def EvI (K : PySem.W.Frag) [HasW K] (wi : TI) (ρ : Env') (μ : Mu) (xs : List D) (μ' : Mu) (C : Mu → Prop) : Prop := C μ' ∧ ∀ (P : Addr → Prop) (as : List Addr) (σ : St) (G H : Hp), Rl K G H as P ρ μ σ → ∀ R : It → Hp → Prop,
  (∀ J as' G' H', Nx P as G H as' G' H' → Rl K G' H' as' P ρ μ' σ → ItD K G' as' C J xs → R J H') → wi σ H R
abbrev CT : Mu → Prop := fun _ => True
theorem ei_list {xs : List D} (h : Ev K te ρ μ (.val (.lst xs)) μ1) : EvI K (iList K te) ρ μ xs μ1 CT := ⟨trivial, fun P as σ G H R Q q =>
  h P as σ G H R _ fun v as1 G1 H1 n1 R1 ⟨hz, a, vs, ev, g, r⟩ => by
    refine ⟨a, ev, ⟨vs, SqL.of (R1.sub _ _ g)⟩, q _ as1 G1 H1 n1 R1 fun i P' as' ρ' μ' σ' G' H' s _ _ R' => ?_⟩
    have hs : SqL K H' a vs := SqL.of (R'.sub _ _ (s _ _ g))
    constructor
    · intro d hd
      obtain ⟨x, hx, _⟩ := r.get hd
      refine ⟨⟨vs, x, hs, hx⟩, fun y H2 ⟨e, hy⟩ => ?_⟩
      subst e
      obtain ⟨u, hu, ru⟩ := r.get hd
      have : y = u := by
        have := hy vs hs
        rw [hu] at this
        exact (Option.some.inj this).symm
      subst this
      exact ⟨G', .refl, R', Rep.mono s _ _ ru⟩
    · intro hn
      exact ⟨vs, hs, by rw [r.length]; exact List.getElem?_eq_none_iff.mp hn⟩⟩
theorem ei_tup {xs : List D} (h : Ev K te ρ μ (.val (.tup xs)) μ1) : EvI K (iTup K te) ρ μ xs μ1 CT := ⟨trivial, fun P as σ G H R Q q =>
  h P as σ G H R _ fun v as1 G1 H1 n1 R1 ⟨hz, a, vs, ev, g, r⟩ => by
    refine ⟨a, ev, ⟨vs, same_sqt R1.sub g⟩, q _ as1 G1 H1 n1 R1 fun i P' as' ρ' μ' σ' G' H' s _ _ R' => ?_⟩
    have hs : SqT K H' a vs := same_sqt R'.sub (same_sqt s g)
    constructor
    · intro d hd
      obtain ⟨x, hx, _⟩ := r.get hd
      refine ⟨⟨vs, x, hs, hx⟩, fun y H2 ⟨e, hy⟩ => ?_⟩
      subst e
      obtain ⟨u, hu, ru⟩ := r.get hd
      have : y = u := by
        have := hy vs hs
        rw [hu] at this
        exact (Option.some.inj this).symm
      subst this
      exact ⟨G', .refl, R', Rep.mono s _ _ ru⟩
    · intro hn
      exact ⟨vs, hs, by rw [r.length]; exact List.getElem?_eq_none_iff.mp hn⟩⟩
def rangeD (lo : Int) (n : Nat) : List D := (List.range n).map fun (k : Nat) => D.int (lo + (k : Int))
theorem it_range {G : Hp} {as : List Addr} {lo : Int} {n : Nat} : ItD K G as CT (Itr lo n) (rangeD lo n) := fun i P' as' ρ' μ' σ' G' H' s _ _ R' => by
  constructor
  · intro d hd
    unfold rangeD at hd
    rw [List.getElem?_map] at hd
    by_cases hi : i < n
    · rw [List.getElem?_range hi] at hd
      cases hd
      exact ⟨hi, fun x H2 ⟨e, hx⟩ => ⟨G', by rw [e]; exact .refl, by rw [e]; exact R', hx⟩⟩
    · rw [List.getElem?_eq_none (by simpa using hi)] at hd
      cases hd
  · intro hn
    have := List.getElem?_eq_none_iff.mp hn
    unfold rangeD at this
    show n ≤ i
    simpa using this
theorem ei_range1 {n : Int} {t : TA} (h : EvD K t ρ μ [.int n] μ1) (h1 : -(2 ^ 62) ≤ n) (h2 : n < 2 ^ 62) : EvI K (iRng1 t) ρ μ (rangeD 0 n.toNat) μ1 CT := ⟨trivial, fun P as σ G H R Q q =>
  h P as σ G H R _ fun vs as1 G1 H1 n1 R1 r1 => by
    obtain ⟨v, r, ev, r2, r3⟩ := r1
    rw [show r = [] from r3, show v = .int n from r2] at ev
    exact ⟨n, ev, h1, h2, q _ as1 G1 H1 n1 R1 it_range⟩⟩
theorem pre_tr {α : Type} {a b c : List α} (h : ∃ t, b = a ++ t) (k : ∃ t, c = b ++ t) : ∃ t, c = a ++ t := by
  obtain ⟨t, e⟩ := h
  obtain ⟨u, f⟩ := k
  exact ⟨t ++ u, by rw [f, e, List.append_assoc]⟩
inductive Lp (K : PySem.W.Frag) [HasW K] (g : TG) (tb : TS) (C : Mu → Prop) : List D → Env' → Mu → Out → Prop where
  | nil {ρ : Env'} {μ : Mu} : Lp K g tb C [] ρ μ (.nx ρ μ)
  | next {x : D} {xs : List D} {ρ ρ1 ρ2 : Env'} {μ μ2 : Mu} {o : Out} : EvG K g (.val x) ρ ρ1 → Ex K tb ρ1 μ (.nx ρ2 μ2) → C μ2 → Lp K g tb C xs ρ2 μ2 o → Lp K g tb C (x :: xs) ρ μ o
  | cont {x : D} {xs : List D} {ρ ρ1 ρ2 : Env'} {μ μ2 : Mu} {o : Out} : EvG K g (.val x) ρ ρ1 → Ex K tb ρ1 μ (.ct ρ2 μ2) → C μ2 → Lp K g tb C xs ρ2 μ2 o → Lp K g tb C (x :: xs) ρ μ o
  | brk {x : D} {xs : List D} {ρ ρ1 ρ2 : Env'} {μ μ2 : Mu} : EvG K g (.val x) ρ ρ1 → Ex K tb ρ1 μ (.bk ρ2 μ2) → Lp K g tb C (x :: xs) ρ μ (.nx ρ2 μ2)
  | ret {x : D} {xs : List D} {ρ ρ1 : Env'} {μ μ2 : Mu} {w : W} : EvG K g (.val x) ρ ρ1 → Ex K tb ρ1 μ (.rt w μ2) → Lp K g tb C (x :: xs) ρ μ (.rt w μ2)
theorem ex_for {wi : TI} {g : TG} {tb : TS} {C : Mu → Prop} {xs : List D} (hi : EvI K wi ρ μ xs μ1 C) (h : Lp K g tb C xs ρ μ1 o) : Ex K (tFor wi g tb) ρ μ o := fun P as σ G H R E q =>
  hi.2 P as σ G H R _ fun J as0 G0 H0 n0 R0 it => by
    refine ⟨fun i m σ' H' => m = xs.length - i ∧ i ≤ xs.length ∧ ∃ as' G' ρ' μ', Nx P as G H as' G' H' ∧ (∃ t, as' = as0 ++ t) ∧ C μ' ∧ Same G0 G' ∧ Rl K G' H' as' P ρ' μ' σ' ∧ Lp K g tb C (xs.drop i) ρ' μ' o, ⟨xs.length, rfl, Nat.zero_le _, as0, G0, ρ, μ1, n0, ⟨[], by simp⟩, hi.1, Same.refl _, R0, h⟩, ?_⟩
    rintro i m σ' H' ⟨rfl, hi, as', G', ρ', μ', n', a', c', s', R', l'⟩
    obtain ⟨go, stop⟩ := it i P as' ρ' μ' σ' G' H' s' a' c' R'
    cases e : xs[i]? with
    | none =>
      have hd : xs.drop i = [] := List.drop_eq_nil_of_le (List.getElem?_eq_none_iff.mp e)
      rw [hd] at l'
      cases l'
      exact .inl ⟨stop e, q as' σ' G' H' n' R'⟩
    | some d =>
      have hlt : i < xs.length := (List.getElem?_eq_some_iff.mp e).1
      have hd : xs.drop i = d :: xs.drop (i + 1) := by
        rw [List.drop_eq_getElem_cons hlt]
        have := (List.getElem?_eq_some_iff.mp e).2
        rw [this]
      obtain ⟨hgo, hy⟩ := go d e
      refine .inr ⟨hgo, _, fun σ2 H2 z => ⟨xs.length - (i + 1), by omega, z⟩, fun x H2 y => ?_⟩
      obtain ⟨G2, n2, R2, r2⟩ := hy x H2 y
      rw [hd] at l'
      cases l' with
      | next hg hb hC hl =>
        refine hg P as' μ' σ' G2 H2 x R2 r2 _ fun σ3 R3 => hb P as' σ3 G2 H2 R3 _ fun as4 σ4 G4 H4 n4 R4 => ?_
        exact ⟨rfl, hlt, as4, G4, _, _, (n'.trans n2).trans n4, pre_tr a' n4.pre, hC, s'.trans (n2.gr.trans n4.gr), R4, hl⟩
      | cont hg hb hC hl =>
        refine hg P as' μ' σ' G2 H2 x R2 r2 _ fun σ3 R3 => hb P as' σ3 G2 H2 R3 _ fun as4 σ4 G4 H4 n4 R4 => ?_
        exact ⟨rfl, hlt, as4, G4, _, _, (n'.trans n2).trans n4, pre_tr a' n4.pre, hC, s'.trans (n2.gr.trans n4.gr), R4, hl⟩
      | brk hg hb =>
        refine hg P as' μ' σ' G2 H2 x R2 r2 _ fun σ3 R3 => hb P as' σ3 G2 H2 R3 _ fun as4 σ4 G4 H4 n4 R4 => ?_
        exact q as4 σ4 G4 H4 ((n'.trans n2).trans n4) R4
      | ret hg hb =>
        refine hg P as' μ' σ' G2 H2 x R2 r2 _ fun σ3 R3 => hb P as' σ3 G2 H2 R3 _ fun v as4 G4 H4 n4 R4 r4 => ?_
        exact q v as4 G4 H4 ((n'.trans n2).trans n4) R4 r4
inductive Wh (K : PySem.W.Frag) [HasW K] (c : TT) (tb : TS) : Nat → Env' → Mu → Out → Prop where
  | stop {n : Nat} {ρ : Env'} {μ μ1 : Mu} : EvB K c ρ μ false μ1 → Wh K c tb n ρ μ (.nx ρ μ1)
  | next {n : Nat} {ρ ρ2 : Env'} {μ μ1 μ2 : Mu} {o : Out} : EvB K c ρ μ true μ1 → Ex K tb ρ μ1 (.nx ρ2 μ2) → Wh K c tb n ρ2 μ2 o → Wh K c tb (n + 1) ρ μ o
  | cont {n : Nat} {ρ ρ2 : Env'} {μ μ1 μ2 : Mu} {o : Out} : EvB K c ρ μ true μ1 → Ex K tb ρ μ1 (.ct ρ2 μ2) → Wh K c tb n ρ2 μ2 o → Wh K c tb (n + 1) ρ μ o
  | brk {n : Nat} {ρ ρ2 : Env'} {μ μ1 μ2 : Mu} : EvB K c ρ μ true μ1 → Ex K tb ρ μ1 (.bk ρ2 μ2) → Wh K c tb n ρ μ (.nx ρ2 μ2)
  | ret {n : Nat} {ρ : Env'} {μ μ1 μ2 : Mu} {w : W} : EvB K c ρ μ true μ1 → Ex K tb ρ μ1 (.rt w μ2) → Wh K c tb n ρ μ (.rt w μ2)
theorem ex_while {c : TT} {tb : TS} {n : Nat} (h : Wh K c tb n ρ μ o) : Ex K (tWhile c tb) ρ μ o := fun P as σ G H R E q => by
  refine ⟨fun m σ' H' => ∃ as' G' ρ' μ', Nx P as G H as' G' H' ∧ Rl K G' H' as' P ρ' μ' σ' ∧ Wh K c tb m ρ' μ' o, ⟨n, as, G, ρ, μ, .refl, R, h⟩, ?_⟩
  rintro m σ' H' ⟨as', G', ρ', μ', n', R', l'⟩
  cases l' with
  | stop hc => exact hc P as' σ' G' H' R' _ fun as1 G1 H1 n1 R1 => iteF (q as1 σ' G1 H1 (n'.trans n1) R1)
  | next hc hb hl =>
    refine hc P as' σ' G' H' R' _ fun as1 G1 H1 n1 R1 => iteT ⟨_, fun σ2 H2 z => ⟨_, Nat.lt_succ_self _, z⟩, hb P as1 σ' G1 H1 R1 _ fun as4 σ4 G4 H4 n4 R4 => ?_⟩
    exact ⟨as4, G4, _, _, (n'.trans n1).trans n4, R4, hl⟩
  | cont hc hb hl =>
    refine hc P as' σ' G' H' R' _ fun as1 G1 H1 n1 R1 => iteT ⟨_, fun σ2 H2 z => ⟨_, Nat.lt_succ_self _, z⟩, hb P as1 σ' G1 H1 R1 _ fun as4 σ4 G4 H4 n4 R4 => ?_⟩
    exact ⟨as4, G4, _, _, (n'.trans n1).trans n4, R4, hl⟩
  | brk hc hb =>
    refine hc P as' σ' G' H' R' _ fun as1 G1 H1 n1 R1 => iteT ⟨fun _ _ => False, fun _ _ z => z.elim, hb P as1 σ' G1 H1 R1 _ fun as4 σ4 G4 H4 n4 R4 => ?_⟩
    exact q as4 σ4 G4 H4 ((n'.trans n1).trans n4) R4
  | ret hc hb =>
    refine hc P as' σ' G' H' R' _ fun as1 G1 H1 n1 R1 => iteT ⟨fun _ _ => False, fun _ _ z => z.elim, hb P as1 σ' G1 H1 R1 _ fun v as4 G4 H4 n4 R4 r4 => ?_⟩
    exact q v as4 G4 H4 ((n'.trans n1).trans n4) R4 r4
def wipeE (ρ : Env') : List Nat → Env'
  | [] => ρ
  | v :: vs => (wipeE ρ vs).set v none
theorem wipeE_len : ∀ {vs : List Nat}, (wipeE ρ vs).length = ρ.length
  | [] => rfl
  | v :: vs => by unfold wipeE; rw [List.length_set, wipeE_len]
theorem wipeE_some {w : W} : ∀ {vs : List Nat} {i : Nat}, (wipeE ρ vs)[i]? = some (some w) → ρ[i]? = some (some w) ∧ i ∉ vs
  | [], i, h => ⟨h, by simp⟩
  | v :: vs, i, h => by
    unfold wipeE at h
    by_cases q : i = v
    · subst q
      have hl := (List.getElem?_eq_some_iff.mp h).1
      rw [List.length_set] at hl
      rw [List.getElem?_set_self hl] at h
      cases h
    · rw [List.getElem?_set_ne (fun z => q z.symm)] at h
      obtain ⟨h1, h2⟩ := wipeE_some h
      exact ⟨h1, by simp [q, h2]⟩
theorem wipe_at {σ : St} {v : V} : ∀ {vs : List Nat} {i : Nat}, σ[i]? = some (some v) → i ∉ vs → (wipe σ vs)[i]? = some (some v)
  | [], _, h, _ => h
  | k :: vs, i, h, hi => by
    unfold wipe
    rw [List.getElem?_set_ne (fun z => hi (by rw [z]; simp))]
    exact wipe_at h fun z => hi (List.mem_cons_of_mem _ z)
theorem set_none_comm {α : Type} {l : List (Option α)} {i j : Nat} : (l.set i none).set j none = (l.set j none).set i none := by
  by_cases h : i = j
  · rw [h]
  · exact List.set_comm _ _ h
theorem wipe_set {σ : St} {x : Option V} {i : Nat} : ∀ {vs : List Nat}, i ∈ vs → wipe (σ.set i x) vs = wipe σ vs
  | [], h => by cases h
  | k :: vs, h => by
    unfold wipe
    by_cases q : i ∈ vs
    · rw [wipe_set q]
    · have e : i = k := by
        rcases List.mem_cons.mp h with z | z
        · exact z
        · exact absurd z q
      subst e
      have aux : ∀ (us : List Nat) (τ : St), (wipe (τ.set i x) us).set i none = (wipe τ us).set i none := by
        intro us
        induction us with
        | nil => intro τ; unfold wipe; rw [List.set_set]
        | cons u us ih =>
          intro τ
          unfold wipe
          rw [set_none_comm, ih, set_none_comm]
      exact aux vs σ
theorem wipe_wipe {σ : St} {vs : List Nat} : wipe (wipe σ vs) vs = wipe σ vs := by
  have aux : ∀ us : List Nat, (∀ u ∈ us, u ∈ vs) → wipe (wipe σ us) vs = wipe σ vs := by
    intro us
    induction us with
    | nil => intro _; rfl
    | cons u us ih =>
      intro h
      show wipe ((wipe σ us).set u none) vs = wipe σ vs
      rw [wipe_set (h u (by simp))]
      exact ih fun k hk => h k (List.mem_cons_of_mem _ hk)
  exact aux vs fun _ h => h
def EvGc (K : PySem.W.Frag) [HasW K] (g : TG) (d : D) (vs : List Nat) (ρ ρ' : Env') : Prop := ∀ (P : Addr → Prop) (as : List Addr) (μ : Mu) (σ : St) (G H : Hp) (v : V), Rl K G H as P ρ μ σ → Rep K G d v → ∀ Q : St → Hp → Prop,
  (∀ σ', Rl K G H as P ρ' μ σ' → wipe σ' vs = wipe σ vs → Q σ' H) → g v σ H Q
def EvGcs (K : PySem.W.Frag) [HasW K] (g : TGs) (ds : List D) (vs : List Nat) (ρ ρ' : Env') : Prop := ∀ (P : Addr → Prop) (as : List Addr) (μ : Mu) (σ : St) (G H : Hp) (v : List V), Rl K G H as P ρ μ σ → RepL K G ds v → ∀ Q : St → Hp → Prop,
  (∀ σ', Rl K G H as P ρ' μ σ' → wipe σ' vs = wipe σ vs → Q σ' H) → g v σ H Q
theorem egc_name {vs : List Nat} (h : i ∈ vs := by decide) : EvGc K (gName i) d vs ρ (ρ.set i (some (.val d))) := fun P as μ σ G H v R r Q q => q _ (R.set (w := .val d) r) (wipe_set h)
theorem egcs_nil {vs : List Nat} : EvGcs K gNil [] vs ρ ρ := fun P as μ σ G H v R r Q q => ⟨r, q σ R rfl⟩
theorem egcs_cons {vs : List Nat} {g : TG} {gs : TGs} {ds : List D} (h1 : EvGc K g d vs ρ ρ1) (h2 : EvGcs K gs ds vs ρ1 ρ2) : EvGcs K (gCons g gs) (d :: ds) vs ρ ρ2 := fun P as μ σ G H vs' R ⟨v, r, ev, r1, r2⟩ Q q =>
  ⟨v, r, ev, h1 P as μ σ G H v R r1 _ fun σ1 R1 e1 => h2 P as μ σ1 G H r R1 r2 Q fun σ2 R2 e2 => q σ2 R2 (e2.trans e1)⟩
theorem egc_tup {vs : List Nat} {n : Nat} {gs : TGs} {ds : List D} (hn : ds.length = n) (h : EvGcs K gs ds vs ρ ρ1) : EvGc K (gTup K n gs) (.tup ds) vs ρ ρ1 := fun P as μ σ G H v R ⟨hz, a, us, ev, hs, hr⟩ Q q =>
  ⟨a, us, ev, same_sqt R.sub hs, by rw [hr.length]; exact hn, h P as μ σ G H us R hr Q q⟩
inductive Lc (K : PySem.W.Frag) [HasW K] (g : TG) (tt : TT) (te : TE) (vs : List Nat) (C : Mu → Prop) (ρ : Env') : List D → Mu → List D → Mu → Prop where
  | nil {μ : Mu} : Lc K g tt te vs C ρ [] μ [] μ
  | skip {x : D} {xs ys : List D} {ρ1 : Env'} {μ μ1 μ' : Mu} : EvGc K g x vs ρ ρ1 → EvB K tt ρ1 μ false μ1 → C μ1 → Lc K g tt te vs C ρ xs μ1 ys μ' → Lc K g tt te vs C ρ (x :: xs) μ ys μ'
  | take {x y : D} {xs ys : List D} {ρ1 : Env'} {μ μ1 μ2 μ' : Mu} : EvGc K g x vs ρ ρ1 → EvB K tt ρ1 μ true μ1 → Ev K te ρ1 μ1 (.val y) μ2 → C μ2 → Lc K g tt te vs C ρ xs μ2 ys μ' → Lc K g tt te vs C ρ (x :: xs) μ (y :: ys) μ'
section
variable {G H : Hp} {as : List Addr} {P P' : Addr → Prop} {σ : St}
theorem Rl.weak (R : Rl K G H as P' ρ μ σ) (h : ∀ a, P a → P' a) : Rl K G H as P ρ μ σ := ⟨R.sub, fun a q => R.pro a (h a q), R.nd, R.len, R.mu, R.wf, R.sz, R.env, R.tb.mono (Same.refl _) R.tb.1 fun a t0 t1 t2 _ => ⟨fun z => t0 (h a z), t1, t2, rfl⟩⟩
theorem Rl.guard (R : Rl K G H as P ρ μ σ) {p : Addr} (hg : G p = none) (hh : H p ≠ none) (ha : p ∉ as) (ht : ∀ q ∈ HasW.ts K, q.1 ≠ p) : Rl K G H as (fun a => P a ∨ a = p) ρ μ σ := ⟨R.sub, fun a q => by
  rcases q with q | q
  · exact R.pro a q
  · subst q; exact ⟨hg, hh, ha⟩, R.nd, R.len, R.mu, R.wf, R.sz, R.env, R.tb.1, fun q hq => let z := R.tb.2 q hq; ⟨fun y => y.elim z.1 (ht q hq), z.2⟩⟩
theorem Rl.touch (R : Rl K G H as P ρ μ σ) {p : Addr} (hp : P p) (o : HO) : Rl K G (upd H p o) as P ρ μ σ := by
  obtain ⟨g, _, n⟩ := R.pro p hp
  refine ⟨fun b u h => ?_, fun a q => ?_, R.nd, R.len, fun j a m h1 h2 => ?_, R.wf, R.sz, R.env, R.tb.mono (Same.refl _) R.tb.1 fun a t0 t1 t2 _ => ⟨t0, t1, t2, upd_ne (show a ≠ p from fun z => t0 (by rw [z]; exact hp))⟩⟩
  · rw [upd_ne (ne_of_none h g)]
    exact R.sub _ _ h
  · obtain ⟨h1, h2, h3⟩ := R.pro a q
    refine ⟨h1, ?_, h3⟩
    by_cases z : a = p
    · subst z
      rw [upd_same]
      simp
    · rw [upd_ne z]
      exact h2
  · have z : a ≠ p := fun e => n (e ▸ List.mem_of_getElem? h1)
    exact (R.mu j a m h1 h2).mono (Same.refl _) id (upd_ne z) ⟨[], by simp⟩
theorem Rl.adopt (R : Rl K G H as P' ρ μ σ) {p : Addr} {o : HO} (hp : P' p) (hP : ∀ a, P a → P' a ∧ a ≠ p) (hH : H p = some o) (ho : ∀ ps, o ≠ HO.tbl ps := by intro ps z; cases z) : Rl K (upd G p o) H as P ρ μ σ := by
  obtain ⟨g, _, n⟩ := R.pro p hp
  have e : Same G (upd G p o) := fun b u h => by rw [upd_ne (ne_of_none h g)]; exact h
  refine ⟨fun b u h => ?_, fun a q => ?_, R.nd, R.len, fun j a m h1 h2 => ?_, R.wf, R.sz, fun i w h => ?_, R.tb.mono e (R.tb.updN ho) fun a t0 t1 t2 _ => ⟨fun z => t0 (hP a z).1, by rw [upd_ne (show a ≠ p from fun z => t0 (by rw [z]; exact hp))]; exact t1, t2, rfl⟩⟩
  · by_cases z : b = p
    · subst z
      rw [upd_same] at h
      rw [hH]
      exact h
    · rw [upd_ne z] at h
      exact R.sub _ _ h
  · obtain ⟨q1, q2⟩ := hP a q
    obtain ⟨h1, h2, h3⟩ := R.pro a q1
    exact ⟨by rw [upd_ne q2]; exact h1, h2, h3⟩
  · have z : a ≠ p := fun e => n (e ▸ List.mem_of_getElem? h1)
    exact (R.mu j a m h1 h2).mono e (fun g => by rw [upd_ne z]; exact g) rfl ⟨[], by simp⟩
  · obtain ⟨v, h1, h2⟩ := R.env i w h
    exact ⟨v, h1, h2.mono e ⟨[], by simp⟩⟩
theorem Rl.wipe (R : Rl K G H as P ρ μ σ) (vs : List Nat) : Rl K G H as P (wipeE ρ vs) μ (L2.wipe σ vs) :=
  R.to (by rw [wipeE_len, wipe_length]; exact R.sz) fun i w h => by
    obtain ⟨h1, h2⟩ := wipeE_some h
    obtain ⟨v, h3, h4⟩ := R.env i w h1
    exact ⟨v, wipe_at h3 h2, h4⟩
end
theorem Nx.weak {P P' : Addr → Prop} {as as' : List Addr} {G G' H H' : Hp} (n : Nx P' as G H as' G' H') (h : ∀ a, P a → P' a) : Nx P as G H as' G' H' := ⟨n.pre, n.gr, fun a q => n.kp a (h a q)⟩
theorem ev_lc {wi : TI} {g : TG} {tt : TT} {vs : List Nat} {C : Mu → Prop} {xs ys : List D} (hi : EvI K wi ρ μ xs μ1 C) (h : Lc K g tt te vs C (wipeE ρ vs) xs μ1 ys μ2) (hz : xs.length ≤ LB) : Ev K (tLc wi g tt te vs) ρ μ (.val (.lst ys)) μ2 := fun P as σ G H R Q q =>
  hi.2 P as σ G H R _ fun J as0 G0 H0 n0 R0 it => fun p hp => by
    have gp : G0 p = none := R0.sub.free hp
    have np : ∀ a, P a → a ≠ p := fun a ha z => (R0.pro a ha).2.1 (by rw [z]; exact hp)
    have pas : p ∉ as0 := fun z => R0.here z hp
    refine ⟨fun i m H' => m = xs.length - i ∧ i ≤ xs.length ∧ ∃ as' G' μ' acc done rest, ys = done ++ rest ∧ Nx P as G H as' G' H' ∧ (∃ t, as' = as0 ++ t) ∧ C μ' ∧ Same G0 G' ∧ Rl K G' H' as' (fun a => P a ∨ a = p) ρ μ' σ ∧ H' p = some (.lst acc) ∧ RepL K G' done acc ∧ Lc K g tt te vs C (wipeE ρ vs) (xs.drop i) μ' rest μ2 ∧ done.length ≤ i,
      ⟨xs.length, rfl, Nat.zero_le _, as0, G0, μ1, [], [], ys, rfl, ?_, ⟨[], by simp⟩, hi.1, Same.refl _, ?_, upd_same, rfl, h, Nat.le_refl _⟩, ?_⟩
    · exact ⟨n0.pre, n0.gr, fun a ha => by rw [upd_ne (np a ha)]; exact n0.kp a ha⟩
    · have R1 := (R0.mut (m := .gone) hp (o := .lst []) (by show upd H0 p _ p ≠ none; rw [upd_same]; simp) rfl).1
      have R2 : Rl K G0 (upd H0 p (.lst [])) as0 P ρ μ1 σ := by
        refine ⟨R1.sub, fun a ha => ?_, R0.nd, R0.len, fun j a m h1 h2 => ?_, R0.wf, R0.sz, R0.env, R0.tb.mono (Same.refl _) R0.tb.1 fun a t0 t1 t2 t3 => ⟨t0, t1, t2, upd_ne fun z => t3 (by rw [z]; exact hp)⟩⟩
        · obtain ⟨h1, h2, h3⟩ := R0.pro a ha
          exact ⟨h1, by rw [upd_ne (np a ha)]; exact h2, h3⟩
        · have z : a ≠ p := fun e => pas (e ▸ List.mem_of_getElem? h1)
          exact (R0.mu j a m h1 h2).mono (Same.refl _) id (upd_ne z) ⟨[], by simp⟩
      exact R2.guard gp (by rw [upd_same]; simp) pas (R0.tb.ne hp)
    rintro i m H' ⟨rfl, hi, as', G', μ', acc, done, rest, ey, n', a', c', s', R', hH, rl, l', dl⟩
    obtain ⟨go, stop⟩ := it i _ as' ρ μ' σ G' H' s' a' c' R'
    cases e : xs[i]? with
    | none =>
      have hd : xs.drop i = [] := List.drop_eq_nil_of_le (List.getElem?_eq_none_iff.mp e)
      rw [hd] at l'
      cases l'
      rw [List.append_nil] at ey
      subst ey
      refine .inl ⟨stop e, ?_⟩
      have R3 : Rl K (upd G' p (.lst acc)) H' as' P ρ μ2 σ := R'.adopt (p := p) (.inr rfl) (fun a ha => ⟨.inl ha, np a ha⟩) hH
      have g' : G' p = none := (R'.pro p (.inr rfl)).1
      have s3 : Same G' (upd G' p (.lst acc)) := fun b u h => by rw [upd_ne (ne_of_none h g')]; exact h
      refine q _ as' _ H' ⟨n'.pre, n'.gr.trans s3, n'.kp⟩ R3 ⟨?_, p, acc, rfl, upd_same, RepL.mono s3 _ _ rl⟩
      have := List.getElem?_eq_none_iff.mp e
      omega
    | some d =>
      have hlt : i < xs.length := (List.getElem?_eq_some_iff.mp e).1
      have hd : xs.drop i = d :: xs.drop (i + 1) := by
        rw [List.drop_eq_getElem_cons hlt]
        have := (List.getElem?_eq_some_iff.mp e).2
        rw [this]
      obtain ⟨hgo, hy⟩ := go d e
      refine .inr ⟨hgo, _, fun H2 z => ⟨xs.length - (i + 1), by omega, z⟩, fun x H2 y => ?_⟩
      obtain ⟨G2, n2, R2, r2⟩ := hy x H2 y
      rw [hd] at l'
      have np2 : ∀ a, P a → P a ∨ a = p := fun a ha => .inl ha
      cases l' with
      | skip hg ht hC hl =>
        refine hg _ as' μ' _ G2 H2 x (R2.wipe vs) r2 _ fun σ3 R3 e3 => ⟨e3.trans wipe_wipe, ht _ as' σ3 G2 H2 R3 _ fun as4 G4 H4 n4 R4 => iteF ?_⟩
        refine ⟨rfl, hlt, as4, G4, _, acc, done, rest, ey, n'.trans ((n2.trans n4).weak np2), pre_tr a' n4.pre, hC, s'.trans (n2.gr.trans n4.gr), ?_, ?_, RepL.mono (n2.gr.trans n4.gr) _ _ rl, hl, Nat.le_succ_of_le dl⟩
        · exact R4.to R2.sz fun k w hk => by
            obtain ⟨v, h1, h2⟩ := R2.env k w hk
            exact ⟨v, h1, h2.mono n4.gr n4.pre⟩
        · exact (n4.kp p (.inr rfl)).trans ((n2.kp p (.inr rfl)).trans hH)
      | take hg ht hv hC hl =>
        rename_i yv ys' ρ1 μ1' μ2'
        refine hg _ as' μ' _ G2 H2 x (R2.wipe vs) r2 _ fun σ3 R3 e3 => ⟨e3.trans wipe_wipe, ht _ as' σ3 G2 H2 R3 _ fun as4 G4 H4 n4 R4 => iteT ?_⟩
        refine hv _ as4 σ3 G4 H4 R4 _ fun v5 as5 G5 H5 n5 R5 r5 => ?_
        have h5 : H5 p = some (.lst acc) := (n5.kp p (.inr rfl)).trans ((n4.kp p (.inr rfl)).trans ((n2.kp p (.inr rfl)).trans hH))
        have al : acc.length = done.length := rl.length
        refine ⟨acc, h5, by rw [al]; exact Nat.lt_of_lt_of_le (Nat.lt_of_le_of_lt dl hlt) (Nat.le_trans hz (by decide)), ?_⟩
        have ng := (n2.trans n4).trans n5
        refine ⟨rfl, hlt, as5, G5, _, acc ++ [v5], done ++ [_], _, by rw [ey, List.append_assoc]; rfl, ?_, pre_tr a' (n4.trans n5).pre, hC, s'.trans ng.gr, ?_, upd_same, (RepL.mono ng.gr _ _ rl).append (RepL.cons r5 RepL.nil), hl, by rw [List.length_append]; exact Nat.succ_le_succ dl⟩
        · have n6 := n'.trans (ng.weak np2)
          exact ⟨n6.pre, n6.gr, fun a ha => by rw [upd_ne (np a ha)]; exact n6.kp a ha⟩
        · have R6 : Rl K G5 H5 as5 (fun a => P a ∨ a = p) ρ μ2' σ := R5.to R2.sz fun k w hk => by
            obtain ⟨v, h1, h2⟩ := R2.env k w hk
            exact ⟨v, h1, h2.mono (n4.gr.trans n5.gr) (n4.trans n5).pre⟩
          exact R6.touch (.inr rfl) _
theorem eb_yes : EvB K tYes ρ μ true μ := fun P as σ G H R Q q => q as G H .refl R
theorem lc_map {g : TG} {vs : List Nat} {C : Mu → Prop} (hC : C μ) {f : D → D} : ∀ {xs : List D}, (∀ x ∈ xs, ∃ ρ1, EvGc K g x vs ρ ρ1 ∧ Ev K te ρ1 μ (.val (f x)) μ) → Lc K g tYes te vs C ρ xs μ (xs.map f) μ
  | [], _ => .nil
  | x :: xs, h => by
    obtain ⟨ρ1, h1, h3⟩ := h x (by simp)
    exact .take h1 eb_yes h3 hC (lc_map hC fun y hy => h y (List.mem_cons_of_mem _ hy))
end
end DK
namespace DK
open PySem PySem.Spec L2
section
variable {K : PySem.W.Frag} [HasW K] {ρ ρ1 ρ2 : Env'} {μ μ1 μ2 μ3 : Mu} {ta tb te tc : TE} {w : W} {a b d : D} {i : Nat} {G H : Hp} {as : List Addr} {P : Addr → Prop} {σ : St}
abbrev Phi := List W → Mu → W → Mu → Prop
def spD (K : PySem.W.Frag) [HasW K] (Φ : Phi) : Sp := fun vs H Q _ => ∃ (P : Addr → Prop) (as : List Addr) (G : Hp) (ws : List W) (μ : Mu) (w : W) (μ' : Mu), Φ ws μ w μ' ∧ Rl K G H as P (ws.map some) μ (vs.map some) ∧
  ∀ v as' G' H', Nx P as G H as' G' H' → Rl K G' H' as' P [] μ' [] → RepW K G' as' w v → Q v H'
def PhiR (r : List D → D → Prop) : Phi := fun ws μ w μ' => ∃ ds d, ws = ds.map W.val ∧ r ds d ∧ w = .val d ∧ μ' = μ
abbrev spR (K : PySem.W.Frag) [HasW K] (r : List D → D → Prop) : Sp := spD K (PhiR r)
theorem RepWs.get : ∀ {ws : List W} {vs : List V} {i : Nat} {w : W}, RepWs K G as ws vs → ws[i]? = some w → ∃ v, vs[i]? = some v ∧ RepW K G as w v
  | [], _, _, _, _, e => by simp at e
  | _ :: _, _, 0, _, ⟨v, r, ev, h1, _⟩, e => by
    subst ev
    simp at e
    subst e
    exact ⟨v, rfl, h1⟩
  | _ :: _, _, i + 1, d, ⟨v, r, ev, _, h2⟩, e => by
    subst ev
    obtain ⟨u, q1, q2⟩ := RepWs.get (i := i) (w := d) h2 (by simpa using e)
    exact ⟨u, by simpa using q1, q2⟩
theorem RepWs.append : ∀ {ds es : List W} {vs us : List V}, RepWs K G as ds vs → RepWs K G as es us → RepWs K G as (ds ++ es) (vs ++ us)
  | [], _, _, _, h, k => by rw [show _ = [] from h]; exact k
  | _ :: _, _, _, _, ⟨v, r, e, h1, h2⟩, k => by rw [e]; exact ⟨v, r ++ _, rfl, h1, RepWs.append h2 k⟩
theorem Rl.args (R : Rl K G H as P ρ μ σ) {ws : List W} {vs : List V} (h : RepWs K G as ws vs) : Rl K G H as P (ws.map some) μ (vs.map some) :=
  R.to (by rw [List.length_map, List.length_map, h.length]) fun i w q => by
    rw [List.getElem?_map] at q
    cases e : ws[i]? with
    | none => rw [e] at q; cases q
    | some u =>
      rw [e] at q
      cases q
      obtain ⟨v, h1, h2⟩ := h.get e
      exact ⟨v, by rw [List.getElem?_map, h1]; rfl, h2⟩
theorem Rl.back {as' : List Addr} {G' H' : Hp} (R : Rl K G H as P ρ μ σ) (n : Nx P as G H as' G' H') (R' : Rl K G' H' as' P [] μ1 []) : Rl K G' H' as' P ρ μ1 σ :=
  R'.to R.sz fun i w h => by
    obtain ⟨v, h1, h2⟩ := R.env i w h
    exact ⟨v, h1, h2.mono n.gr n.pre⟩
theorem call_phi {Φ : Phi} {ws : List W} {vs : List V} {Q : VK} {E : XK} (R : Rl K G H as P ρ μ σ) (r : RepWs K G as ws vs) (h : Φ ws μ w μ1) (q : ∀ v as' G' H', Nx P as G H as' G' H' → Rl K G' H' as' P ρ μ1 σ → RepW K G' as' w v → Q v H') : spD K Φ vs H Q E :=
  ⟨P, as, G, ws, μ, w, μ1, h, R.args r, fun v as' G' H' n R' rv => q v as' G' H' n (R.back n R') rv⟩
def Dfl (K : PySem.W.Frag) (ds : List D) (vs : List V) : Prop := ∀ G, RepL K G ds vs
theorem dfl_nil : Dfl K [] [] := fun _ => rfl
theorem lookup_zip_none {m : Str} : ∀ {ns : List Str} {vs : List V}, ns.contains m = false → (ns.zip vs).lookup m = none
  | [], _, _ => by simp
  | _ :: _, [], _ => by simp
  | n :: ns, v :: vs, h => by
    rw [List.contains_cons, Bool.or_eq_false_iff] at h
    rw [List.zip_cons_cons, List.lookup_cons, h.1]
    exact lookup_zip_none h.2
theorem lookup_fs {m : Str} : ∀ {fs : List (Str × W)} {vs : List (Str × V)}, RepFs K G as fs vs → fs.lookup m = none → vs.lookup m = none
  | [], _, h, _ => by rw [show _ = [] from h]; rfl
  | (f, w) :: fs, _, ⟨v, r, ev, _, h2⟩, h => by
    subst ev
    rw [List.lookup_cons] at h ⊢
    cases e : m == f with
    | true => rw [e] at h; cases h
    | false =>
      rw [e] at h
      exact lookup_fs h2 h
theorem lookup_fsome {m : Str} : ∀ {fs : List (Str × W)} {vs : List (Str × V)} {w : W}, RepFs K G as fs vs → fs.lookup m = some w → ∃ v, vs.lookup m = some v ∧ RepW K G as w v
  | [], _, _, _, h => by cases h
  | (f, w') :: fs, _, w, ⟨v, r, ev, h1, h2⟩, h => by
    subst ev
    rw [List.lookup_cons] at h ⊢
    cases e : m == f with
    | true =>
      rw [e] at h
      cases h
      exact ⟨v, rfl, h1⟩
    | false =>
      rw [e] at h
      exact lookup_fsome h2 h
theorem ev_fldM {c f : Str} {j : Nat} {fs : List (Str × W)} (ho : Ev K ta ρ μ (.loc j) μ1) (hj : μ1[j]? = some (.ins c fs)) (hc : Cls K (He.ga K c)) (hn : NoAttr K (He.ga K c) f) (hf : fs.lookup f = some w) : Ev K (tFld K ta f) ρ μ w μ1 := fun P as σ G H R Q q =>
  ho P as σ G H R _ fun v as1 G1 H1 n1 R1 r1 => by
    obtain ⟨a, ha', ev⟩ := id r1
    obtain ⟨g, z, dx, vs, hh, rf⟩ := R1.mu j a _ ha' hj
    obtain ⟨u, e1, e2⟩ := lookup_fsome rf hf
    exact ⟨a, _, dx, _, u, ev, hh, hc, hn, e1, q u as1 G1 H1 n1 R1 e2⟩
def putW (f : Str) (w : W) : List (Str × W) → List (Str × W)
  | [] => [(f, w)]
  | (g, x) :: r => if g = f then (g, w) :: r else (g, x) :: putW f w r
theorem putW_rep {f : Str} {v : V} (hw : RepW K G as w v) : ∀ {fs : List (Str × W)} {vs : List (Str × V)}, RepFs K G as fs vs → RepFs K G as (putW f w fs) (putF f v vs)
  | [], _, h => by
    rw [show _ = [] from h]
    exact ⟨v, [], rfl, hw, rfl⟩
  | (g, x) :: fs, _, ⟨u, r, ev, h1, h2⟩ => by
    subst ev
    unfold putW putF
    by_cases e : g = f
    · rw [if_pos e, if_pos e]
      exact ⟨v, r, rfl, hw, h2⟩
    · rw [if_neg e, if_neg e]
      exact ⟨u, _, rfl, h1, putW_rep hw h2⟩
theorem putW_len {w : W} {f : Str} : ∀ {fs : List (Str × W)}, (putW f w fs).length ≤ fs.length + 1
  | [] => Nat.le_refl _
  | (g, x) :: fs => by
    unfold putW
    split
    · simp
    · simp only [List.length_cons]
      have := putW_len (f := f) (w := w) (fs := fs)
      omega
theorem putW_below {f : Str} {n : Nat} (hw : w.below n = true) : ∀ {fs : List (Str × W)}, (fs.all fun p => p.2.below n) = true → ((putW f w fs).all fun p => p.2.below n) = true
  | [], _ => by
    show (w.below n && true) = true
    rw [hw]
    rfl
  | (g, x) :: fs, h => by
    rw [List.all_cons, Bool.and_eq_true] at h
    unfold putW
    split
    · rw [List.all_cons, Bool.and_eq_true]
      exact ⟨hw, h.2⟩
    · rw [List.all_cons, Bool.and_eq_true]
      exact ⟨h.1, putW_below hw h.2⟩
theorem RepFs.length : ∀ {fs : List (Str × W)} {vs : List (Str × V)}, RepFs K G as fs vs → vs.length = fs.length
  | [], _, h => by rw [show _ = [] from h]; rfl
  | (_, _) :: _, _, ⟨_, _, e, _, h⟩ => by rw [e, List.length_cons, List.length_cons, RepFs.length h]
theorem ex_fld {c f : Str} {j : Nat} {fs : List (Str × W)} (hv : Ev K tb ρ μ w μ1) (ho : Ev K ta ρ μ1 (.loc j) μ2) (hj : μ2[j]? = some (.ins c fs)) (hc : Cls K (He.ga K c)) (hn : NoAttr K (He.ga K c) f) (hz : fs.length < 100) (hw : w.below μ2.length = true) :
    Ex K (sFld K ta tb f) ρ μ (.nx ρ (μ2.set j (.ins c (putW f w fs)))) := fun P as σ G H R E q =>
  hv P as σ G H R _ fun v as1 G1 H1 n1 R1 r1 => ho P as1 σ G1 H1 R1 _ fun x as2 G2 H2 n2 R2 r2 => by
    obtain ⟨a, ha', ev⟩ := id r2
    obtain ⟨g, z, dx, vs, hh, rf⟩ := R2.mu j a _ ha' hj
    refine ⟨a, _, dx, vs, ev, hh, hc, hn, by rw [rf.length]; omega, ?_⟩
    have r1' := r1.mono n2.gr n2.pre
    obtain ⟨R3, n3⟩ := R2.put (o := .ins (He.ga K c) dx (putF f v vs)) (m' := .ins c (putW f w fs)) ha' hj g ⟨g, by have := putW_len (f := f) (w := w) (fs := fs); omega, dx, _, upd_same, putW_rep r1' rf⟩
      (putW_below hw (R2.wf _ (List.mem_of_getElem? hj)))
    exact q as2 σ G2 _ ((n1.trans n2).trans n3) R3
theorem RepFs.vals : ∀ {ns : List Str} {ds : List D} {vs : List (Str × V)}, ns.length = ds.length → RepFs K G as (ns.zip (ds.map W.val)) vs → ∃ us, vs = ns.zip us ∧ RepL K G ds us
  | [], [], _, _, h => ⟨[], h, rfl⟩
  | [], _ :: _, _, e, _ => by cases e
  | _ :: _, [], _, e, _ => by cases e
  | n :: ns, d :: ds, _, e, ⟨v, r, ev, h1, h2⟩ => by
    obtain ⟨us, e1, e2⟩ := RepFs.vals (by simpa using e) h2
    subst ev e1
    exact ⟨v :: us, rfl, v, us, rfl, h1, e2⟩
theorem Rl.junk (R : Rl K G H as P ρ μ σ) {p : Addr} (hp : H p = none) (o : HO) : Rl K G (upd H p o) as P ρ μ σ ∧ Nx P as G H as G (upd H p o) := by
  have gp : G p = none := R.sub.free hp
  have ne : ∀ {a}, H a ≠ none → a ≠ p := fun h z => h (by rw [z]; exact hp)
  refine ⟨⟨fun b u h => ?_, fun a h => ?_, R.nd, R.len, fun j a m h1 h2 => ?_, R.wf, R.sz, R.env, R.tb.mono (Same.refl _) R.tb.1 fun a t0 t1 t2 t3 => ⟨t0, t1, t2, upd_ne (ne t3)⟩⟩, ⟨⟨[], by simp⟩, Same.refl _, fun a h => upd_ne (ne (R.pro a h).2.1)⟩⟩
  · rw [upd_ne (ne_of_none h gp)]
    exact R.sub _ _ h
  · obtain ⟨h1, h2, h3⟩ := R.pro a h
    exact ⟨h1, by rw [upd_ne (ne h2)]; exact h2, h3⟩
  · have q := R.mu j a m h1 h2
    exact q.mono (Same.refl _) id (upd_ne (ne (q.here R.sub))) ⟨[], by simp⟩
theorem Rl.settle (R : Rl K G H as P ρ (μ ++ [.ins c (ns.zip (fs.map W.val))]) σ) (hl : ns.length = fs.length) (wf : ∀ m : MO, m ∈ μ → m.below μ.length = true) {x : Addr} {as0 : List Addr} (ha : as = as0 ++ [x])
    (he : ∀ (i : Nat) (w : W), ρ[i]? = some (some w) → w.below μ.length = true) (ck : ClsOk K (He.ga K c)) : ∃ G', Same G G' ∧ Rl K G' H as0 P ρ μ σ ∧ Rep K G' (.obj c ns fs) (.ref x) := by
  have hlen : as0.length = μ.length := by
    have := R.len
    rw [ha] at this
    simpa using this
  have hx : as[μ.length]? = some x := by rw [ha, ← hlen, List.getElem?_append_right (Nat.le_refl _)]; simp
  obtain ⟨g, z, dx, vs, hh, rf⟩ := R.mu μ.length x _ hx (by rw [List.getElem?_append_right (Nat.le_refl _)]; simp; rfl)
  obtain ⟨us, e1, e2⟩ := RepFs.vals hl rf
  subst e1
  have hd := R.drop (μ0 := μ) (t := [.ins c (ns.zip (fs.map W.val))]) rfl wf
  have tk : as.take μ.length = as0 := by rw [ha, ← hlen]; simp
  rw [tk] at hd
  have xn : x ∉ as0 := fun hm => by
    have := R.nd
    rw [ha] at this
    exact (List.nodup_append.mp this).2.2 x hm x (by simp) rfl
  have xP : ∀ a, P a → a ≠ x := fun a hp z => (R.pro a hp).2.2 (by rw [ha, z]; simp)
  have e : Same G (upd G x (.ins (He.ga K c) dx (ns.zip us))) := fun b u h => by rw [upd_ne (ne_of_none h g)]; exact h
  have R1 : Rl K G H as0 P ρ μ σ := hd.to R.sz fun i w h => by
    obtain ⟨v, h1, h2⟩ := R.env i w h
    refine ⟨v, h1, ?_⟩
    have hb := he i w h
    cases w with
    | val d => exact h2
    | loc k =>
      obtain ⟨b, q1, q2⟩ := h2
      refine ⟨b, ?_, q2⟩
      rw [ha, List.getElem?_append_left (by rw [hlen]; exact of_decide_eq_true hb)] at q1
      exact q1
  refine ⟨_, e, (R1.guard g (by rw [hh]; simp) xn (R1.tb.neo hh fun ps z => by cases z)).adopt (p := x) (.inr rfl) (fun a hp => ⟨.inl hp, xP a hp⟩) hh, ck, x, dx, us, rfl, upd_same, hl, RepL.mono e _ _ e2⟩
structure FnD (K : PySem.W.Frag) [HasW K] (t : TS) (n : Nat) (Φ : Phi) : Prop where
  run : ∀ (ws : List W) (μ : Mu) (w : W) (μ' : Mu), Φ ws μ w μ' → (∀ m : MO, m ∈ μ → m.below μ.length = true) → ∃ tail : Mu, μ.length ≤ μ'.length ∧ w.below μ'.length = true ∧ (∀ m : MO, m ∈ μ' → m.below μ'.length = true) ∧
    (Ex K t (ws.map some ++ List.replicate (n - ws.length) none) μ (.rt w (μ' ++ tail)) ∨ (w = .val .non ∧ ∃ ρ', Ex K t (ws.map some ++ List.replicate (n - ws.length) none) μ (.nx ρ' (μ' ++ tail))))
theorem fn_rd {t : TS} {N : List Str} {Φ : Phi} (F : FnD K t N.length Φ) {vs : List V} {Q : VK} {E : XK} (h : spD K Φ vs H Q E) : t { nx := fun _ H' => Q .non H', rt := Q } (L2.start N vs) H := by
  obtain ⟨P, as, G, ws, μ, w, μ', hΦ, R, q⟩ := h
  obtain ⟨tail, hl, hb, hwf, ho⟩ := F.run ws μ w μ' hΦ R.wf
  have hz : ws.length = vs.length := by simpa using R.sz
  have R0 : Rl K G H as P (ws.map some ++ List.replicate (N.length - ws.length) none) μ (L2.start N vs) := R.to (by unfold L2.start; simp [hz]) fun i w hi => by
    unfold L2.start
    by_cases hlt : i < ws.length
    · rw [List.getElem?_append_left (by simpa using hlt)] at hi
      rw [List.getElem?_append_left (by simpa [← hz] using hlt)]
      exact R.env i w hi
    · rw [List.getElem?_append_right (by simpa using hlt)] at hi
      rw [List.getElem?_replicate] at hi
      split at hi <;> cases hi
  have fin : ∀ v as' G' H', Nx P as G H as' G' H' → Rl K G' H' as' P [] (μ' ++ tail) [] → RepW K G' as' w v → Q v H' := fun v as' G' H' n R' r => by
    refine q v (as'.take μ'.length) G' H' ⟨?_, n.gr, n.kp⟩ (R'.drop rfl hwf) ?_
    · obtain ⟨t, et⟩ := n.pre
      refine ⟨t.take (μ'.length - as.length), ?_⟩
      have : as.length ≤ μ'.length := by rw [R.len]; exact hl
      rw [et, List.take_append, List.take_of_length_le this]
    · cases w with
      | val d => exact r
      | loc k =>
        obtain ⟨b, q1, q2⟩ := r
        exact ⟨b, by rw [List.getElem?_take_of_lt (of_decide_eq_true hb)]; exact q1, q2⟩
  rcases ho with ho | ⟨ew, ρ', ho⟩
  · exact ho P as _ G H R0 _ fun v as' G' H' n R' r => fin v as' G' H' n R' r
  · exact ho P as _ G H R0 _ fun as' σ' G' H' n R' => fin .non as' G' H' n R'.nil (by rw [ew]; rfl)
end
end DK
namespace DK
open PySem PySem.Spec L2
section
variable {K : PySem.W.Frag} [HasW K]
theorem OpR.or {X : Cx} {f : Value → Value → Sem Value} {r r' : R2} (h : OpR X f r) (h' : OpR X f r') : OpR X f (fun x y H Q => r x y H Q ∨ r' x y H Q) := fun pins s σ H x y u v Q I rx ry q => by
  rcases q with q | q
  · exact h pins s σ H x y u v Q I rx ry q
  · exact h' pins s σ H x y u v Q I rx ry q
theorem CallR.or {X : Cx} {f : Value} {r r' : List V → Hp → VK → Prop} (h : CallR X f r) (h' : CallR X f r') : CallR X f (fun xs H Q => r xs H Q ∨ r' xs H Q) := fun pins s σ H vs us Q I rv q => by
  rcases q with q | q
  · exact h pins s σ H vs us Q I rv q
  · exact h' pins s σ H vs us Q I rv q
def rAddI : R2 := rI0 fun i j => .int (i + j)
def rAddS : R2 := fun x y H Q => ∃ i j : Str, x = .str i ∧ y = .str j ∧ i.length + j.length ≤ sizeLine ∧ Q (.str (i ++ j)) H
def rPlus (K : PySem.W.Frag) : R2 := fun x y H Q => rAddI x y H Q ∨ (rAddS x y H Q ∨ (rCat x y H Q ∨ rCatA K x y H Q))
theorem op_plus {X : Cx} : OpR X (binaryOp .Add) (rPlus X.K) := OpR.or op_add (OpR.or op_add_str (OpR.or op_cat op_catA))
theorem o_addI {i j : Int} : Op2 K (rPlus K) (.int i) (.int j) (.int (i + j)) := fun P as ρ μ σ G H x y R rx ry Q q => .inl ⟨i, j, rx, ry, q _ G H .refl R rfl⟩
theorem sOk_append {a b : Str} (ha : sOk a) (hb : sOk b) (h : (a ++ b).length ≤ SB) : sOk (a ++ b) := ⟨h, by
  have := ha.2
  have := hb.2
  rw [Str.cps_append, Array.all_append]
  simp_all⟩
theorem len_append (a b : Str) : (a ++ b).length = a.length + b.length := by
  show (a ++ b).cps.size = a.cps.size + b.cps.size
  rw [Str.cps_append, Array.size_append]
theorem o_addS {a b : Str} (h : (a ++ b).length ≤ SB) : Op2 K (rPlus K) (.str a) (.str b) (.str (a ++ b)) := fun P as ρ μ σ G H x y R ⟨rx, ka⟩ ⟨ry, kb⟩ Q q =>
  .inr (.inl ⟨a, b, rx, ry, by rw [← len_append]; exact Nat.le_trans h (by decide), q _ G H .refl R ⟨rfl, sOk_append ka kb h⟩⟩)
theorem o_addT {xs ys : List D} (h : xs.length + ys.length ≤ LB) : Op2 K (rPlus K) (.tup xs) (.tup ys) (.tup (xs ++ ys)) := fun P as ρ μ σ G H x y R ⟨_, a, vs, ex, ga, ra⟩ ⟨_, b, us, ey, gb, rb⟩ Q q => by
  refine .inr (.inr (.inr ⟨a, b, vs, us, ex, ey, same_sqt R.sub ga, same_sqt R.sub gb, ?_, ?_⟩))
  · rw [ra.length, rb.length]
    exact Nat.le_trans h (by decide)
  · refine ⟨fun e => ?_, fun _ e => ?_, fun _ _ p hp => ?_⟩
    · have e' : xs = [] := List.eq_nil_of_length_eq_zero (by rw [← ra.length, e]; rfl)
      subst e'
      exact q _ G H .refl R ⟨by simpa using h, b, us, rfl, gb, rb⟩
    · have e' : ys = [] := List.eq_nil_of_length_eq_zero (by rw [← rb.length, e]; rfl)
      subst e'
      rw [List.append_nil] at q
      exact q _ G H .refl R ⟨by simpa using h, a, vs, rfl, ga, ra⟩
    · obtain ⟨R2, n2⟩ := R.imm hp (.tup (vs ++ us))
      exact q _ _ _ n2 R2 ⟨by rw [List.length_append]; exact h, p, _, rfl, SqT.of upd_same, RepL.mono n2.gr _ _ (ra.append rb)⟩
theorem o_int {C : Int → Int → Prop} {g : Int → Int → V} {i j : Int} {d : D} (hc : C i j) (hd : ∀ G, Rep K G d (g i j)) : Op2 K (rI C g) (.int i) (.int j) d := fun P as ρ μ σ G H x y R rx ry Q q => ⟨i, j, rx, ry, hc, q _ G H .refl R (hd G)⟩
theorem o_int0 {g : Int → Int → V} {i j : Int} {d : D} (hd : ∀ G, Rep K G d (g i j)) : Op2 K (rI0 g) (.int i) (.int j) d := fun P as ρ μ σ G H x y R rx ry Q q => ⟨i, j, rx, ry, q _ G H .refl R (hd G)⟩
def rMinus : R2 := rI0 fun i j => .int (i - j)
theorem op_minus {X : Cx} : OpR X (binaryOp .Sub) rMinus := op_sub
theorem o_sub {i j : Int} : Op2 K rMinus (.int i) (.int j) (.int (i - j)) := o_int0 fun _ => rfl
def rFd : R2 := rI CDiv fun i j => .int (i / j)
theorem op_fd {X : Cx} : OpR X (binaryOp .FloorDiv) rFd := op_fdiv
theorem o_fd {i j : Int} (h : 0 < j ∧ j < 1073741824) : Op2 K rFd (.int i) (.int j) (.int (i / j)) := o_int h fun _ => rfl
def rMd : R2 := rI (fun _ j => 0 < j) fun i j => .int (i % j)
theorem op_md {X : Cx} : OpR X (binaryOp .Mod) rMd := op_mod
theorem o_md {i j : Int} (h : 0 < j) : Op2 K rMd (.int i) (.int j) (.int (i % j)) := o_int h fun _ => rfl
def rPw : R2 := rI CPow fun i j => .int (i ^ j.toNat)
theorem op_pw {X : Cx} : OpR X (binaryOp .Pow) rPw := op_pow
theorem o_pw {i j : Int} (h : 0 ≤ j ∧ j ≤ 1000000 ∧ i.natAbs < 2 ^ 64) : Op2 K rPw (.int i) (.int j) (.int (i ^ j.toNat)) := o_int h fun _ => rfl
def rLt' : R2 := rI0 fun i j => .bl (decide (i < j))
def rLe' : R2 := rI0 fun i j => .bl (decide (i ≤ j))
def rGt' : R2 := rI0 fun i j => .bl (decide (j < i))
def rGe' : R2 := rI0 fun i j => .bl (decide (j ≤ i))
theorem op_lt' {X : Cx} : OpR X (compareOp .Lt) rLt' := op_lt
theorem op_le' {X : Cx} : OpR X (compareOp .LtE) rLe' := op_le
theorem op_gt' {X : Cx} : OpR X (compareOp .Gt) rGt' := op_gt
theorem op_ge' {X : Cx} : OpR X (compareOp .GtE) rGe' := op_ge
theorem o_lt {i j : Int} : Op2 K rLt' (.int i) (.int j) (.bl (decide (i < j))) := o_int0 fun _ => rfl
theorem o_le {i j : Int} : Op2 K rLe' (.int i) (.int j) (.bl (decide (i ≤ j))) := o_int0 fun _ => rfl
theorem o_gt {i j : Int} : Op2 K rGt' (.int i) (.int j) (.bl (decide (j < i))) := o_int0 fun _ => rfl
theorem o_ge {i j : Int} : Op2 K rGe' (.int i) (.int j) (.bl (decide (j ≤ i))) := o_int0 fun _ => rfl
def rMulI : R2 := rI CMul fun i j => .int (i * j)
def rTimes (K : PySem.W.Frag) : R2 := fun x y H Q => rMulI x y H Q ∨ (rRep x y H Q ∨ rRepT K x y H Q)
theorem op_times {X : Cx} : OpR X (binaryOp .Mult) (rTimes X.K) := OpR.or op_mul (OpR.or op_rep op_repT)
theorem o_mul {i j : Int} (h : (-(2 ^ 64) < i ∧ i < 2 ^ 64) ∨ (-(2 ^ 64) < j ∧ j < 2 ^ 64)) : Op2 K (rTimes K) (.int i) (.int j) (.int (i * j)) := fun P as ρ μ σ G H x y R rx ry Q q => .inl ⟨i, j, rx, ry, h, q _ G H .refl R rfl⟩
theorem ev_isN {te : TE} {ρ : Env'} {μ μ1 : Mu} {w : W} {k : Bool} (h : Ev K te ρ μ w μ1) (hk : ∀ as G v, RepW K G as w v → decide (v = .non) = k) : Ev K (tOp rIsN te (tC .non)) ρ μ (.val (.bl k)) μ1 := fun P as σ G H R Q q =>
  h P as σ G H R _ fun v as1 G1 H1 n1 R1 r1 => ⟨rfl, by rw [hk as1 G1 v r1]; exact q _ as1 G1 H1 n1 R1 rfl⟩
theorem ev_notN {te : TE} {ρ : Env'} {μ μ1 : Mu} {w : W} {k : Bool} (h : Ev K te ρ μ w μ1) (hk : ∀ as G v, RepW K G as w v → decide (v = .non) = k) : Ev K (tOp rNotN te (tC .non)) ρ μ (.val (.bl (!k))) μ1 := fun P as σ G H R Q q =>
  h P as σ G H R _ fun v as1 G1 H1 n1 R1 r1 => ⟨rfl, by rw [hk as1 G1 v r1]; exact q _ as1 G1 H1 n1 R1 rfl⟩
def isNon : D → Bool
  | .non => true
  | _ => false
theorem isNon_ok (d : D) {as : List Addr} {G : Hp} {v : V} (h : RepW K G as (.val d) v) : decide (v = .non) = isNon d := by
  cases d with
  | non => rw [show v = .non from h]; rfl
  | bl b => rw [show v = .bl b from h]; rfl
  | int b => rw [show v = .int b from h]; rfl
  | str b => rw [show v = .str b from h.1]; rfl
  | tup b => obtain ⟨_, a, _, e, _⟩ := h; rw [e]; rfl
  | lst b => obtain ⟨_, a, _, e, _⟩ := h; rw [e]; rfl
  | obj c n b => obtain ⟨_, a, _, _, e, _⟩ := h; rw [e]; rfl
  | ty n => rw [show v = .ty n from h]; rfl
  | cls n => rw [show v = .ref _ from h]; rfl
  | scr n => obtain ⟨a, e, _⟩ := h; rw [e]; rfl
theorem isNon_loc {j : Nat} {as : List Addr} {G : Hp} {v : V} (h : RepW K G as (.loc j) v) : decide (v = .non) = false := by
  obtain ⟨a, _, e⟩ := h
  rw [e]
  rfl
theorem ev_isNd {te : TE} {ρ : Env'} {μ μ1 : Mu} {d : D} (h : Ev K te ρ μ (.val d) μ1) : Ev K (tOp rIsN te (tC .non)) ρ μ (.val (.bl (isNon d))) μ1 := ev_isN h fun _ _ _ r => isNon_ok d r
theorem ev_notNd {te : TE} {ρ : Env'} {μ μ1 : Mu} {d : D} (h : Ev K te ρ μ (.val d) μ1) : Ev K (tOp rNotN te (tC .non)) ρ μ (.val (.bl (!isNon d))) μ1 := ev_notN h fun _ _ _ r => isNon_ok d r
theorem ev_isNl {te : TE} {ρ : Env'} {μ μ1 : Mu} {j : Nat} (h : Ev K te ρ μ (.loc j) μ1) : Ev K (tOp rIsN te (tC .non)) ρ μ (.val (.bl false)) μ1 := ev_isN h fun _ _ _ r => isNon_loc r
theorem ev_notNl {te : TE} {ρ : Env'} {μ μ1 : Mu} {j : Nat} (h : Ev K te ρ μ (.loc j) μ1) : Ev K (tOp rNotN te (tC .non)) ρ μ (.val (.bl true)) μ1 := ev_notN h fun _ _ _ r => isNon_loc r
mutual
def toPy : D → PyData
  | .non => .none
  | .bl b => .bool b
  | .int i => .int i
  | .str s => .str s
  | .tup xs => .tuple (toPyL xs)
  | .lst xs => .list (toPyL xs)
  | .obj _ _ _ => .none
  | .ty _ => .none
  | .cls _ => .none
  | .scr _ => .none
def toPyL : List D → List PyData
  | [] => []
  | x :: xs => toPy x :: toPyL xs
end
mutual
def pyOk : D → Bool
  | .obj _ _ _ => false
  | .ty _ => false
  | .cls _ => false
  | .scr _ => false
  | .tup xs => pyOkL xs
  | .lst xs => pyOkL xs
  | _ => true
def pyOkL : List D → Bool
  | [] => true
  | x :: xs => pyOk x && pyOkL xs
end
mutual
theorem dp_of {G H : Hp} (s : Same G H) : ∀ (d : D) (v : V), pyOk d = true → Rep K G d v → Dp K H v (toPy d)
  | .non, v, _, h => by rw [show v = .non from h]; exact .non
  | .bl b, v, _, h => by rw [show v = .bl b from h]; exact .bl b
  | .int b, v, _, h => by rw [show v = .int b from h]; exact .int b
  | .str b, v, _, h => by rw [show v = .str b from h.1]; exact .str b
  | .tup xs, v, k, ⟨_, a, vs, e, g, r⟩ => by rw [e]; exact .tup (same_sqt s g) (dp_ofL s xs vs k r)
  | .lst xs, v, k, ⟨_, a, vs, e, g, r⟩ => by rw [e]; exact .lst (SqL.of (s _ _ g)) (dp_ofL s xs vs k r)
  | .obj _ _ _, _, k, _ => by cases k
  | .ty _, _, k, _ => by cases k
  | .cls _, _, k, _ => by cases k
  | .scr _, _, k, _ => by cases k
theorem dp_ofL {G H : Hp} (s : Same G H) : ∀ (ds : List D) (vs : List V), pyOkL ds = true → RepL K G ds vs → DpAll K H vs (toPyL ds)
  | [], vs, _, h => by rw [show vs = [] from h]; exact .nil
  | d :: ds, vs, k, ⟨v, r, e, h1, h2⟩ => by
    have k' := Bool.and_eq_true_iff.mp (show (pyOk d && pyOkL ds) = true from k)
    rw [e]
    exact .cons (dp_of s d v k'.1 h1) (dp_ofL s ds r k'.2 h2)
end
mutual
theorem lay_of {G : Hp} : ∀ (d : D) (v : V), Rep K G d v → (toPy d).canLay0 = true
  | .non, _, _ => rfl
  | .bl _, _, _ => rfl
  | .int _, _, _ => rfl
  | .str s, _, h => h.2.2
  | .tup xs, _, ⟨_, a, vs, e, g, r⟩ => lay_ofL xs vs r
  | .lst xs, _, ⟨_, a, vs, e, g, r⟩ => lay_ofL xs vs r
  | .obj _ _ _, _, _ => rfl
  | .ty _, _, _ => rfl
  | .cls _, _, _ => rfl
  | .scr _, _, _ => rfl
theorem lay_ofL {G : Hp} : ∀ (ds : List D) (vs : List V), RepL K G ds vs → PyData.canLayAll0 (toPyL ds) = true
  | [], _, _ => rfl
  | d :: ds, vs, ⟨v, r, e, h1, h2⟩ => Bool.and_eq_true_iff.mpr ⟨lay_of d v h1, lay_ofL ds r h2⟩
end
def rEqq (K : PySem.W.Frag) : R2 := fun x y H Q => rEq x y H Q ∨ rEqD K x y H Q
def rNee (K : PySem.W.Frag) : R2 := fun x y H Q => rNe x y H Q ∨ rNeD K x y H Q
theorem op_eqq {X : Cx} (hu : X.A.units + 64 < cLine) : OpR X (compareOp .Eq) (rEqq X.K) := OpR.or op_eq (op_eqD hu)
theorem op_nee {X : Cx} (hu : X.A.units + 64 < cLine) : OpR X (compareOp .NotEq) (rNee X.K) := OpR.or op_ne (op_neD hu)
def eqP (a b : D) : Bool := PyData.eqv (toPy a) (toPy b)
theorem dec_congr {p q : Prop} [Decidable p] [Decidable q] (h : p ↔ q) : decide p = decide q := by
  by_cases k : p
  · rw [decide_eq_true k, decide_eq_true (h.mp k)]
  · rw [decide_eq_false k, decide_eq_false fun z => k (h.mpr z)]
theorem o_eqI {i j : Int} : Op2 K (rEqq K) (.int i) (.int j) (.bl (decide (i = j))) := fun P as ρ μ σ G H x y R rx ry Q q => by
  subst rx ry
  refine .inl ⟨rfl, ?_⟩
  rw [dec_congr (show V.int i = V.int j ↔ i = j from ⟨fun e => by injection e, fun e => by rw [e]⟩)]
  exact q _ G H .refl R rfl
theorem o_neI {i j : Int} : Op2 K (rNee K) (.int i) (.int j) (.bl (!decide (i = j))) := fun P as ρ μ σ G H x y R rx ry Q q => by
  subst rx ry
  refine .inl ⟨rfl, ?_⟩
  rw [dec_congr (show V.int i = V.int j ↔ i = j from ⟨fun e => by injection e, fun e => by rw [e]⟩)]
  exact q _ G H .refl R rfl
theorem o_eqS {i j : Str} : Op2 K (rEqq K) (.str i) (.str j) (.bl (decide (i = j))) := fun P as ρ μ σ G H x y R ⟨rx, _⟩ ⟨ry, _⟩ Q q => by
  subst rx ry
  refine .inl ⟨rfl, ?_⟩
  rw [dec_congr (show V.str i = V.str j ↔ i = j from ⟨fun e => by injection e, fun e => by rw [e]⟩)]
  exact q _ G H .refl R rfl
theorem o_neS {i j : Str} : Op2 K (rNee K) (.str i) (.str j) (.bl (!decide (i = j))) := fun P as ρ μ σ G H x y R ⟨rx, _⟩ ⟨ry, _⟩ Q q => by
  subst rx ry
  refine .inl ⟨rfl, ?_⟩
  rw [dec_congr (show V.str i = V.str j ↔ i = j from ⟨fun e => by injection e, fun e => by rw [e]⟩)]
  exact q _ G H .refl R rfl
theorem o_eqB {i j : Bool} : Op2 K (rEqq K) (.bl i) (.bl j) (.bl (decide (i = j))) := fun P as ρ μ σ G H x y R rx ry Q q => by
  subst rx ry
  refine .inl ⟨rfl, ?_⟩
  rw [dec_congr (show V.bl i = V.bl j ↔ i = j from ⟨fun e => by injection e, fun e => by rw [e]⟩)]
  exact q _ G H .refl R rfl
theorem o_neB {i j : Bool} : Op2 K (rNee K) (.bl i) (.bl j) (.bl (!decide (i = j))) := fun P as ρ μ σ G H x y R rx ry Q q => by
  subst rx ry
  refine .inl ⟨rfl, ?_⟩
  rw [dec_congr (show V.bl i = V.bl j ↔ i = j from ⟨fun e => by injection e, fun e => by rw [e]⟩)]
  exact q _ G H .refl R rfl
def rInn (K : PySem.W.Frag) : R2 := fun x y H Q => rInS x y H Q ∨ rIn K false x y H Q
theorem op_inn {X : Cx} : OpR X (compareOp .In) (rInn X.K) := OpR.or op_inS op_in_seq
theorem inV_strs {s : Str} : ∀ {ss : List Str}, inV (.str s) (ss.map V.str) = decide (s ∈ ss)
  | [] => rfl
  | x :: ss => by
    show (eqV (.str x) (.str s) || inV (.str s) (ss.map V.str)) = _
    rw [inV_strs]
    show ((x == s) || decide (s ∈ ss)) = _
    by_cases h : x = s
    · subst h
      simp
    · have h' : ¬ s = x := fun e => h e.symm
      simp [h, h']
theorem o_inC {c : Nat} {s : Str} : Op2 K (rInn K) (.str ⟨#[c]⟩) (.str s) (.bl (decide (c ∈ s.cps.toList))) := fun P as ρ μ σ G H x y R ⟨rx, _⟩ ⟨ry, _⟩ Q q => .inl ⟨c, s, rx, ry, q _ G H .refl R rfl⟩
theorem atI_rep {G : Hp} {ds : List D} {vs : List V} {i : Int} {d : D} (r : RepL K G ds vs) (h : atI ds i = some d) : ∃ v, atI vs i = some v ∧ Rep K G d v := by
  unfold atI at h ⊢
  rw [r.length]
  cases e : ixN ds.length i with
  | none => rw [e] at h; cases h
  | some j =>
    rw [e] at h
    exact r.get h
theorem o_ixT {xs : List D} {i : Int} {d : D} (h : atI xs i = some d) : Op2 K (rIx K) (.tup xs) (.int i) d := fun P as ρ μ σ G H x y R ⟨_, a, vs, e, g, r⟩ ry Q q => by
  obtain ⟨v, h1, h2⟩ := atI_rep r h
  exact .inr (.inl ⟨a, vs, i, v, e, ry, same_sqt R.sub g, h1, q _ G H .refl R h2⟩)
theorem o_ixS {s : Str} {i : Int} {c : Nat} (h : atI s.cps.toList i = some c) : Op2 K (rIx K) (.str s) (.int i) (.str ⟨#[c]⟩) := fun P as ρ μ σ G H x y R ⟨rx, hs⟩ ry Q q => by
  refine .inr (.inr ⟨s, i, c, rx, ry, Nat.le_trans hs.1 (by decide), h, q _ G H .refl R ⟨rfl, by show (1 : Nat) ≤ SB; decide, ?_⟩⟩)
  have hm : c ∈ s.cps.toList := by
    unfold atI at h
    cases e : ixN s.cps.toList.length i with
    | none => rw [e] at h; cases h
    | some j =>
      rw [e] at h
      exact List.mem_of_getElem? h
  have := Array.all_eq_true_iff_forall_mem.mp hs.2 c (by simpa using hm)
  simpa using this
end
end DK
namespace DK
open PySem PySem.Spec PyProof.Rows L2
section
variable {P : Program} {w : World} {h h' : Heap} {a : Addr} {M : Str → Bool} {n : Nat}
end
section
variable {P : Program} {w : World} {A : Around} {E : Value → Shared → Prop} {s : Shared} {a : Addr} {M : Str → Bool} {n : Nat}
end
section
variable {X : Cx}
end
end DK
namespace DK
open PySem PySem.Spec PyProof.Rows L2
end DK
namespace DK
open PySem PySem.Spec PyProof.Rows L2
theorem lt_irr : ∀ a : List Nat, ltCps a a = false
  | [] => rfl
  | x :: a => by
    show (decide (x < x) || (x == x && ltCps a a)) = false
    rw [lt_irr a]
    simp
theorem lt_tri : ∀ a b : List Nat, ltCps a b = false → ltCps b a = false → a = b
  | [], [], _, _ => rfl
  | [], _ :: _, h, _ => by cases h
  | _ :: _, [], _, h => by cases h
  | x :: a, y :: b, h1, h2 => by
    have h1' : (decide (x < y) || (x == y && ltCps a b)) = false := h1
    have h2' : (decide (y < x) || (y == x && ltCps b a)) = false := h2
    simp only [Bool.or_eq_false_iff, decide_eq_false_iff_not, Bool.and_eq_false_iff, beq_eq_false_iff_ne] at h1' h2'
    have e : x = y := by omega
    subst e
    have q1 : ltCps a b = false := h1'.2.resolve_left fun z => z rfl
    have q2 : ltCps b a = false := h2'.2.resolve_left fun z => z rfl
    rw [lt_tri a b q1 q2]
theorem lt_tr : ∀ a b c : List Nat, ltCps a b = true → ltCps b c = true → ltCps a c = true
  | [], [], _, h, _ => by cases h
  | [], _ :: _, [], _, h => by cases h
  | [], _ :: _, _ :: _, _, _ => rfl
  | _ :: _, [], _, h, _ => by cases h
  | _ :: _, _ :: _, [], _, h => by cases h
  | x :: a, y :: b, z :: c, h1, h2 => by
    have h1' : (decide (x < y) || (x == y && ltCps a b)) = true := h1
    have h2' : (decide (y < z) || (y == z && ltCps b c)) = true := h2
    show (decide (x < z) || (x == z && ltCps a c)) = true
    simp only [Bool.or_eq_true, decide_eq_true_eq, Bool.and_eq_true, beq_iff_eq] at h1' h2' ⊢
    rcases h1' with p | ⟨p1, p2⟩ <;> rcases h2' with q | ⟨q1, q2⟩
    · exact .inl (by omega)
    · exact .inl (by omega)
    · exact .inl (by omega)
    · exact .inr ⟨by omega, lt_tr a b c p2 q2⟩
def leS (a b : Str) : Bool := !ltCps b.cps.toList a.cps.toList
theorem leS_tot (a b : Str) : leS a b = true ∨ leS b a = true := by
  unfold leS
  cases h : ltCps b.cps.toList a.cps.toList with
  | false => exact .inl rfl
  | true =>
    refine .inr ?_
    cases k : ltCps a.cps.toList b.cps.toList with
    | false => rfl
    | true =>
      have := lt_tr _ _ _ h k
      rw [lt_irr] at this
      cases this
theorem leS_anti {a b : Str} (h : leS a b = true) (k : leS b a = true) : a = b := by
  unfold leS at h k
  rw [Bool.not_eq_true'] at h k
  exact TL.ext_tl (lt_tri _ _ k h)
theorem leS_tr {a b c : Str} (h : leS a b = true) (k : leS b c = true) : leS a c = true := by
  unfold leS at h k ⊢
  rw [Bool.not_eq_true'] at h k ⊢
  cases q : ltCps c.cps.toList a.cps.toList with
  | false => rfl
  | true =>
    by_cases e : ltCps a.cps.toList b.cps.toList = true
    · rw [lt_tr _ _ _ q e] at k
      cases k
    · have e1 : ltCps a.cps.toList b.cps.toList = false := by simpa using e
      have := lt_tri _ _ e1 h
      rw [this, k] at q
      cases q
def insS (x : Str) : List Str → List Str
  | [] => [x]
  | y :: r => if leS x y = true then x :: y :: r else y :: insS x r
def srt : List Str → List Str
  | [] => []
  | x :: r => insS x (srt r)
theorem insS_perm (x : Str) : ∀ l : List Str, (insS x l).Perm (x :: l)
  | [] => .refl _
  | y :: r => by
    unfold insS
    split
    · exact .refl _
    · exact ((insS_perm x r).cons y).trans (List.Perm.swap x y r)
theorem srt_perm : ∀ l : List Str, (srt l).Perm l
  | [] => .refl _
  | x :: r => (insS_perm x (srt r)).trans ((srt_perm r).cons x)
def Srt (l : List Str) : Prop := l.Pairwise fun a b => leS a b = true
theorem insS_srt {x : Str} : ∀ {l : List Str}, Srt l → Srt (insS x l)
  | [], _ => List.pairwise_singleton _ _
  | y :: r, h => by
    obtain ⟨h1, h2⟩ := List.pairwise_cons.mp h
    unfold insS
    split
    · rename_i c
      refine List.pairwise_cons.mpr ⟨fun z hz => ?_, h⟩
      rcases List.mem_cons.mp hz with e | e
      · rw [e]; exact c
      · exact leS_tr c (h1 z e)
    · rename_i c
      refine List.pairwise_cons.mpr ⟨fun z hz => ?_, insS_srt h2⟩
      rcases List.mem_cons.mp ((insS_perm x r).mem_iff.mp hz) with e | e
      · rw [e]
        exact (leS_tot y x).resolve_right c
      · exact h1 z e
theorem srt_srt : ∀ l : List Str, Srt (srt l)
  | [] => List.Pairwise.nil
  | x :: r => insS_srt (srt_srt r)
theorem srt_uniq : ∀ {l m : List Str}, Srt l → Srt m → l.Perm m → l = m
  | [], m, _, _, p => (List.nil_perm.mp p).symm ▸ rfl
  | x :: l, [], _, _, p => absurd (List.perm_nil.mp p) (by simp)
  | x :: l, y :: m, h, k, p => by
    obtain ⟨h1, h2⟩ := List.pairwise_cons.mp h
    obtain ⟨k1, k2⟩ := List.pairwise_cons.mp k
    have e : x = y := by
      have xm : x ∈ y :: m := p.mem_iff.mp (List.mem_cons_self)
      have ym : y ∈ x :: l := p.mem_iff.mpr (List.mem_cons_self)
      rcases List.mem_cons.mp xm with e | e
      · exact e
      · rcases List.mem_cons.mp ym with f | f
        · exact f.symm
        · exact leS_anti (h1 y f) (k1 x e)
    subst e
    rw [srt_uniq h2 k2 ((List.perm_cons x).mp p)]
def once : List Str → List Str
  | [] => []
  | x :: r => if x ∈ r then once r else x :: once r
def srtU (l : List Str) : List Str := srt (once l)
end DK
namespace DK
open PySem PySem.Spec PyProof.Rows L2
section
variable {K : PySem.W.Frag} [HasW K] {ρ ρ1 ρ2 : Env'} {μ μ1 μ2 μ3 : Mu} {ta tb te tc : TE} {w : W} {a b d : D} {i : Nat}
inductive SeqW (μ : Mu) : W → List D → Prop where
  | lst {xs : List D} : SeqW μ (.val (.lst xs)) xs
  | tup {xs : List D} : SeqW μ (.val (.tup xs)) xs
  | loc {j : Nat} {xs : List D} : μ[j]? = some (.lst xs) → SeqW μ (.loc j) xs
  | frz {j : Nat} {xs : List D} : μ[j]? = some (.frz xs) → SeqW μ (.loc j) xs
theorem PI.or {X : Cx} {tg e : Expr} {wi wj : TI} (h : PI X tg e wi) (k : PI X tg e wj) : PI X tg e (fun σ H R => wi σ H R ∨ wj σ H R) := ⟨fun pins s σ H R I q => by
  rcases q with q | q
  · exact h.run pins s σ H R I q
  · exact k.run pins s σ H R I q⟩
def iSeq (K : PySem.W.Frag) (te : TE) : TI := fun σ H R => iList K te σ H R ∨ iTup K te σ H R
theorem pi_seq {X : Cx} {tg e : Expr} {te : TE} (h : PE X e te) : PI X tg e (iSeq X.K te) := PI.or (pi_list h) (pi_tup h)
theorem at_loc {G H : Hp} {as : List Addr} {P : Addr → Prop} {σ : L2.St} {j : Nat} {a : Addr} {xs : List D} (R : Rl K G H as P ρ μ σ) (ha : as[j]? = some a) (hm : μ[j]? = some (.lst xs) ∨ μ[j]? = some (.frz xs)) : ∃ vs, H a = some (.lst vs) ∧ RepL K G xs vs ∧ xs.length ≤ LB := by
  rcases hm with hm | hm
  · obtain ⟨_, z, vs, h1, h2⟩ := R.mu j a _ ha hm
    exact ⟨vs, h1, h2, z⟩
  · obtain ⟨z, vs, h1, h2⟩ := R.mu j a _ ha hm
    exact ⟨vs, R.sub _ _ h1, h2, z⟩
def lstAt (j : Nat) (xs : List D) : Mu → Prop := fun μ => μ[j]? = some (.lst xs) ∨ μ[j]? = some (.frz xs)
theorem ei_loc {j : Nat} {xs : List D} (h : Ev K te ρ μ (.loc j) μ1) (hm : lstAt j xs μ1) : EvI K (iList K te) ρ μ xs μ1 (lstAt j xs) := ⟨hm, fun P as σ G H R Q q =>
  h P as σ G H R _ fun v as1 G1 H1 n1 R1 ⟨a, ha, ev⟩ => by
    obtain ⟨vs, h1, r1, z1⟩ := at_loc R1 ha hm
    refine ⟨a, ev, ⟨vs, SqL.of h1⟩, q _ as1 G1 H1 n1 R1 fun i P' as' ρ' μ' σ' G' H' s pr hc R' => ?_⟩
    obtain ⟨us, h2, r2, _⟩ := at_loc R' (at_pre pr ha) hc
    have hs : SqL K H' a us := SqL.of h2
    constructor
    · intro d hd
      obtain ⟨x, hx, rx⟩ := r2.get hd
      refine ⟨⟨us, x, hs, hx⟩, fun y H2 ⟨e, hy⟩ => ?_⟩
      subst e
      have : y = x := by
        have := hy us hs
        rw [hx] at this
        exact (Option.some.inj this).symm
      subst this
      exact ⟨G', .refl, R', rx⟩
    · intro hn
      exact ⟨us, hs, by rw [r2.length]; exact List.getElem?_eq_none_iff.mp hn⟩⟩
def seqC (w : W) (xs : List D) : Mu → Prop := match w with
  | .loc j => lstAt j xs
  | _ => CT
theorem seqC_of {xs : List D} (h : SeqW μ w xs) : seqC w xs μ := by
  cases h with
  | lst => trivial
  | tup => trivial
  | loc h => exact .inl h
  | frz h => exact .inr h
theorem ei_seq {xs : List D} (h : Ev K te ρ μ w μ1) (hw : SeqW μ1 w xs) : EvI K (iSeq K te) ρ μ xs μ1 (seqC w xs) := by
  cases hw with
  | lst => exact ⟨trivial, fun P as σ G H R Q q => .inl ((ei_list h).2 P as σ G H R Q q)⟩
  | tup => exact ⟨trivial, fun P as σ G H R Q q => .inr ((ei_tup h).2 P as σ G H R Q q)⟩
  | loc hm => exact ⟨.inl hm, fun P as σ G H R Q q => .inl ((ei_loc h (.inl hm)).2 P as σ G H R Q q)⟩
  | frz hm => exact ⟨.inr hm, fun P as σ G H R Q q => .inl ((ei_loc h (.inr hm)).2 P as σ G H R Q q)⟩
theorem SeqW.size {G H : Hp} {as : List Addr} {P : Addr → Prop} {σ : L2.St} {xs : List D} {v : V} (R : Rl K G H as P ρ μ σ) (h : SeqW μ w xs) (r : RepW K G as w v) : ∃ a vs, v = .ref a ∧ (SqL K H a vs ∨ SqT K H a vs) ∧ RepL K G xs vs ∧ xs.length ≤ LB := by
  cases h with
  | lst => obtain ⟨z, a, vs, e, g, q⟩ := r; exact ⟨a, vs, e, .inl (SqL.of (R.sub _ _ g)), q, z⟩
  | tup => obtain ⟨z, a, vs, e, g, q⟩ := r; exact ⟨a, vs, e, .inr (same_sqt R.sub g), q, z⟩
  | loc hm =>
    obtain ⟨a, ha, e⟩ := r
    obtain ⟨vs, h1, h2, z⟩ := at_loc R ha (.inl hm)
    exact ⟨a, vs, e, .inl (SqL.of h1), h2, z⟩
  | frz hm =>
    obtain ⟨a, ha, e⟩ := r
    obtain ⟨vs, h1, h2, z⟩ := at_loc R ha (.inr hm)
    exact ⟨a, vs, e, .inl (SqL.of h1), h2, z⟩
def signs (s : Str) : List D := s.cps.toList.map fun c => D.str ⟨#[c]⟩
theorem sOk_sign {s : Str} {c : Nat} (h : sOk s) (hc : c ∈ s.cps.toList) : sOk ⟨#[c]⟩ := by
  refine ⟨by show (1 : Nat) ≤ SB; decide, ?_⟩
  have := Array.all_eq_true_iff_forall_mem.mp h.2 c (by simpa using hc)
  simpa using this
theorem ei_str {s : Str} (h : Ev K te ρ μ (.val (.str s)) μ1) : EvI K (iStr te) ρ μ (signs s) μ1 CT := ⟨trivial, fun P as σ G H R Q q =>
  h P as σ G H R _ fun v as1 G1 H1 n1 R1 ⟨ev, ok⟩ => by
    refine ⟨s, ev, q _ as1 G1 H1 n1 R1 fun i P' as' ρ' μ' σ' G' H' s' _ _ R' => ?_⟩
    have key : (signs s)[i]? = (s.cps[i]?).map fun c => D.str ⟨#[c]⟩ := by
      unfold signs
      rw [List.getElem?_map, Array.getElem?_toList]
    constructor
    · intro d hd
      rw [key] at hd
      cases e : s.cps[i]? with
      | none => rw [e] at hd; cases hd
      | some c =>
        rw [e] at hd
        cases hd
        refine ⟨(Array.getElem?_eq_some_iff.mp e).1, fun y H2 ⟨eH, c', e', ey⟩ => ?_⟩
        subst eH
        rw [e] at e'
        cases e'
        exact ⟨G', .refl, R', ey, sOk_sign ok (List.mem_of_getElem? (i := i) (by rw [Array.getElem?_toList]; exact e))⟩
    · intro hn
      rw [key] at hn
      cases e : s.cps[i]? with
      | none => exact Array.getElem?_eq_none_iff.mp e
      | some c => rw [e] at hn; cases hn⟩
theorem repL1 {G : Hp} {d : D} {vs : List V} (h : RepL K G [d] vs) : ∃ v, vs = [v] ∧ Rep K G d v := by
  obtain ⟨v, r, e, h1, h2⟩ := h
  rw [show r = [] from h2] at e
  exact ⟨v, e, h1⟩
theorem repL2 {G : Hp} {d d' : D} {vs : List V} (h : RepL K G [d, d'] vs) : ∃ v u, vs = [v, u] ∧ Rep K G d v ∧ Rep K G d' u := by
  obtain ⟨v, r, e, h1, h2⟩ := h
  obtain ⟨u, e2, h3⟩ := repL1 h2
  rw [e2] at e
  exact ⟨v, u, e, h1, h3⟩
theorem repW1 {G : Hp} {as : List Addr} {w : W} {vs : List V} (h : RepWs K G as [w] vs) : ∃ v, vs = [v] ∧ RepW K G as w v := by
  obtain ⟨v, r, e, h1, h2⟩ := h
  rw [show r = [] from h2] at e
  exact ⟨v, e, h1⟩
def rLenA (K : PySem.W.Frag) : List V → Hp → VK → Prop := fun xs H Q => ∃ x n, xs = [x] ∧ LenV K x H n ∧ Q (.int n) H
theorem call_lenA {X : Cx} : CallR X (.builtin "len") (rLenA X.K) := call_len
def isData : D → Bool
  | .ty _ => false
  | .cls _ => false
  | .scr _ => false
  | _ => true
def tyVal (K : PySem.W.Frag) : D → Value
  | .non => .type "NoneType"
  | .bl _ => .type "bool"
  | .int _ => .type "int"
  | .str _ => .type "str"
  | .tup _ => .type "tuple"
  | .lst _ => .type "list"
  | .obj c _ _ => .ref (He.ga K c)
  | _ => .none
theorem tyx_of {G H : Hp} {d : D} {v : V} (s : Same G H) (k : isData d = true) (r : Rep K G d v) : TyX K H v (tyVal K d) := by
  cases d with
  | non => rw [show v = .non from r]; exact .base .non
  | bl b => rw [show v = .bl b from r]; exact .base (.bl b)
  | int b => rw [show v = .int b from r]; exact .base (.int b)
  | str b => rw [show v = .str b from r.1]; exact .base (.str b)
  | tup xs =>
    obtain ⟨_, a, vs, e, g, _⟩ := r
    rw [e]
    rcases g with (g | ⟨o, g⟩) | ⟨o, its, n, g, gc, _⟩
    · exact .base (.tup (s _ _ g))
    · exact .fTuple (s _ _ g)
    · exact .kTuple g gc
  | lst xs =>
    obtain ⟨_, a, vs, e, g, _⟩ := r
    rw [e]
    exact .base (.lst (s _ _ g))
  | obj c ns xs =>
    obtain ⟨ck, a, dx, vs, e, g, _⟩ := r
    rw [e]
    exact .base (.ins (s _ _ g) ck.cl ck.ha ck.hn ck.htk ck.hm)
  | ty n => cases k
  | cls c => cases k
  | scr c => cases k
def isT (T : String) : D → Bool
  | .non => false
  | .bl _ => T == "int" || T == "bool"
  | .int _ => T == "int"
  | .str _ => T == "str"
  | .tup _ => T == "tuple"
  | .lst _ => T == "list"
  | _ => false
theorem kit_T {d : D} {T : String} {G : Hp} {v : V} (hT : T ∈ ["int", "bool", "str", "list", "tuple"]) (k : isData d = true) (r : Rep K G d v) : PySem.W.kitOne K (tyVal K d) (.type T) = some (isT T d) := by
  cases d with
  | obj c ns xs => exact r.1.no T hT
  | ty n => cases k
  | cls c => cases k
  | scr c => cases k
  | _ =>
    simp only [List.mem_cons, List.not_mem_nil, or_false] at hT
    rcases hT with e | e | e | e | e <;> subst e <;> exact kit_ty (by simp only [isT]; decide +kernel)
def isSeqD : D → Bool
  | .tup _ => true
  | .lst _ => true
  | _ => false
def tIsSeq (K : PySem.W.Frag) (te : TE) : TE := tCB (rIsiT K) (tCons te (tCons (tTup (tCons (tC (.ty "list")) (tCons (tC (.ty "tuple")) tNil))) tNil))
theorem isSeq_core {G H : Hp} {as : List Addr} {P : Addr → Prop} {σ : L2.St} {v : V} {t : Value} {b : Bool} {Q : VK} (R : Rl K G H as P ρ μ σ) (ty : ∀ p o, H p = none → TyX K (upd H p o) v t) (hk : PySem.W.kitAny K t [.type "list", .type "tuple"] = some b)
    (q : ∀ G' H', Nx P as G H as G' H' → Rl K G' H' as P ρ μ σ → Q (.bl b) H') : tTup (tCons (tC (.ty "list")) (tCons (tC (.ty "tuple")) tNil)) σ H (fun x H1 => tNil σ H1 fun xs H2 => rIsiT K (v :: x :: xs) H2 Q) := by
  refine ⟨by show (2 : Nat) ≤ sizeLine; decide, fun p hp => ?_⟩
  obtain ⟨R1, n1⟩ := R.imm hp (.tup [.ty "list", .ty "tuple"])
  exact ⟨v, p, [.ty "list", .ty "tuple"], t, [.type "list", .type "tuple"], b, rfl, upd_same, .cons (.ty _) (.cons (.ty _) .nil), ty p _ hp, hk, q _ _ n1 R1⟩
theorem tyx_upd {H : Hp} {v : V} {t : Value} {p : Addr} {o : HO} (h : TyX K H v t) (hp : H p = none) : TyX K (upd H p o) v t := by
  have u : ∀ {a : Addr} {x : HO}, H a = some x → upd H p o a = some x := fun e => by rw [upd_ne (ne_of_none e hp)]; exact e
  cases h with
  | base h =>
    refine .base ?_
    cases h with
    | non => exact .non
    | bl b => exact .bl b
    | int b => exact .int b
    | str b => exact .str b
    | flt b => exact .flt b
    | lst e => exact .lst (u e)
    | frz e => exact .frz (u e)
    | tup e => exact .tup (u e)
    | dK e => exact .dK (u e)
    | dT e => exact .dT (u e)
    | ins e c1 c2 c3 c4 c5 => exact .ins (u e) c1 c2 c3 c4 c5
  | byt b => exact .byt b
  | set e => exact .set (u e)
  | kList e c => exact .kList e c
  | kTuple e c => exact .kTuple e c
  | kDict e c => exact .kDict e c
  | fTuple e => exact .fTuple (u e)
  | fDict e => exact .fDict (u e)
theorem isSeq_kit {d : D} {G : Hp} {v : V} (k : isData d = true) (r : Rep K G d v) : PySem.W.kitAny K (tyVal K d) [.type "list", .type "tuple"] = some (isSeqD d) := by
  have h1 := kit_T (T := "list") (by decide) k r
  have h2 := kit_T (T := "tuple") (by decide) k r
  refine kitAny_cons h1 (fun e => kitAny_cons h2 (fun e2 => ?_) fun e2 => ?_) fun e => ?_
  · cases d <;> first | rfl | (simp [isT] at e; done) | (simp [isT] at e2; done)
  · cases d <;> first | rfl | (simp [isT] at e2; done)
  · cases d <;> first | rfl | (simp [isT] at e; done)
def rTupOf (K : PySem.W.Frag) : List V → Hp → VK → Prop := fun xs H Q => ∃ p ys, xs = [.ref p] ∧ ((SqL K H p ys ∧ ∀ l, H l = none → Q (.ref l) (upd H l (.tup ys))) ∨ (SqT K H p ys ∧ Q (.ref p) H))
theorem call_tupOf {X : Cx} : CallR X (.type "tuple") (rTupOf X.K) := call_tuple_of
def rStrS : List V → Hp → VK → Prop := fun xs H Q => (∃ a : Str, xs = [.str a] ∧ Q (.str a) H) ∨ ∃ i : Int, xs = [.int i] ∧ i.natAbs.log2 < 1920 ∧ Q (.str (toString i)) H
theorem call_strS {X : Cx} : CallR X (.type "str") rStrS := CallR.or SkE.call_str_str call_str_int
def rInt1 : List V → Hp → VK → Prop := fun xs H Q => (∃ i, xs = [.int i] ∧ Q (.int i) H) ∨ ∃ k, xs = [.bl k] ∧ Q (.int (if k then 1 else 0)) H
theorem call_int1' {X : Cx} : CallR X (.type "int") rInt1 := call_int1
def rAbs : List V → Hp → VK → Prop := fun xs H Q => ∃ i, xs = [.int i] ∧ Q (.int (if i < 0 then -i else i)) H
theorem call_abs' {X : Cx} : CallR X (.builtin "abs") rAbs := call_abs
def rMax2 : List V → Hp → VK → Prop := fun xs H Q => ∃ i j, xs = [.int i, .int j] ∧ Q (.int (if j > i then j else i)) H
theorem call_max2' {X : Cx} (c : X.calm = true) : CallR X (.builtin "max") rMax2 := call_max2 c
theorem c_max {m n : Int} : OpC K rMax2 [.int m, .int n] (.int (max m n)) := fun P as ρ μ σ G H vs R r Q q => by
  obtain ⟨v, u, e, ev, eu⟩ := repL2 r
  subst ev eu
  refine ⟨m, n, e, ?_⟩
  rw [show (if n > m then n else m) = max m n by split <;> omega]
  exact q _ G H .refl R rfl
end
end DK
namespace DK
open PySem PySem.Spec PyProof.Rows L2
section
variable {K : PySem.W.Frag} [HasW K] {ρ ρ1 ρ2 : Env'} {μ μ1 μ2 μ3 : Mu} {ta tb te tc : TE} {w : W} {a b d : D} {i : Nat}
theorem spl_sub (S : List Nat) : ∀ (k : Nat) (acc l : List Nat) (p : List Nat), p ∈ TL.spl S k acc l → ∀ c ∈ p, c ∈ acc ∨ c ∈ l
  | k, acc, [], p, h => by
    rw [TL.spl_nil] at h
    rw [List.mem_singleton.mp h]
    exact fun c hc => .inl hc
  | 0, acc, c :: r, p, h => by
    cases e : TL.pre S (c :: r) with
    | true =>
      rw [TL.spl_hit e] at h
      rcases List.mem_cons.mp h with q | q
      · rw [q]; exact fun c hc => .inl hc
      · exact fun x hx => (spl_sub S _ _ r p q x hx).elim (fun z => by cases z) fun z => .inr (List.mem_cons_of_mem _ z)
    | false =>
      rw [TL.spl_miss e] at h
      refine fun x hx => (spl_sub S 0 _ r p h x hx).elim (fun z => ?_) fun z => .inr (List.mem_cons_of_mem _ z)
      rcases List.mem_append.mp z with y | y
      · exact .inl y
      · exact .inr (by rw [List.mem_singleton.mp y]; exact List.mem_cons_self)
  | k + 1, acc, c :: r, p, h => fun x hx => (spl_sub S k acc r p h x hx).elim .inl fun z => .inr (List.mem_cons_of_mem _ z)
theorem spl_lens (S : List Nat) : ∀ (k : Nat) (acc l : List Nat), ((TL.spl S k acc l).map List.length).sum ≤ acc.length + l.length ∧ (TL.spl S k acc l).length ≤ l.length + 1
  | k, acc, [] => by rw [TL.spl_nil]; simp
  | 0, acc, c :: r => by
    cases e : TL.pre S (c :: r) with
    | true =>
      rw [TL.spl_hit e]
      have := spl_lens S (S.length - 1) [] r
      simp only [List.map_cons, List.sum_cons, List.length_cons, List.length_nil] at this ⊢
      omega
    | false =>
      rw [TL.spl_miss e]
      have := spl_lens S 0 (acc ++ [c]) r
      simp only [List.length_append, List.length_cons, List.length_nil] at this ⊢
      omega
  | k + 1, acc, c :: r => by
    have := spl_lens S k acc r
    show ((TL.spl S k acc r).map List.length).sum ≤ _ ∧ _
    simp only [List.length_cons]
    constructor
    · omega
    · have q : (TL.spl S (k + 1) acc (c :: r)) = TL.spl S k acc r := rfl
      rw [q]
      omega
theorem sOk_iff {s : Str} : sOk s ↔ (TL.tl s).length ≤ SB ∧ ∀ c ∈ TL.tl s, c < 0x110000 := by
  unfold sOk
  rw [TL.len_tl, Array.all_eq_true_iff_forall_mem]
  refine and_congr_right fun _ => ⟨fun h c hc => ?_, fun h c hc => ?_⟩
  · have := h c (by simpa using hc)
    simpa using this
  · have := h c (by simpa using hc)
    simpa using this
theorem mem_le_sum {l : List Nat} {x : Nat} (h : x ∈ l) : x ≤ l.sum := by
  induction l with
  | nil => cases h
  | cons y l ih =>
    rw [List.sum_cons]
    rcases List.mem_cons.mp h with e | e
    · omega
    · have := ih e
      omega
theorem split_ok {x y : Str} (hy : TL.tl y ≠ []) (hk : y.cps.all (· < 256) = true) (h : sOk x) : (∀ p ∈ Txt.split x y, sOk p) ∧ (Txt.split x y).length ≤ LB := by
  have e := TL.split_spl x y hy (TL.kind_ok hk)
  have hx := sOk_iff.mp h
  have hl := spl_lens (TL.tl y) 0 [] (TL.tl x)
  constructor
  · intro p hp
    have hm : TL.tl p ∈ TL.spl (TL.tl y) 0 [] (TL.tl x) := by rw [← e]; exact List.mem_map_of_mem hp
    refine sOk_iff.mpr ⟨?_, fun c hc => ?_⟩
    · have h1 : (TL.tl p).length ≤ ((TL.spl (TL.tl y) 0 [] (TL.tl x)).map List.length).sum := mem_le_sum (List.mem_map_of_mem hm)
      have h2 := hl.1
      have h3 := hx.1
      rw [List.length_nil, Nat.zero_add] at h2
      exact Nat.le_trans h1 (Nat.le_trans h2 h3)
    · exact (spl_sub _ _ _ _ _ hm c hc).elim (fun z => by cases z) fun z => hx.2 c z
  · have h1 : (Txt.split x y).length = (TL.spl (TL.tl y) 0 [] (TL.tl x)).length := by rw [← e, List.length_map]
    have h2 := hl.2
    have h3 := hx.1
    have : SB + 1 ≤ LB := by decide
    omega
def rSplit : V → List V → Hp → VK → Prop := fun x xs H Q => ∃ a b, x = .str a ∧ xs = [.str b] ∧ (b.length == 0) = false ∧ a.length + 2 ≤ sizeLine ∧ rNewStrs (Txt.split a b) H Q
theorem pe_split' {X : Cx} {o e : Expr} {to te : TE} {apos pos : Pos} (ho : PE X o to) (he : PE X e te) (hs : starEach [e] X.env = [(false, eval e X.env)] := by rfl) (hbase : attributeBase o "split" X.env (eval o X.env) = eval o X.env := by rfl) (hline : (apos.endLine == pos.line) = true := by rfl) :
    PE X (.Call (.Attribute o "split" apos) [e] [] pos) (tM1 rSplit to te) := pe_split ho he hs hbase hline
theorem ev_split {x y : Str} (ho : Ev K ta ρ μ (.val (.str x)) μ1) (he : Ev K tb ρ μ1 (.val (.str y)) μ2) (hy : TL.tl y ≠ [] := by decide +kernel) (hk : y.cps.all (· < 256) = true := by decide +kernel) : Ev K (tM1 rSplit ta tb) ρ μ (.val (.lst ((Txt.split x y).map D.str))) μ2 := fun P as σ G H R Q q =>
  ho P as σ G H R _ fun v as1 G1 H1 n1 R1 ⟨ev, ok⟩ => ⟨⟨x, ev⟩, he P as1 σ G1 H1 R1 _ fun u as2 G2 H2 n2 R2 ⟨eu, _⟩ => by
    refine ⟨x, y, ev, by rw [eu], ?_, Nat.le_trans (Nat.add_le_add_right ok.1 2) (by decide), fun p hp => ?_⟩
    · have : y.length ≠ 0 := by rw [TL.len_tl]; exact fun z => hy (List.eq_nil_of_length_eq_zero z)
      exact beq_eq_false_iff_ne.mpr this
    · obtain ⟨R3, n3⟩ := R2.imm hp (.lst ((Txt.split x y).map V.str))
      obtain ⟨s1, s2⟩ := split_ok hy hk ok
      exact q _ as2 _ _ ((n1.trans n2).trans n3) R3 ⟨by rw [List.length_map]; exact s2, p, _, rfl, upd_same, RepL.ofStrs s1⟩⟩
theorem joinL_len (S : List Nat) : ∀ ps : List (List Nat), (TL.joinL S ps).length ≤ (ps.map List.length).sum + ps.length * S.length
  | [] => Nat.zero_le _
  | [p] => by simp [TL.joinL]
  | p :: q :: r => by
    have := joinL_len S (q :: r)
    simp only [TL.joinL, List.length_append, List.map_cons, List.sum_cons, List.length_cons] at this ⊢
    rw [Nat.add_mul, Nat.add_mul] at *
    omega
theorem joinL_mem (S : List Nat) : ∀ (ps : List (List Nat)) (c : Nat), c ∈ TL.joinL S ps → c ∈ S ∨ ∃ p ∈ ps, c ∈ p
  | [], c, h => by cases h
  | [p], c, h => .inr ⟨p, by simp, h⟩
  | p :: q :: r, c, h => by
    simp only [TL.joinL, List.mem_append] at h
    rcases h with h | h | h
    · exact .inr ⟨p, by simp, h⟩
    · exact .inl h
    · rcases joinL_mem S (q :: r) c h with z | ⟨x, hx, z⟩
      · exact .inl z
      · exact .inr ⟨x, List.mem_cons_of_mem _ hx, z⟩
theorem join_ok {y : Str} {ps : List Str} (hy : sOk y) (hp : ∀ p ∈ ps, sOk p) (hz : (Txt.join y ps).length ≤ SB) : sOk (Txt.join y ps) := by
  refine sOk_iff.mpr ⟨by rw [← TL.len_tl]; exact hz, fun c hc => ?_⟩
  rw [TL.join_eq, TL.tl_join] at hc
  rcases joinL_mem _ _ _ hc with z | ⟨p, hm, z⟩
  · exact (sOk_iff.mp hy).2 c z
  · obtain ⟨x, hx, rfl⟩ := List.mem_map.mp hm
    exact (sOk_iff.mp (hp x hx)).2 c z
def rJoin (K : PySem.W.Frag) : V → List V → Hp → VK → Prop := fun x xs H Q => ∃ a p, ∃ ys : List Str, x = .str a ∧ xs = [.ref p] ∧ (SqL K H p (ys.map V.str) ∨ SqT K H p (ys.map V.str)) ∧
  (ys.map (·.length)).sum + ys.length * a.length ≤ 16777216 ∧ Q (.str (Txt.join a ys)) H
theorem pe_join' {X : Cx} {o e : Expr} {to te : TE} {apos pos : Pos} (ho : PE X o to) (he : PE X e te) (hs : starEach [e] X.env = [(false, eval e X.env)] := by rfl) (hbase : attributeBase o "join" X.env (eval o X.env) = eval o X.env := by rfl) (hline : (apos.endLine == pos.line) = true := by rfl) :
    PE X (.Call (.Attribute o "join" apos) [e] [] pos) (tM1 (rJoin X.K) to te) := pe_join ho he hs hbase hline
theorem ev_join {y : Str} {ps : List Str} (ho : Ev K ta ρ μ (.val (.str y)) μ1) (he : Ev K tb ρ μ1 w μ2) (hw : SeqW μ2 w (ps.map D.str)) (hz : (ps.map (·.length)).sum + ps.length * y.length ≤ SB) : Ev K (tM1 (rJoin K) ta tb) ρ μ (.val (.str (Txt.join y ps))) μ2 := fun P as σ G H R Q q =>
  ho P as σ G H R _ fun v as1 G1 H1 n1 R1 ⟨ev, ok⟩ => ⟨⟨y, ev⟩, he P as1 σ G1 H1 R1 _ fun u as2 G2 H2 n2 R2 r2 => by
    obtain ⟨p, vs, eu, hs, hr, hl⟩ := hw.size R2 r2
    obtain ⟨e3, oks⟩ := hr.strs
    subst e3
    refine ⟨y, p, ps, ev, by rw [eu], hs, Nat.le_trans hz (by decide), q _ as2 G2 H2 (n1.trans n2) R2 ⟨rfl, join_ok ok oks ?_⟩⟩
    rw [TL.len_tl, TL.join_eq, TL.tl_join]
    refine Nat.le_trans (joinL_len _ _) ?_
    rw [List.map_map, List.length_map, ← TL.len_tl]
    exact Nat.le_trans (Nat.le_of_eq (by rw [show (List.length ∘ TL.tl : Str → Nat) = fun x => x.length from funext fun x => (TL.len_tl x).symm])) hz⟩
def cutD (xs : List D) (lo hi : Option Int) : List D := (xs.drop (HT.sIx xs.length 0 lo)).take (HT.sIx xs.length xs.length hi - HT.sIx xs.length 0 lo)
theorem cut_rep {G : Hp} {xs : List D} {vs : List V} {lo hi : Option Int} (r : RepL K G xs vs) : RepL K G (cutD xs lo hi) (cutV vs lo hi) := by
  unfold cutD cutV
  rw [r.length]
  exact (r.drop _).take _
theorem cut_len {xs : List D} {lo hi : Option Int} : (cutD xs lo hi).length ≤ xs.length := by
  unfold cutD
  rw [List.length_take, List.length_drop]
  omega
def rSlc (K : PySem.W.Frag) : V → Option Int → Option Int → Hp → VK → Prop := fun x lo hi H Q => rSlL K x lo hi H Q ∨ (rSlA K x lo hi H Q ∨ rSlS x lo hi H Q)
theorem SlR.or {X : Cx} {r r' : V → Option Int → Option Int → Hp → VK → Prop} (h : SlR X r) (h' : SlR X r') : SlR X (fun x lo hi H Q => r x lo hi H Q ∨ r' x lo hi H Q) := by
  intro pins s σ H x v vl vu lo hi sl Q I rx hs pl pu q
  rcases q with q | q
  · exact h pins s σ H x v vl vu lo hi sl Q I rx hs pl pu q
  · exact h' pins s σ H x v vl vu lo hi sl Q I rx hs pl pu q
theorem sl_any {X : Cx} : SlR X (rSlc X.K) := SlR.or sl_list (SlR.or sl_tupA sl_str)
def EvO (K : PySem.W.Frag) [HasW K] (to : TO) (ρ : Env') (μ : Mu) (o : Option Int) : Prop := ∀ (P : Addr → Prop) (as : List Addr) (σ : L2.St) (G H : Hp), Rl K G H as P ρ μ σ → ∀ Q : Option Int → Hp → Prop,
  (∀ as' G' H', Nx P as G H as' G' H' → Rl K G' H' as' P ρ μ σ → Q o H') → to σ H Q
theorem eo_none : EvO K tNoPart ρ μ none := fun P as σ G H R Q q => q as G H .refl R
theorem ev_append {j : Nat} {xs : List D} {t : TA} (ho : Ev K ta ρ μ (.loc j) μ1) (ha : EvD K t ρ μ1 [d] μ2) (h1 : ∃ ys, lstAt j ys μ1) (hm : μ2[j]? = some (.lst xs)) (hz : xs.length < LB) : Ev K (tBM K "list" rAppend ta t) ρ μ (.val .non) (μ2.set j (.lst (xs ++ [d]))) := fun P as σ G H R Q q =>
  ho P as σ G H R _ fun v as1 G1 H1 n1 R1 ⟨a, ha', ev⟩ => by
    obtain ⟨ys, h1⟩ := h1
    obtain ⟨vs0, g0, _, _⟩ := at_loc R1 ha' h1
    subst ev
    refine ⟨.inl ⟨rfl, _, SqL.of g0⟩, ha P as1 σ G1 H1 R1 _ fun us as2 G2 H2 n2 R2 r2 => ?_⟩
    obtain ⟨u, eu, ru⟩ := repL1 (RepWs.vals.mp r2)
    have ha2 := at_pre n2.pre ha'
    obtain ⟨g, z, vs, hh, rl⟩ := R2.mu j a _ ha2 hm
    refine ⟨a, vs, u, rfl, eu, hh, by rw [rl.length]; exact Nat.lt_of_lt_of_le hz (by decide), ?_⟩
    obtain ⟨R3, n3⟩ := R2.put (o := .lst (vs ++ [u])) (m' := .lst (xs ++ [d])) ha2 hm g ⟨g, by rw [List.length_append]; exact hz, _, upd_same, rl.append (RepL.cons ru RepL.nil)⟩ rfl
    exact q _ as2 G2 _ ((n1.trans n2).trans n3) R3 rfl
theorem ev_pop {j : Nat} {xs : List D} (ho : Ev K ta ρ μ (.loc j) μ1) (hm : μ1[j]? = some (.lst (xs ++ [d]))) : Ev K (tBM0 K "list" rPop ta) ρ μ (.val d) (μ1.set j (.lst xs)) := fun P as σ G H R Q q =>
  ho P as σ G H R _ fun v as1 G1 H1 n1 R1 ⟨a, ha', ev⟩ => by
    obtain ⟨g, z, vs, hh, rl⟩ := R1.mu j a _ ha' hm
    subst ev
    have hl : vs.length = xs.length + 1 := by rw [rl.length]; simp
    obtain ⟨u, eu, ru⟩ := rl.get (i := xs.length) (d := d) (by simp)
    refine ⟨.inl ⟨rfl, _, SqL.of hh⟩, a, vs, u, rfl, rfl, hh, by rw [hl]; exact eu, ?_⟩
    have rd : RepL K G1 xs vs.dropLast := by
      have := rl.take xs.length
      rw [List.take_append_of_le_length (Nat.le_refl _), List.take_length] at this
      rw [List.dropLast_eq_take, hl]
      exact this
    obtain ⟨R3, n3⟩ := R1.put (o := .lst vs.dropLast) (m' := .lst xs) ha' hm g ⟨g, by simp at z; omega, _, upd_same, rd⟩ rfl
    exact q _ as1 G1 _ (n1.trans n3) R3 ru
theorem RepL.erase {G : Hp} : ∀ {xs : List D} {vs : List V} (k : Nat), RepL K G xs vs → RepL K G (xs.eraseIdx k) (vs.eraseIdx k)
  | [], _, k, h => by rw [show _ = [] from h]; exact rfl
  | _ :: _, _, 0, ⟨v, r, e, _, h2⟩ => by rw [e]; exact h2
  | _ :: _, _, k + 1, ⟨v, r, e, h1, h2⟩ => by rw [e]; exact ⟨v, _, rfl, h1, RepL.erase k h2⟩
theorem ex_setItem {j k : Nat} {xs : List D} {n : Int} (hv : Ev K te ρ μ (.val d) μ1) (ho : Ev K ta ρ μ1 (.loc j) μ2) (hi : Ev K tb ρ μ2 (.val (.int n)) μ3) (hm : μ3[j]? = some (.lst xs)) (hk : ixN xs.length n = some k) : Ex K (tAsg te (gSub ta tb rSetL)) ρ μ (.nx ρ (μ3.set j (.lst (xs.set k d)))) := fun P as σ G H R E q =>
  hv P as σ G H R _ fun v as1 G1 H1 n1 R1 r1 => ho P as1 σ G1 H1 R1 _ fun o as2 G2 H2 n2 R2 ⟨a, ha', ev⟩ => hi P as2 σ G2 H2 R2 _ fun x as3 G3 H3 n3 R3 r3 => by
    have ha3 := at_pre n3.pre ha'
    obtain ⟨g, z, vs, hh, rl⟩ := R3.mu j a _ ha3 hm
    refine ⟨a, vs, n, k, ev, r3, hh, by rw [rl.length]; exact hk, ?_⟩
    have rs : ∀ {xs : List D} {vs : List V} (k : Nat), RepL K G3 xs vs → RepL K G3 (xs.set k d) (vs.set k v) := by
      have rv := Rep.mono (n2.trans n3).gr _ _ r1
      intro xs
      induction xs with
      | nil => intro vs k h; rw [show vs = [] from h]; exact rfl
      | cons x xs ih =>
        rintro vs k ⟨u, r, e, h1, h2⟩
        subst e
        cases k with
        | zero => exact ⟨v, r, rfl, rv, h2⟩
        | succ k => exact ⟨u, _, rfl, h1, ih k h2⟩
    obtain ⟨R4, n4⟩ := R3.put (o := .lst (vs.set k v)) (m' := .lst (xs.set k d)) ha3 hm g ⟨g, by rw [List.length_set]; exact z, _, upd_same, rs k rl⟩ rfl
    exact q as3 σ G3 _ (((n1.trans n2).trans n3).trans n4) R4
theorem ex_par {j : Nat} {t : TA} {w1 w2 : W} (h : EvA K t ρ μ [w1, w2] μ1) : Ex K (tPar i j t) ρ μ (.nx ((ρ.set i (some w1)).set j (some w2)) μ1) := fun P as σ G H R E q =>
  h P as σ G H R _ fun vs as1 G1 H1 n1 R1 ⟨v, r, ev, r1, r2⟩ => by
    obtain ⟨u, eu, ru⟩ := repW1 r2
    subst eu
    exact ⟨v, u, ev, q as1 _ G1 H1 n1 ((R1.set r1).set ru)⟩
end
end DK
namespace DK
open PySem PySem.Spec PyProof.Rows L2
theorem enum_newT (t : Addr) (its : Array Value) :
    Meets (Builtin.«enumerate.__new__» ⟨[.type "enumerate", .ref t], []⟩) (fun _ R s => s.heap.IsTuple t its ∧
      R (.ok (.ret (.ref (s.heap.push { cls := .type "tuple_iterator", data := .fields #[.ref t, .int 0 0] }).objs.size)))
        { s with heap := (s.heap.push { cls := .type "tuple_iterator", data := .fields #[.ref t, .int 0 0] }).push { cls := .type "enumerate", data := .fields #[.none, .bool false, .ref s.heap.objs.size, rawInt 0, .none, .none] } }) :=
  .of_wp fun prog w A R s hyp => by
    obtain ⟨hp, g, d, tk, os⟩ := s
    obtain ⟨ht, k⟩ := hyp
    have sub := sub_enumerate
    wp_walk
    refine wpAny_stack_any fun st => wpAny_pure ?_
    split
    · rename_i c _ _ _ _ _
      cases (c == Value.type "enumerate")
      · wp_walk using wpAny_pyIter_tuple ht
        exact ⟨_, rfl, k⟩
      · wp_walk using wpAny_pyIter_tuple ht
        exact ⟨_, rfl, k⟩
    · wp_walk using wpAny_pyIter_tuple ht
      exact ⟨_, rfl, k⟩
theorem call_enumT {prog : Program} {w : World} {A : Around} {E : Value → Shared → Prop} {s : Shared} {t : Addr} {its : Array Value} {Q : Value → Shared → Prop} (ht : s.heap.IsTuple t its)
    (k : ∀ h', IsEnum h' (s.heap.objs.size + 1) s.heap.objs.size 0 .none → h'.IsTupleIter s.heap.objs.size t 0 → (∀ b o, s.heap.get? b = some o → h'.get? b = some o) → Q (.ref (s.heap.objs.size + 1)) { s with heap := h' }) :
    wpAny (model prog w) A (call (.type "enumerate") [.ref t]) Q E s := by
  refine callType_new F.called_enumerate (by decide) (F.typeCall_enumerate_1 _) (F.newCall_enumerate_1 _) (fun ob => F.args_object_init_2 ob _) F.entry_enumerate_new (enum_newT t its) ⟨ht, ?_⟩
  have zz : (s.heap.push { cls := .type "tuple_iterator", data := .fields #[.ref t, .int 0 0] }).objs.size = s.heap.objs.size + 1 := Heap.size_push ..
  show _ ∧ _
  rw [zz]
  have en : IsEnum ((s.heap.push { cls := .type "tuple_iterator", data := .fields #[.ref t, .int 0 0] }).push { cls := .type "enumerate", data := .fields #[.none, .bool false, .ref s.heap.objs.size, rawInt 0, .none, .none] }) (s.heap.objs.size + 1) s.heap.objs.size 0 .none := by
    have q := Heap.get?_push_size (s.heap.push { cls := .type "tuple_iterator", data := .fields #[.ref t, .int 0 0] }) (o := { cls := .type "enumerate", data := .fields #[.none, .bool false, .ref s.heap.objs.size, rawInt 0, .none, .none] }) rfl
    rw [zz] at q
    exact q
  exact ⟨⟨_, en, rfl⟩, k _ en ⟨_, Heap.get?_push_of_some _ (Heap.get?_push_size _ rfl), rfl, rfl⟩ fun b o e => Heap.get?_push_of_some _ (Heap.get?_push_of_some _ e)⟩
def ItU (K : PySem.W.Frag) (a : Addr) : It :=
  ⟨fun i H => ∃ (xs : List V) (x : V), SqT K H a xs ∧ xs[i]? = some x, fun i H v H' => ∃ T x, v = .ref T ∧ H T = none ∧ H' = upd H T (.tup [.int (i : Nat), x]) ∧ ∀ xs, SqT K H a xs → xs[i]? = some x, fun i H => ∃ xs : List V, SqT K H a xs ∧ xs.length ≤ i⟩
theorem turn_enumT {P : Program} {w : World} {K : PySem.W.Frag} [HasW K] {elts : List Expr} {kk : Nat} {tpos : Pos} (a e it : Addr) :
    Turn P w K (.Tuple elts kk tpos) (ItU K a) [e, it] e (fun i h => (∃ old, IsEnum h e it ((i : Nat) : Int) old) ∧ h.IsTupleIter it a i ∧ e ≠ it ∧ a ≠ it ∧ e ≠ a) where
  mem := by simp
  obj := fun i h st b hb => by
    obtain ⟨⟨old, en⟩, ⟨ob, g0, g1, g2⟩, _⟩ := st
    rcases (show b = e ∨ b = it by simpa using hb) with z | z
    · rw [z]; exact ⟨_, en, fun v q => nomatch q⟩
    · rw [z]; exact ⟨ob, g0, fun v q => by rw [g2] at q; cases q⟩
  keep := fun i h h' st k => let ⟨⟨old, en⟩, ti, ne⟩ := st; ⟨⟨old, k e (by simp) _ en⟩, ti.at fun ob q => k it (by simp) ob q, ne⟩
  item := by
    intro X hP hw hK hc i pins s σ H E I hf st hg
    subst hP hw hK
    obtain ⟨⟨old, en⟩, ti, ne, na, nb⟩ := st
    obtain ⟨xs, x, hq, hx⟩ := hg
    obtain ⟨its, rv, tp, hz⟩ := I.tuple hq
    obtain ⟨u, hu, ru⟩ := rv.get hx
    have le : e < s.heap.objs.size := Heap.lt_size en
    have li : it < s.heap.objs.size := by obtain ⟨_, q, _⟩ := ti; exact Heap.lt_size q
    have Dr := Draws.tuple (prog := X.prog) (w := X.w) (A := X.A.in1) (I.ok.hd hc) it a na its.toArray
    have hlt : i < its.toArray.size := by
      have := (List.getElem?_eq_some_iff.mp hu).1
      simpa using this
    refine wpAny_pyNext_enum_itemD Dr en ⟨ti, tp⟩ hlt ne (by simp [ne, nb]) fun y h' tk py eo st' hT hsz kp => ?_
    have eu : y = u := by
      have : its.toArray[i]? = some u := by simpa using hu
      rw [this] at py
      exact (Option.some.inj py).symm
    subst eu
    refine ⟨_, rfl, wpAny_letOwnedTupleGo_enum (s := { s with heap := h', toks := tk + 1 }) eo fun h2 en2 sb => ?_⟩
    have hT2 : h2.get? s.heap.objs.size = some { cls := .type "tuple", data := .seq #[.int i tk, y] } := (sb.2 _ (Nat.ne_of_gt le)).trans hT
    have new : ObjOk X.prog X.w (upd H s.heap.objs.size (.tup [.int (i : Nat), x])) h2 s.heap.objs.size (.tup [.int (i : Nat), x]) :=
      ⟨by show (2 : Nat) ≤ sizeLine; decide, [.int i tk, y], .cons ⟨_, rfl⟩ (.cons ru .nil), ⟨_, hT2, rfl, _, rfl⟩⟩
    have J : Inv X pins σ (upd H s.heap.objs.size (.tup [.int (i : Nat), x])) { s with heap := h2, toks := tk + 1 } :=
      I.turnedNew (ch := [e, it]) (fun b ob hb q => (sb.2 b (fun z => hb (by simp [z]))).trans (kp b ob (fun z => hb (by simp [z])) (fun z => hb (by simp [z])) q)) hf (Nat.le_refl _) new
    refine ⟨.ref s.heap.objs.size, _, J, rfl, ⟨_, x, rfl, I.hok.fresh (Nat.le_refl _), rfl, fun ys hy => by rw [I.tuple_inj hy hq]; exact hx⟩, ⟨⟨y, ?_⟩, st'.1.at fun ob q => (sb.2 it (Ne.symm ne)).trans q, ne, na, nb⟩, fun b hb => ?_⟩
    · rw [show ((i + 1 : Nat) : Int) = (i : Int) + 1 by omega]
      exact en2
    · have hb' : b < s.heap.objs.size := by
        rcases (show b = e ∨ b = it by simpa using hb) with z | z
        · rw [z]; exact le
        · rw [z]; exact li
      rw [upd_ne (Nat.ne_of_lt hb')]
      exact (hf b hb).1
  done := by
    intro X hP hw hK hc i pins s σ H E I hf st hg
    subst hP hw hK
    obtain ⟨⟨old, en⟩, ti, ne, na, nb⟩ := st
    obtain ⟨xs, hq, hx⟩ := hg
    obtain ⟨its, rv, tp, hz⟩ := I.tuple hq
    obtain ⟨f0, f1, f2, f3, f4, f5⟩ := hf it (by simp)
    have hl := rv.length
    have hsz : its.toArray.size = its.length := by simp
    have go : ∀ (h' : Heap), Heap.ExtBut it s.heap h' → (none : Option Value) = none ∧ Inv X pins σ H { s with heap := h' } := fun h' eb => ⟨rfl, I.turned (t' := s.toks) (fun b ob hb q => eb b ob hb q) f0 f1 f3 f4 f5⟩
    unfold pyNext
    have hT : s.TypeIs (.ref e) "enumerate" := ⟨_, en, rfl⟩
    refine wpAny_bind (wpAny_attempt (wpAny_callSpecial?_slot (name := Str.ofString "__next__") hT F.slot_enumerate_next
      (wpAny_call_entry F.slot_enumerate_next hT F.entry_enumerate_next ?_ (F.args_enumerate_next_1 _))))
    show wpAny _ _ (field (.ref e) 2 >>= _) _ _ _
    refine wpAny_bind (wpAny_field en rfl (x := .ref it) rfl ?_)
    refine wpAny_bind (wpAny_nextOf_tuple_end (I.ok.hd hc) ti (show s.heap.IsTuple a its.toArray from tp) (by simp; omega) fun h' x eb hx' => ?_)
    obtain ⟨ob, g0, g1⟩ := hx'
    exact wpAny_bind (wpAny_isInstance (T := "StopIteration") (b := true) ⟨ob, g0, g1⟩ isSubtype_stop (wpAny_pure (go _ eb)))
  self := fun A i s Q E st h => let ⟨⟨_, en⟩, _⟩ := st; wpAny_pyIter_enum en h
def iEnumT (K : PySem.W.Frag) (ta : TA) : TI := fun σ H R => ta σ H fun vs H1 => ∃ a xs, vs = [.ref a] ∧ SqT K H1 a xs ∧ R (ItU K a) H1
theorem pi_enumT {X : Cx} {e : Expr} {ta : TA} {p pos tpos : Pos} {elts : List Expr} {kk : Nat} (hg : Gl X "enumerate") (hm : X.mg "enumerate" = none) (ha : PA X [e] ta) (hs : starEach [e] X.env = [(false, eval e X.env)] := by rfl) :
    PI X (.Tuple elts kk tpos) (.Call (.Name "enumerate" p) [e] [] pos) (iEnumT X.K ta) := by
  refine ⟨fun pins s σ H R I h => ?_⟩
  refine Call_ (ld_blt I hg hm boot_enumerate (PyProof.Rows.callWith_type1 (thn (ha.run pos pins s σ H _ I h) fun us sa ⟨vs, Ha, Ia, ra, qa⟩ => ?_) hs rfl))
  obtain ⟨a, xs, ex, hq, q⟩ := qa
  subst ex
  cases ra with
  | cons r rr =>
    cases rr
    cases r
    obtain ⟨its, rv, tp, hz⟩ := Ia.tuple hq
    refine call_enumT (show sa.heap.IsTuple a its.toArray from tp) fun h' en ti kp => wpAny_pyIter_enum en ?_
    have Ib : Inv X pins σ Ha { sa with heap := h' } := Ia.kept (t' := sa.toks) kp
    have la : a < sa.heap.objs.size := by obtain ⟨ob, g0, _⟩ := tp; exact Heap.lt_size g0
    refine ⟨sa.heap.objs.size + 1, [sa.heap.objs.size + 1, sa.heap.objs.size], _, _, Ha, rfl, Ib, turn_enumT a (sa.heap.objs.size + 1) sa.heap.objs.size, ⟨⟨.none, en⟩, ti, Nat.succ_ne_self _, Nat.ne_of_lt la, Ne.symm (Nat.ne_of_lt (Nat.lt_succ_of_lt la))⟩, fun b hb => ?_, q⟩
    have hb' : sa.heap.objs.size ≤ b := by
      rcases (show b = sa.heap.objs.size + 1 ∨ b = sa.heap.objs.size by simpa using hb) with z | z
      · rw [z]; exact Nat.le_succ _
      · rw [z]; exact Nat.le_refl _
    exact Ia.fpOk hb' (Ia.hok.fresh hb')
def iEnumA (K : PySem.W.Frag) (ta : TA) : TI := fun σ H R => iEnum K ta σ H R ∨ iEnumT K ta σ H R
theorem pi_enumA {X : Cx} {e : Expr} {ta : TA} {p pos tpos : Pos} {elts : List Expr} {kk : Nat} (hg : Gl X "enumerate") (hm : X.mg "enumerate" = none) (ha : PA X [e] ta) (hs : starEach [e] X.env = [(false, eval e X.env)] := by rfl) :
    PI X (.Tuple elts kk tpos) (.Call (.Name "enumerate" p) [e] [] pos) (iEnumA X.K ta) := PI.or (pi_enum hg hm ha hs) (pi_enumT hg hm ha hs)
section
variable {K : PySem.W.Frag} [HasW K] {ρ : Env'} {μ μ1 : Mu} {w : W} {t : TA}
def enumD : Nat → List D → List D
  | _, [] => []
  | n, x :: xs => .tup [.int (n : Int), x] :: enumD (n + 1) xs
theorem enumD_get : ∀ {xs : List D} {n i : Nat}, (enumD n xs)[i]? = (xs[i]?).map fun x => D.tup [.int ((n + i : Nat) : Int), x]
  | [], _, _ => by simp [enumD]
  | x :: xs, n, 0 => by simp [enumD]
  | x :: xs, n, i + 1 => by
    show (enumD (n + 1) xs)[i]? = _
    rw [enumD_get, List.getElem?_cons_succ, show n + 1 + i = n + (i + 1) by omega]
theorem pair_step {G1 H : Hp} {as : List Addr} {P : Addr → Prop} {σ : L2.St} {T : Addr} {n : Int} {x : V} {d : D} (R : Rl K G1 H as P ρ μ σ) (hT : H T = none) (r : Rep K G1 d x) : ∃ G2, Nx P as G1 H as G2 (upd H T (.tup [.int n, x])) ∧ Rl K G2 (upd H T (.tup [.int n, x])) as P ρ μ σ ∧ Rep K G2 (.tup [.int n, d]) (.ref T) := by
  obtain ⟨R2, n2⟩ := R.imm hT (.tup [.int n, x])
  exact ⟨_, n2, R2, by show (2 : Nat) ≤ LB; decide, T, _, rfl, SqT.of upd_same, .int n, [x], rfl, rfl, x, [], rfl, Rep.mono n2.gr _ _ r, rfl⟩
theorem ei_enum {xs : List D} (h : EvA K t ρ μ [w] μ1) (hw : SeqW μ1 w xs) : EvI K (iEnumA K t) ρ μ (enumD 0 xs) μ1 (seqC w xs) := ⟨seqC_of hw, fun P as σ G H R Q q => by
  have key : ∀ i, (enumD 0 xs)[i]? = (xs[i]?).map fun x => D.tup [.int ((i : Nat) : Int), x] := fun i => by
    rw [enumD_get]
    simp
  have viaL : ∀ (as0 : List Addr) (G0 : Hp) (a : Addr), (∀ (P' : Addr → Prop) (as' : List Addr) (ρ' : Env') (μ' : Mu) (σ' : L2.St) (G1 H' : Hp), Same G0 G1 → (∃ t, as' = as0 ++ t) → seqC w xs μ' → Rl K G1 H' as' P' ρ' μ' σ' → ∃ vs, H' a = some (.lst vs) ∧ RepL K G1 xs vs) → ItD K G0 as0 (seqC w xs) (Ite K a) (enumD 0 xs) := fun as0 G0 a ok i P' as' ρ' μ' σ' G1 H' s pr hc R' => by
    obtain ⟨vs, hh, rl⟩ := ok P' as' ρ' μ' σ' G1 H' s pr hc R'
    have hs : SqL K H' a vs := SqL.of hh
    rw [key]
    constructor
    · intro d hd
      cases e : xs[i]? with
      | none => rw [e] at hd; cases hd
      | some x =>
        rw [e] at hd
        cases hd
        obtain ⟨u, hu, ru⟩ := rl.get e
        refine ⟨⟨vs, u, hs, hu⟩, fun y H2 ⟨T, x', ey, hT, eH, hx⟩ => ?_⟩
        have : x' = u := by
          have := hx vs hs
          rw [hu] at this
          exact (Option.some.inj this).symm
        subst this ey eH
        exact pair_step R' hT ru
    · intro hn
      cases e : xs[i]? with
      | none => exact ⟨vs, hs, by rw [rl.length]; exact List.getElem?_eq_none_iff.mp e⟩
      | some x => rw [e] at hn; cases hn
  cases hw with
  | lst =>
    refine .inl (h P as σ G H R _ fun vs as1 G1 H1 n1 R1 r1 => ?_)
    obtain ⟨v, ev, _, a, us, eu, g, rl⟩ := repW1 r1
    subst eu
    exact ⟨a, us, ev, SqL.of (R1.sub _ _ g), q _ as1 G1 H1 n1 R1 (viaL as1 G1 a fun P' as' ρ' μ' σ' G2 H' s _ _ R' => ⟨us, R'.sub _ _ (s _ _ g), RepL.mono s _ _ rl⟩)⟩
  | loc hm =>
    refine .inl (h P as σ G H R _ fun vs as1 G1 H1 n1 R1 r1 => ?_)
    obtain ⟨v, ev, a, ha, eu⟩ := repW1 r1
    subst eu
    obtain ⟨us, g, rl, _⟩ := at_loc R1 ha (.inl hm)
    refine ⟨a, us, ev, SqL.of g, q _ as1 G1 H1 n1 R1 (viaL as1 G1 a fun P' as' ρ' μ' σ' G2 H' s pr hc R' => ?_)⟩
    obtain ⟨us', g', rl', _⟩ := at_loc R' (at_pre pr ha) hc
    exact ⟨us', g', rl'⟩
  | frz hm =>
    refine .inl (h P as σ G H R _ fun vs as1 G1 H1 n1 R1 r1 => ?_)
    obtain ⟨v, ev, a, ha, eu⟩ := repW1 r1
    subst eu
    obtain ⟨us, g, rl, _⟩ := at_loc R1 ha (.inr hm)
    refine ⟨a, us, ev, SqL.of g, q _ as1 G1 H1 n1 R1 (viaL as1 G1 a fun P' as' ρ' μ' σ' G2 H' s pr hc R' => ?_)⟩
    obtain ⟨us', g', rl', _⟩ := at_loc R' (at_pre pr ha) hc
    exact ⟨us', g', rl'⟩
  | tup =>
    refine .inr (h P as σ G H R _ fun vs as1 G1 H1 n1 R1 r1 => ?_)
    obtain ⟨v, ev, _, a, us, eu, g, rl⟩ := repW1 r1
    subst eu
    refine ⟨a, us, ev, same_sqt R1.sub g, q _ as1 G1 H1 n1 R1 fun i P' as' ρ' μ' σ' G2 H' s _ _ R' => ?_⟩
    have hs : SqT K H' a us := same_sqt R'.sub (same_sqt s g)
    have rl2 := RepL.mono s _ _ rl
    rw [key]
    constructor
    · intro d hd
      cases e : xs[i]? with
      | none => rw [e] at hd; cases hd
      | some x =>
        rw [e] at hd
        cases hd
        obtain ⟨u, hu, ru⟩ := rl2.get e
        refine ⟨⟨us, u, hs, hu⟩, fun y H2 ⟨T, x', ey, hT, eH, hx⟩ => ?_⟩
        have : x' = u := by
          have := hx us hs
          rw [hu] at this
          exact (Option.some.inj this).symm
        subst this ey eH
        exact pair_step R' hT ru
    · intro hn
      cases e : xs[i]? with
      | none => exact ⟨us, hs, by rw [rl2.length]; exact List.getElem?_eq_none_iff.mp e⟩
      | some x => rw [e] at hn; cases hn⟩
end
end DK
namespace DK
open PySem PySem.Spec PyProof.Rows L2
section
variable {K : PySem.W.Frag} [HasW K] {ρ ρ1 ρ2 : Env'} {μ μ1 μ2 μ3 : Mu} {ta tb te tc : TE} {w : W} {a b d : D} {i : Nat}
def keyD : Key → D
  | .inl n => .int n
  | .inr s => .str s
def valD (kvs : List (Key × D)) (k : Key) : Option D := (kvs.find? fun kv => decide (kv.1 = k)).map (·.2)
def putD (kvs : List (Key × D)) (k : Key) (d : D) : List (Key × D) :=
  if (kvs.any fun kv => decide (kv.1 = k)) = true then kvs.map (fun kv => if kv.1 = k then (kv.1, d) else kv) else kvs ++ [(k, d)]
def dropD (kvs : List (Key × D)) (k : Key) : List (Key × D) := kvs.filter fun kv => decide (kv.1 ≠ k)
theorem RepK.length {G : Hp} : ∀ {ks : List (Key × D)} {vs : List (Key × V)}, RepK K G ks vs → vs.length = ks.length
  | [], _, h => by rw [show _ = [] from h]; rfl
  | (_, _) :: _, _, ⟨_, _, e, _, h⟩ => by rw [e, List.length_cons, List.length_cons, RepK.length h]
theorem RepK.val {G : Hp} {k : Key} : ∀ {ks : List (Key × D)} {vs : List (Key × V)}, RepK K G ks vs → (∀ d, valD ks k = some d → ∃ v, valV vs k = some v ∧ Rep K G d v) ∧ (valD ks k = none → valV vs k = none)
  | [], _, h => by
    rw [show _ = [] from h]
    exact ⟨fun d e => (by cases e), fun _ => rfl⟩
  | (k0, d0) :: ks, _, ⟨v, r, e, h1, h2⟩ => by
    subst e
    obtain ⟨i1, i2⟩ := RepK.val (k := k) h2
    unfold valD valV at *
    rw [List.find?_cons, List.find?_cons]
    by_cases q : k0 = k
    · simp only [q, decide_true, Option.map_some]
      exact ⟨fun d e => ⟨v, rfl, by cases e; exact h1⟩, fun e => (by cases e)⟩
    · simp only [q, decide_false]
      exact ⟨i1, i2⟩
theorem RepK.any {G : Hp} {k : Key} : ∀ {ks : List (Key × D)} {vs : List (Key × V)}, RepK K G ks vs → (vs.any fun kv => decide (kv.1 = k)) = (ks.any fun kv => decide (kv.1 = k))
  | [], _, h => by rw [show _ = [] from h]; rfl
  | (_, _) :: _, _, ⟨_, _, e, _, h⟩ => by rw [e, List.any_cons, List.any_cons, RepK.any h]
theorem RepK.append {G : Hp} : ∀ {ks ls : List (Key × D)} {vs us : List (Key × V)}, RepK K G ks vs → RepK K G ls us → RepK K G (ks ++ ls) (vs ++ us)
  | [], _, _, _, h, k => by rw [show _ = [] from h]; exact k
  | (_, _) :: _, _, _, _, ⟨v, r, e, h1, h2⟩, k => by rw [e]; exact ⟨v, r ++ _, rfl, h1, RepK.append h2 k⟩
theorem RepK.over {G : Hp} {k : Key} {d : D} {v : V} (hd : Rep K G d v) : ∀ {ks : List (Key × D)} {vs : List (Key × V)}, RepK K G ks vs → RepK K G (ks.map fun kv => if kv.1 = k then (kv.1, d) else kv) (vs.map fun kv => if kv.1 = k then (kv.1, v) else kv)
  | [], _, h => by rw [show _ = [] from h]; exact rfl
  | (k0, d0) :: ks, _, ⟨u, r, e, h1, h2⟩ => by
    subst e
    rw [List.map_cons, List.map_cons]
    by_cases q : k0 = k
    · rw [if_pos (show (k0, d0).1 = k from q), if_pos (show (k0, u).1 = k from q)]
      exact ⟨v, _, rfl, hd, RepK.over hd h2⟩
    · rw [if_neg (show ¬ (k0, d0).1 = k from q), if_neg (show ¬ (k0, u).1 = k from q)]
      exact ⟨u, _, rfl, h1, RepK.over hd h2⟩
theorem RepK.keys {G : Hp} : ∀ {ks : List (Key × D)} {vs : List (Key × V)}, RepK K G ks vs → ∀ i : Nat, vs[i]?.map (·.1) = ks[i]?.map (·.1)
  | [], _, h, i => by rw [show _ = [] from h]; rfl
  | (k0, d0) :: ks, _, ⟨u, r, e, h1, h2⟩, 0 => by rw [e]; rfl
  | (k0, d0) :: ks, _, ⟨u, r, e, h1, h2⟩, i + 1 => by
    rw [e, List.getElem?_cons_succ, List.getElem?_cons_succ]
    exact RepK.keys h2 i
theorem RepK.put {G : Hp} {k : Key} {d : D} {v : V} (hd : Rep K G d v) {ks : List (Key × D)} {vs : List (Key × V)} (h : RepK K G ks vs) : RepK K G (putD ks k d) (putK vs k v) := by
  unfold putD putK
  rw [h.any]
  split
  · exact RepK.over hd h
  · exact h.append ⟨v, [], rfl, hd, rfl⟩
theorem RepK.drop {G : Hp} {k : Key} : ∀ {ks : List (Key × D)} {vs : List (Key × V)}, RepK K G ks vs → RepK K G (dropD ks k) (dropK vs k)
  | [], _, h => by rw [show _ = [] from h]; exact rfl
  | (k0, d0) :: ks, _, ⟨v, r, e, h1, h2⟩ => by
    subst e
    have ih := RepK.drop (k := k) h2
    unfold dropD dropK at *
    by_cases q : k0 ≠ k
    · rw [List.filter_cons_of_pos (a := (k0, d0)) (decide_eq_true q), List.filter_cons_of_pos (a := (k0, v)) (decide_eq_true q)]
      exact ⟨v, _, rfl, h1, ih⟩
    · rw [List.filter_cons_of_neg (a := (k0, d0)) (by simpa using q), List.filter_cons_of_neg (a := (k0, v)) (by simpa using q)]
      exact ih
inductive Dc (K : PySem.W.Frag) [HasW K] (g : TG) (tt : TT) (tk tv : TE) (vs : List Nat) (C : Mu → Prop) (ρ : Env') : List D → Mu → List (Key × D) → Mu → List (Key × D) → Prop where
  | nil {μ : Mu} {acc : List (Key × D)} : Dc K g tt tk tv vs C ρ [] μ acc μ acc
  | skip {x : D} {xs : List D} {ρ1 : Env'} {μ μ1 μ' : Mu} {acc out : List (Key × D)} : EvGc K g x vs ρ ρ1 → EvB K tt ρ1 μ false μ1 → C μ1 → Dc K g tt tk tv vs C ρ xs μ1 acc μ' out → Dc K g tt tk tv vs C ρ (x :: xs) μ acc μ' out
  | take {x y : D} {k : Key} {xs : List D} {ρ1 : Env'} {μ μ1 μ2 μ3 μ' : Mu} {acc out : List (Key × D)} : EvGc K g x vs ρ ρ1 → EvB K tt ρ1 μ true μ1 → Ev K tk ρ1 μ1 (.val (keyD k)) μ2 → Ev K tv ρ1 μ2 (.val y) μ3 → C μ3 →
      Dc K g tt tk tv vs C ρ xs μ3 (putD acc k y) μ' out → Dc K g tt tk tv vs C ρ (x :: xs) μ acc μ' out
inductive Lc2 (K : PySem.W.Frag) [HasW K] (g : TG) (tt : TT) (wi1 : TI) (g1 : TG) (tt1 : TT) (te : TE) (vs vs1 : List Nat) (ρ : Env') (μ : Mu) : List D → List D → Prop where
  | nil : Lc2 K g tt wi1 g1 tt1 te vs vs1 ρ μ [] []
  | skip {x : D} {xs ys : List D} {ρ1 : Env'} : EvGc K g x vs ρ ρ1 → EvB K tt ρ1 μ false μ → Lc2 K g tt wi1 g1 tt1 te vs vs1 ρ μ xs ys → Lc2 K g tt wi1 g1 tt1 te vs vs1 ρ μ (x :: xs) ys
  | take {x : D} {xs us zs ys : List D} {ρ1 : Env'} : EvGc K g x vs ρ ρ1 → EvB K tt ρ1 μ true μ → EvI K wi1 ρ1 μ us μ CT → Lc K g1 tt1 te vs1 CT (wipeE ρ1 vs1) us μ zs μ → Lc2 K g tt wi1 g1 tt1 te vs vs1 ρ μ xs ys → Lc2 K g tt wi1 g1 tt1 te vs vs1 ρ μ (x :: xs) (zs ++ ys)
end
end DK
namespace DK
open PySem PySem.Spec PyProof.Rows L2
section
variable {K : PySem.W.Frag} [HasW K] {ρ ρ1 ρ2 : Env'} {μ μ1 μ2 μ3 : Mu} {ta tb te tc : TE} {w : W} {a b d : D} {i : Nat}
theorem new_loc {G H : Hp} {as : List Addr} {P : Addr → Prop} {σ : L2.St} {p : Addr} {o : HO} {m : MO} (R : Rl K G H as P ρ μ σ) (hp : H p = none) (hm : MOk K G (upd H p o) (as ++ [p]) p m) (hb : m.below (μ.length + 1) = true) {Q : VK}
    (q : ∀ v as' G' H', Nx P as G H as' G' H' → Rl K G' H' as' P ρ (μ ++ [m]) σ → RepW K G' as' (.loc μ.length) v → Q v H') : Q (.ref p) (upd H p o) := by
  obtain ⟨R2, n2⟩ := R.mut hp hm hb
  exact q _ _ _ _ n2 R2 ⟨p, by rw [List.getElem?_append_right (by rw [R.len]; exact Nat.le_refl _), R.len]; simp, rfl⟩
theorem ev_lsW {t : TA} {ws : List W} (h : EvA K t ρ μ ws μ1) (hz : ws.length ≤ LB) (hb : ∀ w ∈ ws, w.below μ1.length = true) : Ev K (tLst t) ρ μ (.loc μ1.length) (μ1 ++ [.lsW ws]) := fun P as σ G H R Q q =>
  h P as σ G H R _ fun vs as1 G1 H1 n1 R1 r1 => by
    refine ⟨by rw [r1.length]; exact Nat.le_trans hz (by decide), fun p hp => ?_⟩
    have hp' := R1.sub.free hp
    refine new_loc R1 hp (m := .lsW ws) (o := .lst vs) ⟨hp', hz, vs, upd_same, r1.mono (Same.refl _) ⟨[p], rfl⟩⟩ ?_ fun v as' G' H' n R' r => q v as' G' H' (n1.trans n) R' r
    exact List.all_eq_true.mpr fun x hx => by
      have := hb x hx
      cases x with
      | val d => rfl
      | loc j => exact decide_eq_true (Nat.lt_succ_of_lt (of_decide_eq_true this))
theorem ev_revM {xs : List D} (h : Ev K te ρ μ (.val (.lst xs)) μ1) : Ev K (tRevL K te) ρ μ (.loc μ1.length) (μ1 ++ [.lst xs.reverse]) := fun P as σ G H R Q q =>
  h P as σ G H R _ fun v as1 G1 H1 n1 R1 ⟨z, a, vs, ev, g, hr⟩ => ⟨a, vs, ev, SqL.of (R1.sub _ _ g), fun p hp =>
    new_loc R1 hp (m := .lst xs.reverse) (o := .lst vs.reverse) ⟨R1.sub.free hp, by rw [List.length_reverse]; exact z, _, upd_same, hr.reverse⟩ rfl fun v as' G' H' n R' r => q v as' G' H' (n1.trans n) R' r⟩
inductive SeqL' (μ : Mu) : W → List D → Prop where
  | lst {xs : List D} : SeqL' μ (.val (.lst xs)) xs
  | loc {j : Nat} {xs : List D} : μ[j]? = some (.lst xs) → SeqL' μ (.loc j) xs
  | frz {j : Nat} {xs : List D} : μ[j]? = some (.frz xs) → SeqL' μ (.loc j) xs
theorem SeqL'.here {G H : Hp} {as : List Addr} {P : Addr → Prop} {σ : L2.St} {xs : List D} {v : V} (R : Rl K G H as P ρ μ σ) (h : SeqL' μ w xs) (r : RepW K G as w v) : ∃ a vs, v = .ref a ∧ H a = some (.lst vs) ∧ RepL K G xs vs ∧ xs.length ≤ LB := by
  cases h with
  | lst => obtain ⟨z, a, vs, e, g, q⟩ := r; exact ⟨a, vs, e, R.sub _ _ g, q, z⟩
  | loc hm =>
    obtain ⟨a, ha, e⟩ := r
    obtain ⟨vs, h1, h2, z⟩ := at_loc R ha (.inl hm)
    exact ⟨a, vs, e, h1, h2, z⟩
  | frz hm =>
    obtain ⟨a, ha, e⟩ := r
    obtain ⟨vs, h1, h2, z⟩ := at_loc R ha (.inr hm)
    exact ⟨a, vs, e, h1, h2, z⟩
theorem atI_repW {G : Hp} {as : List Addr} {ds : List W} {vs : List V} {i : Int} {d : W} (r : RepWs K G as ds vs) (h : atI ds i = some d) : ∃ v, atI vs i = some v ∧ RepW K G as d v := by
  unfold atI at h ⊢
  rw [r.length]
  cases e : ixN ds.length i with
  | none => rw [e] at h; cases h
  | some j =>
    rw [e] at h
    exact r.get h
theorem ev_ixW {j : Nat} {ws : List W} {n : Int} (ha : Ev K ta ρ μ (.loc j) μ1) (hb : Ev K tb ρ μ1 (.val (.int n)) μ2) (hm : μ2[j]? = some (.lsW ws)) (h : atI ws n = some w) : Ev K (tOp (rIx K) ta tb) ρ μ w μ2 := fun P as σ G H R Q q =>
  ha P as σ G H R _ fun v as1 G1 H1 n1 R1 ⟨a, ha', ev⟩ => hb P as1 σ G1 H1 R1 _ fun y as2 G2 H2 n2 R2 r2 => by
    obtain ⟨_, _, vs, h1, h2⟩ := R2.mu j a _ (at_pre n2.pre ha') hm
    obtain ⟨u, h3, h4⟩ := atI_repW h2 h
    exact .inl ⟨a, vs, n, u, ev, r2, SqL.of h1, h3, q _ as2 G2 H2 (n1.trans n2) R2 h4⟩
theorem RepWs.set {G : Hp} {as : List Addr} {w : W} {v : V} (rv : RepW K G as w v) : ∀ {ws : List W} {vs : List V} (k : Nat), RepWs K G as ws vs → RepWs K G as (ws.set k w) (vs.set k v)
  | [], _, _, h => by rw [show _ = [] from h]; exact rfl
  | _ :: _, _, 0, ⟨u, r, e, _, h2⟩ => by subst e; exact ⟨v, r, rfl, rv, h2⟩
  | _ :: _, _, k + 1, ⟨u, r, e, h1, h2⟩ => by subst e; exact ⟨u, _, rfl, h1, RepWs.set rv k h2⟩
theorem ex_setW {j k : Nat} {ws : List W} {n : Int} (hv : Ev K te ρ μ w μ1) (ho : Ev K ta ρ μ1 (.loc j) μ2) (hi : Ev K tb ρ μ2 (.val (.int n)) μ3) (hm : μ3[j]? = some (.lsW ws)) (hk : ixN ws.length n = some k) (hw : w.below μ3.length = true) : Ex K (tAsg te (gSub ta tb rSetL)) ρ μ (.nx ρ (μ3.set j (.lsW (ws.set k w)))) := fun P as σ G H R E q =>
  hv P as σ G H R _ fun v as1 G1 H1 n1 R1 r1 => ho P as1 σ G1 H1 R1 _ fun o as2 G2 H2 n2 R2 ⟨a, ha', ev⟩ => hi P as2 σ G2 H2 R2 _ fun x as3 G3 H3 n3 R3 r3 => by
    have ha3 := at_pre n3.pre ha'
    obtain ⟨g, z, vs, hh, rl⟩ := R3.mu j a _ ha3 hm
    refine ⟨a, vs, n, k, ev, r3, hh, by rw [rl.length]; exact hk, ?_⟩
    have rv := r1.mono (n2.trans n3).gr (n2.trans n3).pre
    have hb : ∀ x ∈ ws.set k w, x.below μ3.length = true := fun x hx => by
      rcases List.mem_or_eq_of_mem_set hx with h | h
      · exact List.all_eq_true.mp (R3.wf _ (List.mem_of_getElem? hm)) x h
      · rw [h]; exact hw
    obtain ⟨R4, n4⟩ := R3.put (o := .lst (vs.set k v)) (m' := .lsW (ws.set k w)) ha3 hm g ⟨g, by rw [List.length_set]; exact z, _, upd_same, rl.set rv k⟩ (List.all_eq_true.mpr hb)
    exact q as3 σ G3 _ (((n1.trans n2).trans n3).trans n4) R4
theorem pyOkL_ints : ∀ {ns : List Int}, pyOkL (ns.map D.int) = true
  | [] => rfl
  | _ :: ns => pyOkL_ints (ns := ns)
theorem depth_ints : ∀ {ns : List Int}, (toPy (.lst (ns.map D.int))).depth ≤ 64 := by
  intro ns
  have : ∀ ns : List Int, PyData.depthAll (toPyL (ns.map D.int)) ≤ 2 := by
    intro ns
    induction ns with
    | nil => decide
    | cons n ns ih =>
      show max (PyData.depth (.int n)) (PyData.depthAll (toPyL (ns.map D.int))) ≤ 2
      exact Nat.max_le.mpr ⟨by simp [PyData.depth], ih⟩
  have h := this ns
  show PyData.depthAll (toPyL (ns.map D.int)) + 1 ≤ 64
  omega
def rAug : TIp := ipI fun i j => i + j
theorem ex_aug {m n : Int} (hi : ρ[i]? = some (some (.val (.int m)))) (h : Ev K te ρ μ (.val (.int n)) μ1) : Ex K (tAug i te rAug) ρ μ (.nx (ρ.set i (some (.val (.int (m + n))))) μ1) := fun P as σ G H R E q => by
  obtain ⟨v, h1, h2⟩ := R.env i _ hi
  exact ⟨v, h1, h P as σ G H R _ fun y as1 G1 H1 n1 R1 r1 => ⟨m, n, h2, r1, q as1 _ G1 H1 n1 (R1.set (w := .val (.int (m + n))) rfl)⟩⟩
end
section
variable {X : Cx}
theorem pe_lstM {l : List Expr} {t : TA} {pos : Pos} (h : PA X l t) : PE X (.List l pos) (tLstM t) := pe_lst h
end
end DK
namespace DK
open PySem PySem.Spec PyProof.Rows L2
section
variable {K : PySem.W.Frag} [HasW K] {ρ ρ1 ρ2 : Env'} {μ μ1 μ2 μ3 : Mu} {ta tb te tc : TE} {w : W} {a b d : D} {i : Nat} {ts us vs : TS} {t : TT} {o : Out}
theorem ev_cls {c : Str} : Ev K (tC (.ref (He.ga K c))) ρ μ (.val (.cls c)) μ := fun P as σ G H R Q q => q _ as G H .refl R rfl
theorem pyOkL_strs : ∀ {ns : List Str}, pyOkL (ns.map D.str) = true
  | [] => rfl
  | _ :: ns => pyOkL_strs (ns := ns)
theorem depthAll_strs : ∀ (ns : List Str), PyData.depthAll (toPyL (ns.map D.str)) ≤ 2
  | [] => by decide
  | n :: ns => by
    show max (PyData.depth (.str n)) (PyData.depthAll (toPyL (ns.map D.str))) ≤ 2
    exact Nat.max_le.mpr ⟨by simp [PyData.depth], depthAll_strs ns⟩
theorem depth_strs {ns : List Str} : (toPy (.lst (ns.map D.str))).depth ≤ 64 := by
  have h := depthAll_strs ns
  show PyData.depthAll (toPyL (ns.map D.str)) + 1 ≤ 64
  omega
theorem at_map {α : Type} {f : α → D} {l : List α} {n : Int} {x : α} (h : atI l n = some x) : atI (l.map f) n = some (f x) := by
  unfold atI at h ⊢
  rw [List.length_map]
  cases e : ixN l.length n with
  | none => rw [e] at h; cases h
  | some j => rw [e] at h; simp only [Option.bind] at h ⊢; rw [List.getElem?_map, h]; rfl
theorem spl_ne (S : List Nat) : ∀ (k : Nat) (acc l : List Nat), TL.spl S k acc l ≠ []
  | k, acc, [] => by rw [TL.spl_nil]; simp
  | 0, acc, c :: r => by
    cases e : TL.pre S (c :: r) with
    | true => rw [TL.spl_hit e]; simp
    | false => rw [TL.spl_miss e]; exact spl_ne S 0 _ r
  | k + 1, acc, c :: r => spl_ne S k acc r
def wds (s : Str) : List Str := Txt.split s " "
theorem sp_ne : TL.tl (" " : Str) ≠ [] := by decide +kernel
theorem sp_k : (" " : Str).cps.all (· < 256) = true := by decide +kernel
theorem wds_ne (s : Str) : wds s ≠ [] := fun e => by
  have h := TL.split_spl s " " sp_ne (TL.kind_ok sp_k)
  rw [show Txt.split s " " = [] from e] at h
  exact spl_ne _ _ _ _ h.symm
def fst (l : List Str) : Str := l.headD ""
def lst (l : List Str) : Str := l.getLastD ""
theorem atI_nat {α : Type} {l : List α} {k : Nat} {x : α} (h : l[k]? = some x) : atI l (k : Int) = some x := by
  have hl := (List.getElem?_eq_some_iff.mp h).1
  unfold atI
  have e : ixN l.length (k : Int) = some k := by
    unfold ixN
    rw [if_pos (by omega), if_pos (by omega)]
    rfl
  rw [e]
  exact h
theorem at_lst {l : List Str} (h : l ≠ []) : atI l (-1) = some (lst l) := by
  unfold atI
  have hl : 0 < l.length := List.length_pos_iff.mpr h
  have e : ixN l.length (-1) = some (l.length - 1) := by
    unfold ixN
    simp
    omega
  rw [e]
  show l[l.length - 1]? = some (lst l)
  unfold lst
  rw [List.getLastD_eq_getLast?, List.getLast?_eq_getElem?]
  rw [List.getElem?_eq_getElem (by omega)]
  rfl
end
section
variable {K : PySem.W.Frag} [HasW K] {ρ : Env'} {μ : Mu}
end
section
variable {K : PySem.W.Frag} [HasW K] {ρ : Env'} {μ μ0 : Mu} {ta tb te tc : TE} {w : W} {us : TS} {o : Out}
end
section
variable {X : Cx}
theorem pg_n (i : Nat) {x : Str} {pos : Pos} (hN : X.N.Nodup) (hi : X.N[i]? = some x := by rfl) (hx : Loc X.env.scope x := by first | exact .inl rfl | exact .inr rfl) (hf : X.fn x = true ∨ X.env.scope.names.lookup x = some .local := by first | exact .inl rfl | exact .inr rfl) : PG X (.Name x pos) (gName i) := pg_name hN hi hx hf
theorem ps_a (i : Nat) {x : Str} {e : Expr} {te : TE} {pos pos' : Pos} (hN : X.N.Nodup) (he : PE X e te) (hi : X.N[i]? = some x := by rfl) (hx : Loc X.env.scope x := by first | exact .inl rfl | exact .inr rfl) (hs : swapsWith e (some (.Name x pos')) pos.line X.env = pure false := by rfl) (hf : X.fn x = true ∨ X.env.scope.names.lookup x = some .local := by first | exact .inl rfl | exact .inr rfl) :
    PS X (.Assign [.Name x pos'] e pos) (tAsg te (gName i)) := ps_set hN hi hx he hs hf
theorem ps_au (i : Nat) {x : Str} {e : Expr} {te : TE} {pos pos' : Pos} (hN : X.N.Nodup) (he : PE X e te) (hi : X.N[i]? = some x := by rfl) (hx : Loc X.env.scope x := by first | exact .inl rfl | exact .inr rfl) (hf : X.fn x = true ∨ X.env.scope.names.lookup x = some .local := by first | exact .inl rfl | exact .inr rfl) :
    PS X (.AugAssign (.Name x pos') .Add e pos) (tAug i te rAug) := ps_aug hN hi hx he ip_add hf
end
section
variable {K : PySem.W.Frag} [HasW K]
end
end DK
namespace DK
open PySem PySem.Spec PyProof.Rows L2
def wordsC : List Str := ["same", "next", "near", "far", "last", "elder", "house"]
def barredC : List Str := ["and", "do", "if", "mark", "not", "open", "shut", "then"]
def lettersC : Str := "abcdefghijklmnopqrstuvwxyz"
def learningC : List Str := ["next", "near", "far", "house"]
def isNameM (s : Str) : Bool := (decide (1 ≤ (s.length : Int)) && decide ((s.length : Int) ≤ 4)) && ((s.cps.toList.all fun c => decide (c ∈ lettersC.cps.toList)) && !decide (s ∈ barredC))
def tailNot (l : List Str) : List Str := if fst l = "not" then l.drop 1 else l
def isTestM (s : Str) : Bool := let l := tailNot (wds s); decide (l.length = 2) && (decide (fst l = "marked") && isNameM (l.getD 1 ""))
def isDeedM (s : Str) : Bool := let l := wds s; decide (l = (["learn"] : List Str)) || (decide (l.length = 2) && (decide (fst l ∈ (["mark", "clear"] : List Str)) && isNameM (l.getD 1 "")))
def seqD : D → Option (List D)
  | .tup xs => some xs
  | .lst xs => some xs
  | _ => none
class KWords (K : PySem.W.Frag) : Prop where
  words : ∀ H, SqT K H (He.ga K "WORDS") (wordsC.map V.str)
  barred : ∀ H, SqT K H (He.ga K "BARRED") (barredC.map V.str)
  learning : ∀ H, SqT K H (He.ga K "LEARNING") (learningC.map V.str)
section
variable {K : PySem.W.Frag} [HasW K] {ρ : Env'} {μ μ1 : Mu} {te : TE} {t : TA} {d : D}
variable [KWords K]
def t_is_integer (K : PySem.W.Frag) [HasW K] : TS :=
  (tRet (tAndV (tCB (rIsi K) (tCons (tVar 0) (tCons (tC (.ty "int")) tNil))) (tNotV (tCB (rIsi K) (tCons (tVar 0) (tCons (tC (.ty "bool")) tNil))))))
def isIntM (d : D) : Bool := isT "int" d && !isT "bool" d
def r_is_integer : List D → D → Prop := fun ds d => ∃ x, ds = [x] ∧ isData x = true ∧ d = .bl (isIntM x)
abbrev sp_is_integer (K : PySem.W.Frag) [HasW K] : Sp := spR K r_is_integer
def t_is_sequence (K : PySem.W.Frag) [HasW K] : TS :=
  (tRet (tIsSeq K (tVar 0)))
def r_is_sequence : List D → D → Prop := fun ds d => ∃ x, ds = [x] ∧ isData x = true ∧ d = .bl (isSeqD x)
abbrev sp_is_sequence (K : PySem.W.Frag) [HasW K] : Sp := spR K r_is_sequence
end
class KRow (K : PySem.W.Frag) : Prop where
  ok : ClsOk K (He.ga K "Row")
  noat : ∀ f : Str, f ∈ (["word", "tests", "deeds", "opens"] : List Str) → NoAttr K (He.ga K "Row") f
  isRow : PySem.W.kitOne K (.ref (He.ga K "Row")) (.ref (He.ga K "Row")) = some true
structure RowM where
  word : Str
  tests : List Str
  deeds : List Str
  opens : Bool
def rowNs : List Str := ["word", "tests", "deeds", "opens"]
def RowM.d (r : RowM) : D := .obj "Row" rowNs [.str r.word, .tup (r.tests.map D.str), .tup (r.deeds.map D.str), .bl r.opens]
def RowM.ok (r : RowM) : Bool := decide (r.word ∈ wordsC) && (r.tests.all isTestM && (r.deeds.all isDeedM && ((decide (r.deeds.length = 0) || (decide (r.word ∈ learningC) && decide (("learn" : Str) ∈ r.deeds))) && (r.opens || !decide (r.word = "house")))))
section
variable {K : PySem.W.Frag} [HasW K] {ρ : Env'} {μ μ1 : Mu} {te : TE} {t : TA} {d : D} [KWords K] [KRow K]
structure RowArgs (word tests deeds opens : D) (r : RowM) : Prop where
  w : word = .str r.word
  t : seqD tests = some (r.tests.map D.str)
  d : seqD deeds = some (r.deeds.map D.str)
  o : opens = .bl r.opens
  ok : r.ok = true
  zt : r.tests.length ≤ LB
  zd : r.deeds.length ≤ LB
def fits1 (marks : List Str) (test : Str) : Bool := decide (decide (lst (wds test) ∈ marks) = decide (fst (wds test) = "not"))
def fitsM (tests marks : List Str) : Bool := !tests.any (fits1 marks)
def addK (ks : List Str) (s : Str) : List Str := if s ∈ ks then ks else ks ++ [s]
def delK (ks : List Str) (s : Str) : List Str := ks.filter fun k => !decide (k = s)
def deedM (ks : List Str) (deed : Str) : List Str := if fst (wds deed) = "mark" then addK ks ((wds deed).getD 1 "") else if fst (wds deed) = "clear" then delK ks ((wds deed).getD 1 "") else ks
def behindM (deeds marks : List Str) : List Str := srt (deeds.foldl deedM (marks.foldl addK []))
theorem addK_len {ks : List Str} {s : Str} : (addK ks s).length ≤ ks.length + 1 := by
  unfold addK
  split
  · omega
  · simp
theorem delK_len {ks : List Str} {s : Str} : (delK ks s).length ≤ ks.length := List.length_filter_le _ _
theorem deedM_len {ks : List Str} {s : Str} : (deedM ks s).length ≤ ks.length + 1 := by
  unfold deedM
  split
  · exact addK_len
  · split
    · exact Nat.le_succ_of_le delK_len
    · omega
theorem addK_mem {ks : List Str} {s x : Str} (h : x ∈ addK ks s) : x ∈ ks ∨ x = s := by
  unfold addK at h
  split at h
  · exact .inl h
  · simpa using h
end
end DK
namespace DK
open PySem PySem.Spec PyProof.Rows L2
class KTool (K : PySem.W.Frag) : Prop where
  ok : ClsOk K (He.ga K "Tool")
  noat : ∀ f : Str, f ∈ (["window", "rows", "marks"] : List Str) → NoAttr K (He.ga K "Tool") f
  isTool : PySem.W.kitOne K (.ref (He.ga K "Tool")) (.ref (He.ga K "Tool")) = some true
section
variable {K : PySem.W.Frag} [HasW K] {ρ : Env'} {μ μ1 μ2 : Mu} {te ta : TE} {t : TA} [KWords K] [KRow K]
def hasSp (s : Str) : Bool := decide (32 ∈ s.cps.toList)
def textsM (rs : List RowM) : List Str := rs.flatMap fun r => (r.tests ++ r.deeds).filter hasSp
def namesM (rs : List RowM) : List Str := srtU ((textsM rs).map fun t => lst (wds t))
structure ToolM where
  window : Int
  rows : List RowM
def toolNs : List Str := ["window", "rows", "marks"]
def ToolM.fs (T : ToolM) : List D := [.int T.window, .tup (T.rows.map RowM.d), .tup ((namesM T.rows).map D.str)]
def ToolM.d (T : ToolM) : D := .obj "Tool" toolNs T.fs
structure ToolM.Ok (T : ToolM) : Prop where
  win : 1 ≤ T.window
  txt : (textsM T.rows).length < 64
  len : T.rows.length ≤ LB
  row : ∀ r ∈ T.rows, r.tests.length + r.deeds.length < 64
  ok : ∀ r ∈ T.rows, r.ok = true
variable [KTool K]
def wordM (window ahead : Int) : Str := if ahead < 0 then (if ahead = -1 then "last" else "elder") else if ahead < 2 then (if ahead = 0 then "same" else "next") else if ahead ≤ window then "near" else "far"
def enumR : Nat → List RowM → List (Nat × RowM)
  | _, [] => []
  | n, x :: xs => (n, x) :: enumR (n + 1) xs
theorem enumR_at : ∀ {n : Nat} {rs : List RowM} {p : Nat × RowM}, p ∈ enumR n rs → n ≤ p.1 ∧ rs[p.1 - n]? = some p.2
  | _, [], _, h => by cases h
  | n, x :: xs, p, h => by
    rcases List.mem_cons.mp h with e | h
    · subst e
      simp
    · obtain ⟨h1, h2⟩ := enumR_at h
      refine ⟨by omega, ?_⟩
      rw [show p.1 - n = (p.1 - (n + 1)) + 1 by omega]
      simpa using h2
def fitP (word : Str) (marks : List Str) (p : Nat × RowM) : Bool := decide (p.2.word = word) && fitsM p.2.tests marks
def rowForM (rs : List RowM) (word : Str) (marks : List Str) : Option (Nat × RowM) := (enumR 0 rs).find? (fitP word marks)
def atD : Option (Nat × RowM) → D
  | some p => .int (p.1 : Nat)
  | none => .non
def answerM (T : ToolM) (number : Int) (marks : List Str) (card : Int) : D := match rowForM T.rows (wordM T.window (card - number)) (srt marks) with
  | none => .tup [.bl false, .int number, .tup ((srt marks).map D.str), .non]
  | some p => .tup [.bl p.2.opens, .int (if ("learn" : Str) ∈ p.2.deeds then card else number), .tup ((behindM p.2.deeds (srt marks)).map D.str), .int (p.1 : Nat)]
end
end DK
namespace DK
open PySem PySem.Spec PyProof.Rows L2
abbrev Dl := List Int × Int
def absI (n : Int) : Int := if n < 0 then -n else n
def cutI {α : Type} (xs : List α) (lo hi : Option Int) : List α := (xs.drop (HT.sIx xs.length 0 lo)).take (HT.sIx xs.length xs.length hi - HT.sIx xs.length 0 lo)
theorem cutD_map {α : Type} {f : α → D} {xs : List α} {lo hi : Option Int} : cutD (xs.map f) lo hi = (cutI xs lo hi).map f := by
  unfold cutD cutI
  rw [List.length_map, ← List.map_drop, ← List.map_take]
theorem cutI_len {α : Type} {xs : List α} {lo hi : Option Int} : (cutI xs lo hi).length ≤ xs.length := by
  unfold cutI
  rw [List.length_take, List.length_drop]
  omega
section
variable {K : PySem.W.Frag} [HasW K] {ρ : Env'} {μ μ1 μ2 : Mu} {te ta : TE} {t : TA}
def t_law_deal (K : PySem.W.Frag) [HasW K] (a b p q : Int) : TS :=
  (tSeq (tAsg (tLc (iSeq K (tSl (rSlc K) (tVar 0) (tPart (tVar 1)) (tPart (tC (.int 60))))) (gName 2) tYes (tCB (rAbs) (tCons (tVar 2) tNil)) [2]) (gName 3))
      (tSeq (tAsg (tOp (rPlus K) (tC (.int a)) (tOp (rTimes K) (tC (.int b)) (tVar 1))) (gName 4))
      (tSeq (tFor (iSeq K (tVar 3)) (gName 2) (tAsg (tOp (rMd) (tCB (rInt1) (tCons (tOp (rPlus K) (tOp (rTimes K) (tVar 4) (tC (.int 16807))) (tOp (rMd) (tCB (rInt1) (tCons (tVar 2) tNil)) (tC (.int p)))) tNil)) (tC (.int q))) (gName 4)))
      (tRet (tLst (tCons (tRevL K (tLc (iSeq K (tVar 3)) (gName 2) (tTest (tOp (rGe') (tVar 2) (tOp (rPw) (tC (.int 10)) (tC (.int 18))))) (tVar 2) [2])) (tCons (tVar 4) tNil)))))))
def dealMO (k : Nat) (d : Dl) : MO := .lsW [.loc k, .val (.int d.2)]
def bigMO (d : Dl) : MO := .lst (d.1.map D.int)
def dropZ (l : List Int) : List Int := (l.reverse.dropWhile (· == 0)).reverse
theorem dropZ_zero {l : List Int} : dropZ (l ++ [0]) = dropZ l := by
  unfold dropZ
  rw [List.reverse_append]
  rfl
theorem dropZ_nz {l : List Int} {x : Int} (h : x ≠ 0) : dropZ (l ++ [x]) = l ++ [x] := by
  unfold dropZ
  rw [List.reverse_append]
  show ((x :: l.reverse).dropWhile (· == 0)).reverse = _
  rw [List.dropWhile_cons_of_neg (by simpa using h)]
  simp
def drawM (many : Int) (d : Dl) : Int × Dl := match (dropZ d.1).getLast? with
  | some rest => (rest % many, ((dropZ d.1).dropLast ++ [rest / many], d.2))
  | none => (((d.2 * 48271 + 11) % 2147483647 / 8) % many, ([], (d.2 * 48271 + 11) % 2147483647))
theorem drawM_lo {many : Int} {d : Dl} (h : 0 < many) : 0 ≤ (drawM many d).1 := by
  unfold drawM
  split
  · exact Int.emod_nonneg _ (by omega)
  · exact Int.emod_nonneg _ (by omega)
theorem drawM_hi {many : Int} {d : Dl} (h : 0 < many) : (drawM many d).1 < many := by
  unfold drawM
  split
  · exact Int.emod_lt_of_pos _ h
  · exact Int.emod_lt_of_pos _ h
theorem dropZ_len {l : List Int} : (dropZ l).length ≤ l.length := by
  unfold dropZ
  rw [List.length_reverse]
  exact Nat.le_trans (List.dropWhile_sublist _).length_le (by simp)
theorem drawM_len {many : Int} {d : Dl} : (drawM many d).2.1.length ≤ d.1.length := by
  have h := dropZ_len (l := d.1)
  unfold drawM
  split
  · rename_i rest e
    have : dropZ d.1 ≠ [] := fun z => by rw [z] at e; cases e
    have := List.length_pos_iff.mpr this
    simp
    omega
  · simp
structure DealAt (μ : Mu) (j k : Nat) (d : Dl) : Prop where
  at_ : μ[j]? = some (dealMO k d)
  b : μ[k]? = some (bigMO d)
  ne : j ≠ k
  len : d.1.length ≤ LB
def putDl (μ : Mu) (j k : Nat) (d : Dl) : Mu := (μ.set k (bigMO d)).set j (dealMO k d)
theorem DealAt.put {j k : Nat} {d : Dl} (h : DealAt μ j k d) (d' : Dl) (hz : d'.1.length ≤ LB) : DealAt (putDl μ j k d') j k d' := by
  have hj := (List.getElem?_eq_some_iff.mp h.at_).1
  have hk := (List.getElem?_eq_some_iff.mp h.b).1
  unfold putDl
  refine ⟨by rw [List.getElem?_set_self (by rw [List.length_set]; exact hj)], ?_, h.ne, hz⟩
  rw [List.getElem?_set_ne h.ne, List.getElem?_set_self hk]
def t_law_draw (K : PySem.W.Frag) [HasW K] : TS :=
  (tSeq (tWhile (tAnd (tTest (tOp (rNee K) (tOp (rIx K) (tVar 0) (tC (.int 0))) (tLst tNil))) (tTest (tOp (rEqq K) (tOp (rIx K) (tOp (rIx K) (tVar 0) (tC (.int 0))) (tUn (rU fun i => .int (-i)) (tC (.int 1)))) (tC (.int 0))))) (tDrop (tBM0 K "list" rPop (tOp (rIx K) (tVar 0) (tC (.int 0))))))
      (tSeq (tIfS (tTest (tOp (rNee K) (tOp (rIx K) (tVar 0) (tC (.int 0))) (tLst tNil))) (tSeq (tAsg (tBM0 K "list" rPop (tOp (rIx K) (tVar 0) (tC (.int 0)))) (gName 2))
      (tSeq (tDrop (tBM K "list" rAppend (tOp (rIx K) (tVar 0) (tC (.int 0))) (tCons (tOp (rFd) (tVar 2) (tVar 1)) tNil)))
      (tRet (tOp (rMd) (tCB (rInt1) (tCons (tVar 2) tNil)) (tVar 1))))) tNext)
      (tSeq (tAsg (tOp (rMd) (tCB (rInt1) (tCons (tOp (rPlus K) (tOp (rTimes K) (tOp (rIx K) (tVar 0) (tC (.int 1))) (tC (.int 48271))) (tC (.int 11))) tNil)) (tC (.int 2147483647))) (gSub (tVar 0) (tC (.int 1)) rSetL))
      (tRet (tOp (rMd) (tCB (rInt1) (tCons (tOp (rFd) (tOp (rIx K) (tVar 0) (tC (.int 1))) (tC (.int 8))) tNil)) (tVar 1))))))
def Phi_draw : Phi := fun ws μ w μ' => ∃ (j k : Nat) (many : Int) (d : Dl), ws = [.loc j, .val (.int many)] ∧ DealAt μ j k d ∧ 0 < many ∧ many < 1073741824 ∧ w = .val (.int (drawM many d).1) ∧ μ' = putDl μ j k (drawM many d).2
abbrev sp_law_draw (K : PySem.W.Frag) [HasW K] : Sp := spD K Phi_draw
theorem at_last {α : Type} {l : List α} {x : α} : atI (l ++ [x]) (-1) = some x := by
  unfold atI
  have e : ixN (l ++ [x]).length (-1) = some l.length := by
    unfold ixN
    simp
    omega
  rw [e]
  simp
theorem DealAt.app {j k : Nat} {d : Dl} (h : DealAt μ j k d) (t : Mu) : DealAt (μ ++ t) j k d := ⟨by rw [List.getElem?_append_left (List.getElem?_eq_some_iff.mp h.at_).1]; exact h.at_, by rw [List.getElem?_append_left (List.getElem?_eq_some_iff.mp h.b).1]; exact h.b, h.ne, h.len⟩
theorem SeqW.app {w : W} {xs : List D} (h : SeqW μ w xs) (t : Mu) : SeqW (μ ++ t) w xs := by
  cases h with
  | lst => exact .lst
  | tup => exact .tup
  | loc h => exact .loc (by rw [List.getElem?_append_left (List.getElem?_eq_some_iff.mp h).1]; exact h)
  | frz h => exact .frz (by rw [List.getElem?_append_left (List.getElem?_eq_some_iff.mp h).1]; exact h)
theorem DealAt.start {a b : Dl} (h : a = b) (hz : b.1.length ≤ LB) : DealAt [bigMO a, dealMO 0 b] 1 0 b := by
  subst h
  exact ⟨rfl, rfl, by decide, hz⟩
def Phi_law : Phi := fun ws μ w μ' => ∃ ns : List Int, ws = [.val (.scr ns)] ∧ ns.length ≤ LB ∧ μ = [] ∧ w = .val (.bl true) ∧ μ' = []
abbrev sp_law (K : PySem.W.Frag) [HasW K] : Sp := spD K Phi_law
end
end DK
namespace DK
open PySem PySem.Spec PyProof.Rows L2 He
def stmtsOf (c : Stmt) : List Stmt := match c with
  | .ClassDef _ _ _ b _ _ _ _ _ _ _ => b
  | _ => []
def clsB (K : PySem.W.Frag) (x : Str) : Bool := (Fa.cls x).ok K && (eqO (PySem.W.findIn K (.ref (ga K x)) "__class__") (some (some (.builtin "object.__class__"))) && (eqO (PySem.W.specialIn K (.builtin "object.__class__") "__get__") (some (some (.builtin "getset_descriptor.__get__"))) &&
  (decide (PySem.W.takesIn K (.builtin "object.__class__") = some true) && (decide (PySem.W.mroIn K (ga K x) (.type "object") = some true) && ["int", "bool", "str", "list", "tuple"].all fun T => decide (PySem.W.kitOne K (.ref (ga K x)) (.type T) = some false)))))
theorem clsB_ok {K : PySem.W.Frag} {x : Str} (h : clsB K x = true) : ClsOk K (ga K x) := by
  obtain ⟨h1, h⟩ := ba h
  obtain ⟨h2, h⟩ := ba h
  obtain ⟨h3, h⟩ := ba h
  obtain ⟨h4, h⟩ := ba h
  obtain ⟨h5, h6⟩ := ba h
  exact ⟨cls_ok h1, eqO_ok h2, eqO_ok h3, of_decide_eq_true h4, of_decide_eq_true h5, fun T hT => of_decide_eq_true (List.all_eq_true.mp h6 T hT)⟩
def noB (K : PySem.W.Frag) (x : Str) (fs : List Str) : Bool := fs.all fun f => eqO (PySem.W.findIn K (.ref (ga K x)) f) (some none)
theorem noB_ok {K : PySem.W.Frag} {x : Str} {fs : List Str} (h : noB K x fs = true) : ∀ f ∈ fs, NoAttr K (ga K x) f := fun f hf => eqO_ok (List.all_eq_true.mp h f hf)
end DK
namespace DK
open PySem PySem.Spec PyProof.Rows L2
structure FnG (P : Program) (w : World) (K : PySem.W.Frag) (mg : Str → Option Value) (base : Heap) (CX : CXT) (k : Nat) (f : Addr) (fd : FuncData) (ps : List Str) (sp : Sp) : Prop where
  len : ∀ vs H Q E, sp vs H Q E → vs.length = ps.length
  go : ∀ (A : Around) (outer : List Env) (s : Shared) (H : Hp) (args : Args) (us : List Value) (vs : List V) (Q : VK) (E : XK), A.guards = some [] → Room k A → Env0 P w K mg base A outer s H → BindsTo s fd args (ps.zip us) → Vals vs us → sp vs H Q E →
    codeAny (model P w) A (.call (.ref f) args) (CR CX outer P w H s Q E) s
section
variable {CX : CXT} {P : Program} {w : World} {K : PySem.W.Frag} [HasW K] {mg mb : Str → Option Value} {base : Heap} {k : Nat} {f : Addr} {fd : FuncData} {x qual : Str} {params : Arguments} {body : List Stmt} {scope : Scope} {dvs : List V} {kws : List (Str × V)} {N ps : List Str} {sp : Sp}
theorem funG (F : FunD K x qual params body scope dvs kws f fd) (S : FnScope N ps scope) (len : ∀ vs H Q E, sp vs H Q E → vs.length = ps.length)
    (hb : ∀ (cdv : Value) (A : Around) (outer : List Env) (s : Shared) (H : Hp) (vs : List V) (Q : VK) (E : XK), A.guards = some [] → Room k (A.deeper (envOfC qual scope s.heap.objs.size f cdv)) → sp vs H Q E →
      ∃ t, PSs (cxOf CX P w K mg base N qual scope f cdv A outer s H E) body t ∧ t { nx := fun _ H' => Q .non H', rt := Q } (start N vs) H) : FnG P w K mg base CX (k + 1) f fd ps sp := by
  obtain ⟨oc, od, dV, kV, doc, pm, an, cdv, ct, osl, rfl, at_, cd, -, -⟩ := F.ex
  refine ⟨len, ?_⟩
  intro A outer s H args us vs Q E gA room env bind vals want
  have old : ∀ b o, base.get? b = some o → s.heap.get? b = some o := fun b o e => (env.bs b o e).1
  have kin : K.In s.heap := env.mod.kin.keeps old
  have kinds : ∀ y ∈ ps.zip us, scope.names.lookup y.1 = some .local ∨ (scope.names.lookup y.1 = some .cell ∧ ((cellsFrom (s.heap.objs.size + 1) scope.names []).lookup y.1).isSome = true) := fun y hy =>
    (S.par y.1 (List.of_mem_zip (show (y.1, y.2) ∈ _ from hy)).1).elim .inl fun q => .inr ⟨q, PySem.W.cellsFrom_some _ _ _ (.inl q)⟩
  apply codeAny_call_function room.depth (kin _ _ at_) rfl S.co S.gen rfl (PySem.W.codeRec_of kin cd) (bind _ _ _ _ ?_)
  apply wpAny_newFunctionEnv_cells S.kind kinds
  rintro env1 rfl s1 fresh
  refine ⟨(env.mod.nolimit.keeps old).keeps fresh.toInCall.keep, codeAny_func ?_⟩
  obtain ⟨t, rd, post⟩ := hb cdv A outer s H vs Q E gA (room.deeper _) want
  have I0 : Inv (cxOf CX P w K mg base N qual scope f cdv A outer s H E) [] (start N vs) H s1 := inv_start S room.hd env (len _ _ _ _ want) vals fresh
  refine wpAny_mono (rd.run [] s1 (start N vs) H _ I0 post) (fun flow s' out => ?_) fun _ _ out => out
  match flow, out with
  | .ret _, ⟨v, _, H', J, rv, q⟩ => exact ⟨v, H', J.os, J.bare, J.base, J.hok, rv, q⟩
  | .next, ⟨_, H', J, q⟩ => exact ⟨.non, H', J.os, J.bare, J.base, J.hok, rfl, q⟩
  | .brk, ⟨_, _, _, q⟩ => exact q.elim
  | .cont, ⟨_, _, _, q⟩ => exact q.elim
theorem law_at {H : Hp} {a : Addr} {s₁ : Shared} {vs : List Value} {xn : Str} (inK : K.In s₁.heap) (gl : s₁.heap.Ns mainGlobals mg) (bt : s₁.heap.Ns builtinsNs mb) (boot : ∀ y : Str, y ≠ "__name__" → mb y = bootBuiltins y) (lim : s₁.heap.NoLimit) (gens : s₁.gens = #[])
    (scr : s₁.heap.get? a = some { cls := .type "list", data := .seq vs.toArray }) (room : Room k callerA) (F : ∀ base : Heap, K.In base → base.Ns mainGlobals mg → FnG P w K mg base CX k f fd [xn] sp) (bind : ∀ (s : Shared) (u : Value), BindsTo s fd ⟨[u], []⟩ [(xn, u)])
    (out : ∀ H e s', CX [] H s₁ (fun _ _ _ => False) e s' → False) (only : Only H) (lone : ∀ b, H b ≠ none → b = a) (notK : H a ≠ none → K.lookup a = none) (ok : HOk P w H s₁.heap) (want : sp [.ref a] H (fun v _ => v = .bl true) fun _ _ _ => False) :
    codeAny (model P w) callerA (.call (.ref f) ⟨[.ref a], []⟩) (fun r s' => r = .ok (.ret (.bool true)) ∧ OldK s₁.heap s'.heap ∧ s'.os = s₁.os ∧ AllBare s'.gens) s₁ := by
  -- a dict of the heap is not tracked
  have free : ∀ {b : Addr} {o : Obj} {es : Array DictEntry} {n : Nat}, s₁.heap.get? b = some o → o.data = .dict es n → H b = none := by
    intro b o es n e d
    by_cases q : H b = none
    · exact q
    · have z := lone b q
      rw [z, scr] at e
      injection e with e
      rw [← e] at d
      cases d
  have ns : ∀ {b : Addr} {m : Str → Option Value}, s₁.heap.Ns b m → (hidT s₁.heap H).Ns b m := fun ⟨o, es, n, e, d, r⟩ => ⟨o, es, n, hidT_get e (free e d), d, r⟩
  have inB : K.In (hidT s₁.heap H) := fun b o e => hidT_get (inK b o e) (by
    by_cases q : H b = none
    · exact q
    · have z := lone b q
      subst z
      rw [notK q] at e
      cases e)
  have M : Mod K mg (hidT s₁.heap H) := ⟨inB, ns gl, ⟨mb, ns bt, boot⟩, by obtain ⟨mc, h1, h2⟩ := lim; exact ⟨mc, ns h1, h2⟩⟩
  have E0 : Env0 P w K mg (hidT s₁.heap H) callerA [] s₁ H := ⟨rfl, M, fun _ _ e => of_hidT e, Nat.le_of_eq (hidT_size _ _), trivial, fun b hb => by simp [frs] at hb, ok, .of_eq gens⟩
  refine codeAny_mono ((F _ inB (ns gl)).go callerA [] s₁ H ⟨[.ref a], []⟩ [.ref a] [.ref a] _ _ rfl room E0 (bind s₁ (.ref a)) (.cons rfl .nil) want) ?_
  intro r s' end_
  match r, end_ with
  | .error e, z => exact (out H e s' z).elim
  | .ok .next, z => exact False.elim z
  | .ok .brk, z => exact False.elim z
  | .ok .cont, z => exact False.elim z
  | .ok (.ret u), ⟨v, H', os, bare, un, ok', rv, q⟩ =>
    have q' : v = .bl true := q
    subst q'
    have eu : u = Value.bool true := rv
    subst eu
    refine ⟨rfl, OldK.of_keep fun b o e => ?_, os, bare⟩
    rcases only b with z | ⟨ob, ys, z⟩
    · exact un.keep b o e z (by simp [frs]) (by simp)
    · obtain ⟨e1, _⟩ := ok b _ z
      obtain ⟨e2, _⟩ := ok' b _ (un.frzs b ob _ z)
      rw [← e1.symm.trans e |> Option.some.inj]
      exact e2
theorem law_G {a : Addr} {s₁ : Shared} {vs : List Value} {ns : List Int} {xn : Str} (inK : K.In s₁.heap) (gl : s₁.heap.Ns mainGlobals mg) (bt : s₁.heap.Ns builtinsNs mb) (boot : ∀ y : Str, y ≠ "__name__" → mb y = bootBuiltins y) (lim : s₁.heap.NoLimit) (gens : s₁.gens = #[])
    (scr : s₁.heap.get? a = some { cls := .type "list", data := .seq vs.toArray }) (isI : IntsAre vs ns) (short : ns.length ≤ sizeLine) (room : Room k callerA) (F : ∀ base : Heap, K.In base → base.Ns mainGlobals mg → FnG P w K mg base CX k f fd [xn] sp) (bind : ∀ (s : Shared) (u : Value), BindsTo s fd ⟨[u], []⟩ [(xn, u)])
    (want : ∀ H : Hp, Only H → SqL K H a (ns.map V.int) → sp [.ref a] H (fun v _ => v = .bl true) fun _ _ _ => False) (out : ∀ H e s', CX [] H s₁ (fun _ _ _ => False) e s' → False) :
    codeAny (model P w) callerA (.call (.ref f) ⟨[.ref a], []⟩) (fun r s' => r = .ok (.ret (.bool true)) ∧ OldK s₁.heap s'.heap ∧ s'.os = s₁.os ∧ AllBare s'.gens) s₁ := by
  have vals := vals_ints isI
  have sz := isI.length
  by_cases hk : K.lookup a = none
  · let so : HO := .frz { cls := .type "list", data := .seq vs.toArray } (.lst (ns.map V.int))
    let H : Hp := fun b => if b = a then some so else none
    have at_ : H a = some so := if_pos rfl
    have off : ∀ b, b ≠ a → H b = none := fun b z => if_neg z
    have only : Only H := fun b => (Classical.em (b = a)).elim (fun z => .inr ⟨_, _, z ▸ at_⟩) fun z => .inl (off b z)
    refine law_at (H := H) inK gl bt boot lim gens scr room F bind out only (fun b z => Classical.byContradiction fun q => z (off b q)) (fun _ => hk) ?_ (want H only (.inl (.inr ⟨_, at_⟩)))
    intro b u e
    by_cases z : b = a
    · subst z
      rw [at_] at e
      cases e
      exact ⟨scr, by rw [List.length_map]; exact short, vs, _, vals, scr⟩
    · rw [off b z] at e
      cases e
  · obtain ⟨o, lk⟩ := Option.ne_none_iff_exists'.mp hk
    have eo := (inK a o lk).symm.trans scr
    cases eo
    have only : Only (fun _ => none) := fun _ => .inl rfl
    exact law_at (H := fun _ => none) inK gl bt boot lim gens scr room F bind out only (fun _ z => absurd rfl z) (fun z => absurd rfl z) (fun b u e => by cases e) (want _ only (.inr ⟨_, vs.toArray, _, lk, rfl, rfl, rfl, by rw [List.size_toArray, sz]; exact short, by simpa using vals⟩))
theorem walk_G {l : PySem.W.OpenLaw} {n : Nat} {q : Program} {loose : List Str} {XP : (Str → Option Value) → Heap → Prop} {YP : World → Heap → Prop} {d : DefRec} {xn : Str}
    (most : l.most = some n) (small : n ≤ sizeLine) (nodef : d.params.defaults = []) (room : Room k callerA)
    (F : ∀ (w : World) (mg : Str → Option Value) (fa : Addr) (h : Heap), YP w h → h.Ns mainGlobals mg → mg d.name = some (.ref fa) → ∃ (K : PySem.W.Frag) (fd : FuncData) (sp : Sp), K.In h ∧ (∀ (s : Shared) (u : Value), BindsTo s fd ⟨[u], []⟩ [(xn, u)]) ∧
        (∀ (H : Hp) (a : Addr) (ns : List Int), ns.length ≤ n → SqL K H a (ns.map V.int) → sp [.ref a] H (fun v _ => v = .bl true) fun _ _ _ => False) ∧ ∀ base : Heap, K.In base → base.Ns mainGlobals mg → FnG l.prog w K mg base CX k fa fd [xn] sp)
    (out : ∀ (H : Hp) (s : Shared) (e : Value) (s' : Shared), CX [] H s (fun _ _ _ => False) e s' → False) : PySem.W.WalkO q loose XP YP l.row.toRowW d [] (fun f vs => PySem.call f vs) :=
  Att.attach_call most nodef fun w s₀ s₁ mg mb fa o pm cd doc a vs ns G Y ho hd hcd hmg scr isI hlen gens => by
    obtain ⟨K, fd, sp, inK, bind, want, FF⟩ := F w mg fa _ Y G.T.g hmg
    exact law_G inK G.T.g G.T.b G.T.builtins G.T.nolimit gens scr isI (Nat.le_trans hlen small) room FF bind (fun H _ hS => want H a ns hlen hS) fun H e s' => out H s₁ e s'
end
section
variable {X : Cx}
def rRepr (K : PySem.W.Frag) : List V → Hp → VK → Prop := fun xs H Q => ∃ (x : V) (d : PyData), xs = [x] ∧ Dp K H x d ∧ d.showable = true ∧ d.hasDict = false ∧ d.depth ≤ 60 ∧ d.shown.length ≤ SB ∧ Q (.str d.shown) H
theorem call_reprD (g : X.A.guards = some []) (u : X.A.units + 64 < cLine) : CallR X (.builtin "repr") (rRepr X.K) := by
  intro pins s σ H xs us Q I r h
  obtain ⟨x, d, rfl, hd, h1, h2, h3, h4, q⟩ := h
  obtain ⟨v, rfl, rv⟩ := vals1 r
  have hz : d.shown.length ≤ sizeLine := Nat.le_trans h4 (by decide)
  cases hd with
  | non => cases rv; exact PySem.P.repr_of_none ⟨.str _, H, I.tok _, ⟨_, rfl⟩, q⟩
  | bl b =>
    cases rv
    exact PySem.P.repr_of_bool ⟨.str _, H, I.tok _, ⟨_, rfl⟩, by cases b <;> exact q⟩
  | int i =>
    obtain ⟨t, rfl⟩ := rv
    exact PySem.P.repr_of_int (of_decide_eq_true h1) ⟨.str _, H, I.tok _, ⟨_, rfl⟩, q⟩
  | str z =>
    obtain ⟨t, rfl⟩ := rv
    exact PySem.P.repr_of_str ⟨.str _, H, I.tok _, ⟨_, rfl⟩, q⟩ hz
  | lst hs ha =>
    cases rv
    obtain ⟨as, rd⟩ := Dp.reads I _ _ _ (.lst hs ha) rfl
    exact repr_of_reads' rd h1 (fun e => by rw [h2] at e; cases e) g (by omega) (fun _ _ e => e) (fun h' t tk k => ⟨.str _, H, I.kept k, ⟨_, rfl⟩, q⟩) hz
  | tup hs ha =>
    cases rv
    obtain ⟨as, rd⟩ := Dp.reads I _ _ _ (.tup hs ha) rfl
    exact repr_of_reads' rd h1 (fun e => by rw [h2] at e; cases e) g (by omega) (fun _ _ e => e) (fun h' t tk k => ⟨.str _, H, I.kept k, ⟨_, rfl⟩, q⟩) hz
end
section
variable {K : PySem.W.Frag} [HasW K] {ρ : Env'} {μ μ1 μ2 : Mu}
mutual
theorem noDict : ∀ d : D, (toPy d).hasDict = false
  | .non => rfl
  | .bl _ => rfl
  | .int _ => rfl
  | .str _ => rfl
  | .tup xs => noDictL xs
  | .lst xs => noDictL xs
  | .obj _ _ _ => rfl
  | .ty _ => rfl
  | .cls _ => rfl
  | .scr _ => rfl
theorem noDictL : ∀ l : List D, PyData.hasDictAll (toPyL l) = false
  | [] => rfl
  | x :: xs => by
    show (PyData.hasDict (toPy x) || PyData.hasDictAll (toPyL xs)) = false
    rw [noDict x, noDictL xs]
    rfl
end
theorem textFrom_le : ∀ (ts : List Str) (k : Nat) (acc : Str), (textFrom k acc ts).length ≤ acc.length + piled ts
  | [], _, acc => Nat.le_refl _
  | t :: ts, k, acc => by
    have h := textFrom_le ts (k + 1) (acc ++ (if k > 0 then ", " else "" : String) ++ t)
    have e : (((if k > 0 then ", " else "" : String) : Str)).length ≤ 2 := by split <;> decide
    show (textFrom (k + 1) _ ts).length ≤ _
    rw [piled_cons]
    rw [len_append, len_append] at h
    omega
theorem listText_le (ts : List Str) : (listText ts).length ≤ piled ts + 2 := by
  have h := textFrom_le ts 0 "["
  have e1 : (("[" : String) : Str).length = 1 := rfl
  have e2 : (("]" : String) : Str).length = 1 := rfl
  unfold listText
  rw [len_append, e2]
  omega
theorem tupleText_le (ts : List Str) : (tupleText ts).length ≤ piled ts + 3 := by
  have e1 : (("(" : String) : Str).length = 1 := rfl
  have e2 : (((if ts.length == 1 then ",)" else ")" : String) : Str)).length ≤ 2 := by split <;> decide
  have e3 : (Str.join ", " ts).length ≤ piled ts := by
    by_cases h : ts = []
    · subst h; exact Nat.zero_le _
    · have := join_length_add ts h
      omega
  unfold tupleText
  rw [len_append, len_append, e1]
  omega
mutual
/-- a bound of the text that shows d -/
def showCost : D → Nat
  | .str s => 10 * s.length + 4
  | .int i => if Nat.blt i.natAbs 1000000 = true then 8 else 2000
  | .tup xs => showCostL xs + 3
  | .lst xs => showCostL xs + 3
  | _ => 5
def showCostL : List D → Nat
  | [] => 0
  | x :: xs => showCost x + 2 + showCostL xs
end
mutual
def strsIn : D → Bool
  | .str s => s.cps.all (· < 0x110000)
  | .tup xs => strsInL xs
  | .lst xs => strsInL xs
  | _ => true
def strsInL : List D → Bool
  | [] => true
  | x :: xs => strsIn x && strsInL xs
end
mutual
theorem shown_le : ∀ d : D, strsIn d = true → (toPy d).showable = true → (toPy d).shown.length ≤ showCost d
  | .non, _, _ => by show (4 : Nat) ≤ 5; decide
  | .bl b, _, _ => by cases b <;> (show (_ : Nat) ≤ 5; decide)
  | .int i, _, h => by
    have h1 := int_text_length_le (k := 1920) (by decide) (of_decide_eq_true h)
    show (Str.ofString (toString i)).length ≤ if Nat.blt i.natAbs 1000000 = true then 8 else 2000
    rw [PySem.ofString_length]
    split
    · rename_i q
      have h2 := int_text_length_le10 (a := i) (k := 6) (by decide) (by
        have : i.natAbs ≤ 999999 := by simpa [Nat.blt] using q
        omega)
      omega
    · omega
  | .str s, h, _ => by
    have := StrLaws.reprText_len s fun c hc => by
      have := Array.all_eq_true_iff_forall_mem.mp (show s.cps.all (· < 0x110000) = true from h) c (by simpa using hc)
      have : c < 0x110000 := by simpa using this
      omega
    show (reprText s).length ≤ 10 * s.length + 4
    omega
  | .tup xs, h, k => Nat.le_trans (tupleText_le _) (Nat.add_le_add_right (shown_leL xs h k) 3)
  | .lst xs, h, k => Nat.le_trans (listText_le _) (Nat.le_trans (Nat.add_le_add_right (shown_leL xs h k) 2) (Nat.le_succ _))
  | .obj _ _ _, _, _ => by show (4 : Nat) ≤ 5; decide
  | .ty _, _, _ => by show (4 : Nat) ≤ 5; decide
  | .cls _, _, _ => by show (4 : Nat) ≤ 5; decide
  | .scr _, _, _ => by show (4 : Nat) ≤ 5; decide
theorem shown_leL : ∀ l : List D, strsInL l = true → PyData.showableAll (toPyL l) = true → piled (PyData.shownAll (toPyL l)) ≤ showCostL l
  | [], _, _ => Nat.le_refl _
  | x :: xs, h, k => by
    obtain ⟨h1, h2⟩ := Bool.and_eq_true_iff.mp (show (strsIn x && strsInL xs) = true from h)
    obtain ⟨k1, k2⟩ := Bool.and_eq_true_iff.mp (show ((toPy x).showable && PyData.showableAll (toPyL xs)) = true from k)
    have a := shown_le x h1 k1
    have b := shown_leL xs h2 k2
    show piled ((toPy x).shown :: PyData.shownAll (toPyL xs)) ≤ showCost x + 2 + showCostL xs
    rw [piled_cons]
    omega
end
structure Shows (d : D) : Prop where
  py : pyOk d = true
  sh : (toPy d).showable = true
  dp : (toPy d).depth ≤ 60
  st : strsIn d = true
  sz : showCost d ≤ SB
end
end DK
namespace DX
open PySem PySem.Spec PyProof.Rows L2 DK
abbrev RE := Env' → Mu → Option (W × Mu)
abbrev RB := Env' → Mu → Option (Bool × Mu)
abbrev RA := Env' → Mu → Option (List W × Mu)
abbrev RS := Env' → Mu → Option Out
abbrev RO := Env' → Mu → Option (Option Int × Mu)
abbrev RG := W → Env' → Option Env'
abbrev RI := Env' → Mu → Option (List D × Option (Nat × List D) × Mu)
section
variable (K : PySem.W.Frag) [HasW K]
def SnE (te : TE) (m : RE) : Prop := ∀ ρ μ w μ', m ρ μ = some (w, μ') → Ev K te ρ μ w μ'
def SnB (tt : TT) (m : RB) : Prop := ∀ ρ μ b μ', m ρ μ = some (b, μ') → EvB K tt ρ μ b μ'
def SnA (ta : TA) (m : RA) : Prop := ∀ ρ μ ws μ', m ρ μ = some (ws, μ') → EvA K ta ρ μ ws μ'
def SnS (ts : TS) (m : RS) : Prop := ∀ ρ μ o, m ρ μ = some o → Ex K ts ρ μ o
def EvO' (to : TO) (ρ : Env') (μ : Mu) (o : Option Int) (μ' : Mu) : Prop := ∀ (P : Addr → Prop) (as : List Addr) (σ : L2.St) (G H : Hp), Rl K G H as P ρ μ σ → ∀ Q : Option Int → Hp → Prop,
  (∀ as' G' H', Nx P as G H as' G' H' → Rl K G' H' as' P ρ μ' σ → Q o H') → to σ H Q
def SnO (to : TO) (m : RO) : Prop := ∀ ρ μ o μ', m ρ μ = some (o, μ') → EvO' K to ρ μ o μ'
def SnG (g : TG) (m : RG) : Prop := ∀ w ρ ρ', m w ρ = some ρ' → EvG K g w ρ ρ'
end
section
variable {K : PySem.W.Frag} [HasW K]
def mVar (i : Nat) : RE := fun ρ μ => match ρ[i]? with
  | some (some w) => some (w, μ)
  | _ => none
theorem sn_var {i : Nat} : SnE K (tVar i) (mVar i) := fun ρ μ w μ' h => by
  unfold mVar at h
  split at h
  · cases h; exact ev_var ‹_›
  · cases h
def mC (d : D) : RE := fun _ μ => some (.val d, μ)
theorem sn_int {n : Int} : SnE K (tC (.int n)) (mC (.int n)) := fun ρ μ w μ' h => by cases h; exact ev_int
theorem sn_bl {n : Bool} : SnE K (tC (.bl n)) (mC (.bl n)) := fun ρ μ w μ' h => by cases h; exact ev_bl
theorem sn_non : SnE K (tC .non) (mC .non) := fun ρ μ w μ' h => by cases h; exact ev_non
theorem sn_str {s : Str} (hs : sOk s := by exact ⟨by decide +kernel, by decide +kernel⟩) : SnE K (tC (.str s)) (mC (.str s)) := fun ρ μ w μ' h => by cases h; exact ev_str hs
theorem sn_cls {c : Str} : SnE K (tC (.ref (He.ga K c))) (mC (.cls c)) := fun ρ μ w μ' h => by cases h; exact ev_cls
def view (μ : Mu) : W → Option D
  | .val d => some d
  | .loc j => match μ[j]? with
    | some (.lst xs) => some (.lst xs)
    | some (.frz xs) => some (.lst xs)
    | _ => none
section
variable (K) (G H : Hp)
def RepT : D → V → Prop
  | .lst xs, v => xs.length ≤ LB ∧ ∃ a vs, v = .ref a ∧ H a = some (.lst vs) ∧ RepL K G xs vs
  | d, v => Rep K G d v
end
theorem repT_of {G H : Hp} (s : Same G H) {d : D} {v : V} (r : Rep K G d v) : RepT K G H d v := by
  cases d <;> try exact r
  obtain ⟨z, a, vs, e, g, r⟩ := r
  exact ⟨z, a, vs, e, s _ _ g, r⟩
theorem view_rep {G H : Hp} {as : List Addr} {P : Addr → Prop} {ρ : Env'} {μ : Mu} {σ : L2.St} {w : W} {v : V} {d : D} (R : Rl K G H as P ρ μ σ) (r : RepW K G as w v) (h : view μ w = some d) : RepT K G H d v := by
  cases w with
  | val e => cases h; exact repT_of R.sub r
  | loc j =>
    obtain ⟨a, ha, ev⟩ := r
    unfold view at h
    dsimp only at h
    split at h
    · cases h
      obtain ⟨_, z, vs, e, q⟩ := R.mu j a _ ha ‹_›
      exact ⟨z, a, vs, ev, e, q⟩
    · cases h
      obtain ⟨z, vs, e, q⟩ := R.mu j a _ ha ‹_›
      exact ⟨z, a, vs, ev, R.sub _ _ e, q⟩
    · cases h
def OpV (K : PySem.W.Frag) [HasW K] (r : R2) (f : D → D → Option D) : Prop := ∀ a b d, f a b = some d → ∀ (P : Addr → Prop) (as : List Addr) (ρ : Env') (μ : Mu) (σ : L2.St) (G H : Hp) (x y : V), Rl K G H as P ρ μ σ → RepT K G H a x → RepT K G H b y → ∀ Q : VK,
  (∀ v G' H', Nx P as G H as G' H' → Rl K G' H' as P ρ μ σ → Rep K G' d v → Q v H') → r x y H Q
def mOp (f : D → D → Option D) (a b : RE) : RE := fun ρ μ => match a ρ μ with
  | some (x, μ1) => match b ρ μ1 with
    | some (y, μ2) => match view μ2 x, view μ2 y with
      | some d, some e => match f d e with
        | some r => some (.val r, μ2)
        | none => none
      | _, _ => none
    | none => none
  | none => none
theorem sn_op {r : R2} {f : D → D → Option D} {ta tb : TE} {a b : RE} (hr : OpV K r f) (ha : SnE K ta a) (hb : SnE K tb b) : SnE K (tOp r ta tb) (mOp f a b) := fun ρ μ w μ' h => by
  unfold mOp at h
  split at h
  · rename_i x μ1 e1
    split at h
    · rename_i y μ2 e2
      split at h
      · rename_i d e v1 v2
        split at h
        · rename_i z e3
          cases h
          exact fun P as σ G H R Q q => ha _ _ _ _ e1 P as σ G H R _ fun x' as1 G1 H1 n1 R1 r1 => hb _ _ _ _ e2 P as1 σ G1 H1 R1 _ fun y' as2 G2 H2 n2 R2 r2 =>
            hr d e z e3 P as2 ρ _ σ G2 H2 x' y' R2 (view_rep R2 (r1.mono n2.gr n2.pre) v1) (view_rep R2 r2 v2) Q fun v G3 H3 n3 R3 r3 => q v as2 G3 H3 ((n1.trans n2).trans n3) R3 r3
        · cases h
      · cases h
    · cases h
  · cases h
def OpU (K : PySem.W.Frag) [HasW K] (r : V → Hp → VK → Prop) (f : D → Option D) : Prop := ∀ a d, f a = some d → ∀ (P : Addr → Prop) (as : List Addr) (ρ : Env') (μ : Mu) (σ : L2.St) (G H : Hp) (x : V), Rl K G H as P ρ μ σ → RepT K G H a x → ∀ Q : VK,
  (∀ v G' H', Nx P as G H as G' H' → Rl K G' H' as P ρ μ σ → Rep K G' d v → Q v H') → r x H Q
def mUn (f : D → Option D) (a : RE) : RE := fun ρ μ => match a ρ μ with
  | some (x, μ1) => match view μ1 x with
    | some d => match f d with
      | some r => some (.val r, μ1)
      | none => none
    | none => none
  | none => none
theorem sn_un {r : V → Hp → VK → Prop} {f : D → Option D} {ta : TE} {a : RE} (hr : OpU K r f) (ha : SnE K ta a) : SnE K (tUn r ta) (mUn f a) := fun ρ μ w μ' h => by
  unfold mUn at h
  split at h
  · rename_i x μ1 e1
    split at h
    · rename_i d v1
      split at h
      · rename_i z e3
        cases h
        exact fun P as σ G H R Q q => ha _ _ _ _ e1 P as σ G H R _ fun x' as1 G1 H1 n1 R1 r1 => hr d z e3 P as1 ρ _ σ G1 H1 x' R1 (view_rep R1 r1 v1) Q fun v G3 H3 n3 R3 r3 => q v as1 G3 H3 (n1.trans n3) R3 r3
      · cases h
    · cases h
  · cases h
theorem sn_cb1 {r : List V → Hp → VK → Prop} {f : D → Option D} {ta : TE} {a : RE} (hr : OpU K (fun x H Q => r [x] H Q) f) (ha : SnE K ta a) : SnE K (tCB r (tCons ta tNil)) (mUn f a) := fun ρ μ w μ' h => sn_un hr ha ρ μ w μ' h
theorem sn_cb2 {r : List V → Hp → VK → Prop} {f : D → D → Option D} {ta tb : TE} {a b : RE} (hr : OpV K (fun x y H Q => r [x, y] H Q) f) (ha : SnE K ta a) (hb : SnE K tb b) : SnE K (tCB r (tCons ta (tCons tb tNil))) (mOp f a b) := fun ρ μ w μ' h => sn_op hr ha hb ρ μ w μ' h
def isBl : W → Option Bool
  | .val (.bl b) => some b
  | _ => none
theorem isBl_eq {w : W} {b : Bool} (h : isBl w = some b) : w = .val (.bl b) := by
  unfold isBl at h
  split at h
  · cases h; rfl
  · cases h
def mTest (a : RE) : RB := fun ρ μ => match a ρ μ with
  | some (w, μ1) => match isBl w with
    | some b => some (b, μ1)
    | none => none
  | none => none
theorem mTest_ev {ta : TE} {a : RE} (ha : SnE K ta a) {ρ : Env'} {μ μ' : Mu} {b : Bool} (h : mTest a ρ μ = some (b, μ')) : Ev K ta ρ μ (.val (.bl b)) μ' := by
  unfold mTest at h
  split at h
  · rename_i w μ1 e1
    split at h
    · rename_i c e2
      cases h
      have := ha _ _ _ _ e1
      rwa [isBl_eq e2] at this
    · cases h
  · cases h
theorem sn_test {ta : TE} {a : RE} (ha : SnE K ta a) : SnB K (tTest ta) (mTest a) := fun ρ μ b μ' h => eb_test (mTest_ev ha h)
theorem sn_B {ta : TE} {a : RE} (ha : SnE K ta a) : SnB K (tB ta) (mTest a) := fun ρ μ b μ' h => eb_B (mTest_ev ha h)
def mNot (a : RB) : RB := fun ρ μ => match a ρ μ with
  | some (b, μ1) => some (!b, μ1)
  | none => none
theorem sn_not {t : TT} {a : RB} (ha : SnB K t a) : SnB K (tNot t) (mNot a) := fun ρ μ b μ' h => by
  unfold mNot at h
  split at h
  · rename_i c μ1 e
    cases h
    exact eb_not (ha _ _ _ _ e)
  · cases h
def mAnd (a b : RB) : RB := fun ρ μ => match a ρ μ with
  | some (true, μ1) => b ρ μ1
  | some (false, μ1) => some (false, μ1)
  | none => none
theorem sn_and {t u : TT} {a b : RB} (ha : SnB K t a) (hb : SnB K u b) : SnB K (tAnd t u) (mAnd a b) := fun ρ μ k μ' h => by
  unfold mAnd at h
  split at h
  · rename_i μ1 e
    exact fun P as σ G H R Q q => ha _ _ _ _ e P as σ G H R _ fun as1 G1 H1 n1 R1 => iteT (hb _ _ _ _ h P as1 σ G1 H1 R1 _ fun as2 G2 H2 n2 R2 => q as2 G2 H2 (n1.trans n2) R2)
  · rename_i μ1 e
    cases h
    exact fun P as σ G H R Q q => ha _ _ _ _ e P as σ G H R _ fun as1 G1 H1 n1 R1 => iteF (q as1 G1 H1 n1 R1)
  · cases h
def mOr (a b : RB) : RB := fun ρ μ => match a ρ μ with
  | some (true, μ1) => some (true, μ1)
  | some (false, μ1) => b ρ μ1
  | none => none
theorem sn_or {t u : TT} {a b : RB} (ha : SnB K t a) (hb : SnB K u b) : SnB K (tOr t u) (mOr a b) := fun ρ μ k μ' h => by
  unfold mOr at h
  split at h
  · rename_i μ1 e
    cases h
    exact fun P as σ G H R Q q => ha _ _ _ _ e P as σ G H R _ fun as1 G1 H1 n1 R1 => iteT (q as1 G1 H1 n1 R1)
  · rename_i μ1 e
    exact fun P as σ G H R Q q => ha _ _ _ _ e P as σ G H R _ fun as1 G1 H1 n1 R1 => iteF (hb _ _ _ _ h P as1 σ G1 H1 R1 _ fun as2 G2 H2 n2 R2 => q as2 G2 H2 (n1.trans n2) R2)
  · cases h
def mYes : RB := fun _ μ => some (true, μ)
theorem sn_yes : SnB K tYes mYes := fun ρ μ b μ' h => by cases h; exact eb_yes
def mAndV (a b : RE) : RE := fun ρ μ => match mTest a ρ μ with
  | some (true, μ1) => b ρ μ1
  | some (false, μ1) => some (.val (.bl false), μ1)
  | none => none
theorem sn_andV {ta tb : TE} {a b : RE} (ha : SnE K ta a) (hb : SnE K tb b) : SnE K (tAndV ta tb) (mAndV a b) := fun ρ μ w μ' h => by
  unfold mAndV at h
  split at h
  · rename_i μ1 e
    exact fun P as σ G H R Q q => mTest_ev ha e P as σ G H R _ fun v as1 G1 H1 n1 R1 r1 => ⟨true, r1, iteT (hb _ _ _ _ h P as1 σ G1 H1 R1 _ fun v as2 G2 H2 n2 R2 r2 => q v as2 G2 H2 (n1.trans n2) R2 r2)⟩
  · rename_i μ1 e
    cases h
    exact fun P as σ G H R Q q => mTest_ev ha e P as σ G H R _ fun v as1 G1 H1 n1 R1 r1 => ⟨false, r1, iteF (q _ as1 G1 H1 n1 R1 rfl)⟩
  · cases h
def mOrV (a b : RE) : RE := fun ρ μ => match mTest a ρ μ with
  | some (true, μ1) => some (.val (.bl true), μ1)
  | some (false, μ1) => b ρ μ1
  | none => none
theorem sn_orV {ta tb : TE} {a b : RE} (ha : SnE K ta a) (hb : SnE K tb b) : SnE K (tOrV ta tb) (mOrV a b) := fun ρ μ w μ' h => by
  unfold mOrV at h
  split at h
  · rename_i μ1 e
    cases h
    exact fun P as σ G H R Q q => mTest_ev ha e P as σ G H R _ fun v as1 G1 H1 n1 R1 r1 => ⟨true, r1, iteT (q _ as1 G1 H1 n1 R1 rfl)⟩
  · rename_i μ1 e
    exact fun P as σ G H R Q q => mTest_ev ha e P as σ G H R _ fun v as1 G1 H1 n1 R1 r1 => ⟨false, r1, iteF (hb _ _ _ _ h P as1 σ G1 H1 R1 _ fun v as2 G2 H2 n2 R2 r2 => q v as2 G2 H2 (n1.trans n2) R2 r2)⟩
  · cases h
def mNotV (a : RE) : RE := fun ρ μ => match mTest a ρ μ with
  | some (b, μ1) => some (.val (.bl (!b)), μ1)
  | none => none
theorem sn_notV {ta : TE} {a : RE} (ha : SnE K ta a) : SnE K (tNotV ta) (mNotV a) := fun ρ μ w μ' h => by
  unfold mNotV at h
  split at h
  · rename_i b μ1 e
    cases h
    exact ev_not (mTest_ev ha e)
  · cases h
def mIf (t : RB) (a b : RE) : RE := fun ρ μ => match t ρ μ with
  | some (true, μ1) => a ρ μ1
  | some (false, μ1) => b ρ μ1
  | none => none
theorem sn_if {t : TT} {ta tb : TE} {m : RB} {a b : RE} (ht : SnB K t m) (ha : SnE K ta a) (hb : SnE K tb b) : SnE K (tIf t ta tb) (mIf m a b) := fun ρ μ w μ' h => by
  unfold mIf at h
  split at h
  · exact ev_if (ht _ _ _ _ ‹_›) (fun _ => ha _ _ _ _ h) fun z => by cases z
  · exact ev_if (ht _ _ _ _ ‹_›) (fun z => by cases z) fun _ => hb _ _ _ _ h
  · cases h
def mNil : RA := fun _ μ => some ([], μ)
theorem sn_nil : SnA K tNil mNil := fun ρ μ ws μ' h => by cases h; exact ea_nil
def mCons (a : RE) (r : RA) : RA := fun ρ μ => match a ρ μ with
  | some (w, μ1) => match r ρ μ1 with
    | some (ws, μ2) => some (w :: ws, μ2)
    | none => none
  | none => none
theorem sn_cons {ta : TE} {tr : TA} {a : RE} {r : RA} (ha : SnE K ta a) (hr : SnA K tr r) : SnA K (tCons ta tr) (mCons a r) := fun ρ μ ws μ' h => by
  unfold mCons at h
  split at h
  · rename_i w μ1 e1
    split at h
    · rename_i ws μ2 e2
      cases h
      exact ea_cons (ha _ _ _ _ e1) (hr _ _ _ _ e2)
    · cases h
  · cases h
def frz1 (μ : Mu) : W → Option (D × Mu)
  | .val d => some (d, μ)
  | .loc j => match μ[j]? with
    | some (.lst xs) => some (.lst xs, μ.set j (.frz xs))
    | some (.frz xs) => some (.lst xs, μ)
    | _ => none
theorem frz1_ok {G H : Hp} {as : List Addr} {P : Addr → Prop} {ρ : Env'} {μ μ' : Mu} {σ : L2.St} {w : W} {v : V} {d : D} (R : Rl K G H as P ρ μ σ) (r : RepW K G as w v) (h : frz1 μ w = some (d, μ')) : ∃ G', Nx P as G H as G' H ∧ Rl K G' H as P ρ μ' σ ∧ Rep K G' d v := by
  cases w with
  | val e => cases h; exact ⟨G, .refl, R, r⟩
  | loc j =>
    obtain ⟨a, ha, ev⟩ := r
    unfold frz1 at h
    dsimp only at h
    split at h
    · cases h
      obtain ⟨b, vs, hb, R', n', r'⟩ := R.freeze ‹_›
      rw [ha] at hb
      cases hb
      exact ⟨_, n', R', ev ▸ r'⟩
    · cases h
      obtain ⟨z, vs, e, q⟩ := R.mu j a _ ha ‹_›
      exact ⟨G, .refl, R, z, a, vs, ev, e, q⟩
    · cases h
def frzL (μ : Mu) : List W → Option (List D × Mu)
  | [] => some ([], μ)
  | w :: ws => match frz1 μ w with
    | some (d, μ1) => match frzL μ1 ws with
      | some (ds, μ2) => some (d :: ds, μ2)
      | none => none
    | none => none
theorem frzL_ok {H : Hp} {as : List Addr} {P : Addr → Prop} {ρ : Env'} {σ : L2.St} : ∀ {ws : List W} {vs : List V} {ds : List D} {G : Hp} {μ μ' : Mu}, Rl K G H as P ρ μ σ → RepWs K G as ws vs → frzL μ ws = some (ds, μ') → ∃ G', Nx P as G H as G' H ∧ Rl K G' H as P ρ μ' σ ∧ RepL K G' ds vs
  | [], vs, ds, G, μ, μ', R, r, h => by cases h; exact ⟨G, .refl, R, r⟩
  | w :: ws, vs, ds, G, μ, μ', R, ⟨v, t, ev, r1, r2⟩, h => by
    unfold frzL at h
    split at h
    · rename_i d μ1 e1
      split at h
      · rename_i ds' μ2 e2
        cases h
        obtain ⟨G1, n1, R1, q1⟩ := frz1_ok R r1 e1
        obtain ⟨G2, n2, R2, q2⟩ := frzL_ok R1 (RepWs.mono n1.gr n1.pre r2) e2
        exact ⟨G2, n1.trans n2, R2, ev ▸ RepL.cons (Rep.mono n2.gr _ _ q1) q2⟩
      · cases h
    · cases h
theorem ev_frz1 {te : TE} {ρ : Env'} {μ μ1 μ2 : Mu} {w : W} {d : D} (h : Ev K te ρ μ w μ1) (hf : frz1 μ1 w = some (d, μ2)) : Ev K te ρ μ (.val d) μ2 := fun P as σ G H R Q q =>
  h P as σ G H R _ fun v as1 G1 H1 n1 R1 r1 => by
    obtain ⟨G2, n2, R2, q2⟩ := frz1_ok R1 r1 hf
    exact q v as1 G2 H1 (n1.trans n2) R2 q2
theorem ea_frz {ta : TA} {ρ : Env'} {μ μ1 μ2 : Mu} {ws : List W} {ds : List D} (h : EvA K ta ρ μ ws μ1) (hf : frzL μ1 ws = some (ds, μ2)) : EvD K ta ρ μ ds μ2 := fun P as σ G H R Q q =>
  h P as σ G H R _ fun vs as1 G1 H1 n1 R1 r1 => by
    obtain ⟨G2, n2, R2, q2⟩ := frzL_ok R1 r1 hf
    exact q vs as1 G2 H1 (n1.trans n2) R2 (RepWs.vals.mpr q2)
def dat (a : RA) (ρ : Env') (μ : Mu) : Option (List D × Mu) := match a ρ μ with
  | some (ws, μ1) => frzL μ1 ws
  | none => none
theorem dat_ok {ta : TA} {a : RA} (ha : SnA K ta a) {ρ : Env'} {μ μ' : Mu} {ds : List D} (h : dat a ρ μ = some (ds, μ')) : EvD K ta ρ μ ds μ' := by
  unfold dat at h
  split at h
  · exact ea_frz (ha _ _ _ _ ‹_›) h
  · cases h
def dat1 (a : RE) (ρ : Env') (μ : Mu) : Option (D × Mu) := match a ρ μ with
  | some (w, μ1) => frz1 μ1 w
  | none => none
theorem dat1_ok {ta : TE} {a : RE} (ha : SnE K ta a) {ρ : Env'} {μ μ' : Mu} {d : D} (h : dat1 a ρ μ = some (d, μ')) : Ev K ta ρ μ (.val d) μ' := by
  unfold dat1 at h
  split at h
  · exact ev_frz1 (ha _ _ _ _ ‹_›) h
  · cases h
def mTup (a : RA) : RE := fun ρ μ => match dat a ρ μ with
  | some (ds, μ1) => if ds.length ≤ LB then some (.val (.tup ds), μ1) else none
  | none => none
theorem sn_tup {ta : TA} {a : RA} (ha : SnA K ta a) : SnE K (tTup ta) (mTup a) := fun ρ μ w μ' h => by
  unfold mTup at h
  split at h
  · split at h
    · cases h; exact ev_tup (dat_ok ha ‹_›) ‹_›
    · cases h
  · cases h
def mLst (a : RA) : RE := fun ρ μ => match dat a ρ μ with
  | some (ds, μ1) => if ds.length ≤ LB then some (.val (.lst ds), μ1) else none
  | none => none
theorem sn_lst {ta : TA} {a : RA} (ha : SnA K ta a) : SnE K (tLst ta) (mLst a) := fun ρ μ w μ' h => by
  unfold mLst at h
  split at h
  · split at h
    · cases h; exact ev_lst (dat_ok ha ‹_›) ‹_›
    · cases h
  · cases h
def mLstM (a : RA) : RE := fun ρ μ => match dat a ρ μ with
  | some (ds, μ1) => if ds.length ≤ LB then some (.loc μ1.length, μ1 ++ [.lst ds]) else none
  | none => none
theorem sn_lstM {ta : TA} {a : RA} (ha : SnA K ta a) : SnE K (tLstM ta) (mLstM a) := fun ρ μ w μ' h => by
  unfold mLstM at h
  split at h
  · split at h
    · cases h; exact ev_lstM (dat_ok ha ‹_›) ‹_›
    · cases h
  · cases h
def mLsW (a : RA) : RE := fun ρ μ => match a ρ μ with
  | some (ws, μ1) => if ws.length ≤ LB then if ws.all (fun w => w.below μ1.length) = true then some (.loc μ1.length, μ1 ++ [.lsW ws]) else none else none
  | none => none
theorem sn_lsW {ta : TA} {a : RA} (ha : SnA K ta a) : SnE K (tLst ta) (mLsW a) := fun ρ μ w μ' h => by
  unfold mLsW at h
  split at h
  · split at h
    · split at h
      · cases h; exact ev_lsW (ha _ _ _ _ ‹_›) ‹_› (List.all_eq_true.mp ‹_›)
      · cases h
    · cases h
  · cases h
def seqOf (μ : Mu) (w : W) : Option (List D) := match view μ w with
  | some (.lst xs) => some xs
  | some (.tup xs) => some xs
  | _ => none
theorem seqOf_W {μ : Mu} {w : W} {xs : List D} (h : seqOf μ w = some xs) : SeqW μ w xs := by
  unfold seqOf at h
  split at h
  · cases h
    rename_i e
    cases w with
    | val d => cases e; exact .lst
    | loc j =>
      unfold view at e
      dsimp only at e
      split at e
      · cases e; exact .loc ‹_›
      · cases e; exact .frz ‹_›
      · cases e
  · cases h
    rename_i e
    cases w with
    | val d => cases e; exact .tup
    | loc j =>
      unfold view at e
      dsimp only at e
      split at e <;> cases e
  · cases h
def mStar (a : RE) (r : RA) : RA := fun ρ μ => match a ρ μ with
  | some (w, μ1) => match seqOf μ1 w with
    | some xs => match r ρ μ1 with
      | some (ws, μ2) => some (xs.map W.val ++ ws, μ2)
      | none => none
    | none => none
  | none => none
end
end DX
namespace DX
open PySem PySem.Spec PyProof.Rows L2 DK
section
variable {K : PySem.W.Frag} [HasW K]
theorem repT_int {G H : Hp} {i : Int} {v : V} (h : RepT K G H (.int i) v) : v = .int i := h
theorem repT_bl {G H : Hp} {i : Bool} {v : V} (h : RepT K G H (.bl i) v) : v = .bl i := h
def plusF : D → D → Option D
  | .int i, .int j => some (.int (i + j))
  | .str a, .str b => if (a ++ b).length ≤ SB then some (.str (a ++ b)) else none
  | .lst a, .lst b => if a.length + b.length ≤ LB then some (.lst (a ++ b)) else none
  | .tup a, .tup b => if a.length + b.length ≤ LB then some (.tup (a ++ b)) else none
  | _, _ => none
theorem ov_plus : OpV K (rPlus K) plusF := fun a b d h P as ρ μ σ G H x y R rx ry Q q => by
  unfold plusF at h
  split at h
  · cases h; exact o_addI P as ρ μ σ G H x y R rx ry Q q
  · split at h
    · cases h; exact o_addS ‹_› P as ρ μ σ G H x y R rx ry Q q
    · cases h
  · split at h
    · cases h
      rename_i hz
      obtain ⟨_, a, vs, ex, ga, ra⟩ := rx
      obtain ⟨_, b, us, ey, gb, rb⟩ := ry
      refine .inr (.inr (.inl ⟨a, b, vs, us, ex, ey, ga, gb, ?_, fun p hp => ?_⟩))
      · rw [ra.length, rb.length]
        exact Nat.le_trans hz (by decide)
      · obtain ⟨R2, n2⟩ := R.imm hp (.lst (vs ++ us))
        exact q _ _ _ n2 R2 ⟨by rw [List.length_append]; exact hz, p, _, rfl, upd_same, RepL.mono n2.gr _ _ (ra.append rb)⟩
    · cases h
  · split at h
    · cases h; exact o_addT ‹_› P as ρ μ σ G H x y R rx ry Q q
    · cases h
  · cases h
def mAddM (a b : RE) : RE := fun ρ μ => match a ρ μ with
  | some (x, μ1) => match b ρ μ1 with
    | some (y, μ2) => match view μ2 x, view μ2 y with
      | some (.lst d), some (.lst e) => if d.length + e.length ≤ LB then some (.loc μ2.length, μ2 ++ [.lst (d ++ e)]) else none
      | _, _ => none
    | none => none
  | none => none
def minusF : D → D → Option D
  | .int i, .int j => some (.int (i - j))
  | _, _ => none
theorem ov_minus : OpV K rMinus minusF := fun a b d h P as ρ μ σ G H x y R rx ry Q q => by
  unfold minusF at h
  split at h
  · cases h; exact o_sub P as ρ μ σ G H x y R rx ry Q q
  · cases h
def repD (n : Nat) (xs : List D) : List D := (List.replicate n xs).flatten
theorem repL_rep {G : Hp} {xs : List D} {vs : List V} (r : RepL K G xs vs) : ∀ n : Nat, RepL K G (repD n xs) (List.replicate n vs).flatten
  | 0 => rfl
  | n + 1 => by
    unfold repD
    rw [List.replicate_succ, List.replicate_succ, List.flatten_cons, List.flatten_cons]
    exact r.append (repL_rep r n)
def timesF : D → D → Option D
  | .int i, .int j => if (-(2 ^ 64) < i ∧ i < 2 ^ 64) ∨ (-(2 ^ 64) < j ∧ j < 2 ^ 64) then some (.int (i * j)) else none
  | .tup xs, .int k => if xs ≠ [] ∧ 2 ≤ k ∧ k ≤ 1000 ∧ xs.length ≤ 100 then some (.tup (repD k.toNat xs)) else none
  | .lst xs, .int k => if 0 ≤ k ∧ k ≤ 1000 ∧ xs.length ≤ 100 then some (.lst (repD k.toNat xs)) else none
  | _, _ => none
theorem repD_len {xs : List D} : ∀ n : Nat, (repD n xs).length = n * xs.length
  | 0 => by simp [repD]
  | n + 1 => by
    unfold repD
    rw [List.replicate_succ, List.flatten_cons, List.length_append]
    have := repD_len (xs := xs) n
    unfold repD at this
    rw [this, Nat.succ_mul, Nat.add_comm]
theorem rep_le {n m : Nat} (h : n ≤ 1000) (k : m ≤ 100) : n * m ≤ LB := Nat.le_trans (Nat.mul_le_mul h k) (by decide)
theorem ov_times : OpV K (rTimes K) timesF := fun a b d h P as ρ μ σ G H x y R rx ry Q q => by
  unfold timesF at h
  split at h
  · split at h
    · cases h; exact o_mul ‹_› P as ρ μ σ G H x y R rx ry Q q
    · cases h
  · split at h
    · cases h
      rename_i xs k hc
      obtain ⟨c1, c2, c3, c4⟩ := hc
      obtain ⟨_, a, vs, ex, ga, ra⟩ := rx
      have hl : (repD k.toNat xs).length ≤ LB := by rw [repD_len]; exact rep_le (by omega) c4
      refine .inr (.inr ⟨a, k, vs, ex, ry, same_sqt R.sub ga, fun e => c1 ?_, c2, c3, ?_, fun p hp => ?_⟩)
      · exact List.eq_nil_of_length_eq_zero (by rw [← ra.length, e]; rfl)
      · rw [ra.length]; omega
      · obtain ⟨R2, n2⟩ := R.imm hp (.tup (List.replicate k.toNat vs).flatten)
        exact q _ _ _ n2 R2 ⟨hl, p, _, rfl, SqT.of upd_same, RepL.mono n2.gr _ _ (repL_rep ra _)⟩
    · cases h
  · split at h
    · cases h
      rename_i xs k hc
      obtain ⟨c2, c3, c4⟩ := hc
      obtain ⟨_, a, vs, ex, ga, ra⟩ := rx
      have hl : (repD k.toNat xs).length ≤ LB := by rw [repD_len]; exact rep_le (by omega) c4
      refine .inr (.inl ⟨a, k, vs, ex, ry, ga, by omega, by omega, ?_, fun p hp => ?_⟩)
      · rw [ra.length, Nat.mul_comm]; exact Nat.le_trans (rep_le (by omega) c4) (by decide)
      · obtain ⟨R2, n2⟩ := R.imm hp (.lst (List.replicate k.toNat vs).flatten)
        exact q _ _ _ n2 R2 ⟨hl, p, _, rfl, upd_same, RepL.mono n2.gr _ _ (repL_rep ra _)⟩
    · cases h
  · cases h
def fdF : D → D → Option D
  | .int i, .int j => if 0 < j ∧ j < 1073741824 then some (.int (i / j)) else none
  | _, _ => none
theorem ov_fd : OpV K rFd fdF := fun a b d h P as ρ μ σ G H x y R rx ry Q q => by
  unfold fdF at h
  split at h
  · split at h
    · cases h; exact o_fd ‹_› P as ρ μ σ G H x y R rx ry Q q
    · cases h
  · cases h
def mdF : D → D → Option D
  | .int i, .int j => if 0 < j then some (.int (i % j)) else none
  | _, _ => none
theorem ov_md : OpV K rMd mdF := fun a b d h P as ρ μ σ G H x y R rx ry Q q => by
  unfold mdF at h
  split at h
  · split at h
    · cases h; exact o_md ‹_› P as ρ μ σ G H x y R rx ry Q q
    · cases h
  · cases h
def pwF : D → D → Option D
  | .int i, .int j => if 0 ≤ j ∧ j ≤ 1000 ∧ i.natAbs < 2 ^ 64 then some (.int (i ^ j.toNat)) else none
  | _, _ => none
theorem ov_pw : OpV K rPw pwF := fun a b d h P as ρ μ σ G H x y R rx ry Q q => by
  unfold pwF at h
  split at h
  · split at h
    · cases h
      rename_i hc
      exact o_pw ⟨hc.1, by omega, hc.2.2⟩ P as ρ μ σ G H x y R rx ry Q q
    · cases h
  · cases h
def ltF : D → D → Option D
  | .int i, .int j => some (.bl (decide (i < j)))
  | _, _ => none
theorem ov_lt : OpV K rLt' ltF := fun a b d h P as ρ μ σ G H x y R rx ry Q q => by
  unfold ltF at h
  split at h
  · cases h; exact o_lt P as ρ μ σ G H x y R rx ry Q q
  · cases h
def leF : D → D → Option D
  | .int i, .int j => some (.bl (decide (i ≤ j)))
  | _, _ => none
theorem ov_le : OpV K rLe' leF := fun a b d h P as ρ μ σ G H x y R rx ry Q q => by
  unfold leF at h
  split at h
  · cases h; exact o_le P as ρ μ σ G H x y R rx ry Q q
  · cases h
def gtF : D → D → Option D
  | .int i, .int j => some (.bl (decide (j < i)))
  | _, _ => none
theorem ov_gt : OpV K rGt' gtF := fun a b d h P as ρ μ σ G H x y R rx ry Q q => by
  unfold gtF at h
  split at h
  · cases h; exact o_gt P as ρ μ σ G H x y R rx ry Q q
  · cases h
def geF : D → D → Option D
  | .int i, .int j => some (.bl (decide (j ≤ i)))
  | _, _ => none
theorem ov_ge : OpV K rGe' geF := fun a b d h P as ρ μ σ G H x y R rx ry Q q => by
  unfold geF at h
  split at h
  · cases h; exact o_ge P as ρ μ σ G H x y R rx ry Q q
  · cases h
def negF : D → Option D
  | .int i => some (.int (-i))
  | _ => none
theorem ou_neg : OpU K (rU fun i => .int (-i)) negF := fun a d h P as ρ μ σ G H x R rx Q q => by
  unfold negF at h
  split at h
  · cases h; exact ⟨_, rx, q _ G H .refl R rfl⟩
  · cases h
def mIsN (neg : Bool) (a : RE) : RE := fun ρ μ => match a ρ μ with
  | some (.val d, μ1) => some (.val (.bl (neg ^^ isNon d)), μ1)
  | some (.loc _, μ1) => some (.val (.bl neg), μ1)
  | none => none
theorem sn_isN {ta : TE} {a : RE} (ha : SnE K ta a) : SnE K (tOp rIsN ta (tC .non)) (mIsN false a) := fun ρ μ w μ' h => by
  unfold mIsN at h
  split at h
  · cases h
    rw [Bool.false_xor]
    exact ev_isNd (ha _ _ _ _ ‹_›)
  · cases h; exact ev_isNl (ha _ _ _ _ ‹_›)
  · cases h
theorem sn_notN {ta : TE} {a : RE} (ha : SnE K ta a) : SnE K (tOp rNotN ta (tC .non)) (mIsN true a) := fun ρ μ w μ' h => by
  unfold mIsN at h
  split at h
  · cases h
    rw [Bool.true_xor]
    exact ev_notNd (ha _ _ _ _ ‹_›)
  · cases h; exact ev_notNl (ha _ _ _ _ ‹_›)
  · cases h
theorem dp_ofT {G H : Hp} (s : Same G H) {d : D} {v : V} (k : pyOk d = true) (r : RepT K G H d v) : Dp K H v (toPy d) := by
  cases d with
  | lst xs =>
    obtain ⟨_, a, vs, e, g, r⟩ := r
    rw [e]
    exact .lst (SqL.of g) (dp_ofL s xs vs k r)
  | _ => exact dp_of s _ v k r
theorem lay_ofT {G H : Hp} {d : D} {v : V} (r : RepT K G H d v) : (toPy d).canLay0 = true := by
  cases d with
  | lst xs =>
    obtain ⟨_, a, vs, e, g, r⟩ := r
    exact lay_ofL xs vs r
  | _ => exact lay_of (K := K) (G := G) _ v r
def eqF (neg : Bool) : D → D → Option D
  | .int i, .int j => some (.bl (neg ^^ decide (i = j)))
  | .str i, .str j => some (.bl (neg ^^ decide (i = j)))
  | .bl i, .bl j => some (.bl (neg ^^ decide (i = j)))
  | a, b => if pyOk a = true ∧ pyOk b = true ∧ (toPy a).depth ≤ 64 ∧ (toPy b).depth ≤ 64 then some (.bl (neg ^^ eqP a b)) else none
theorem ov_eq : OpV K (rEqq K) (eqF false) := fun a b d h P as ρ μ σ G H x y R rx ry Q q => by
  unfold eqF at h
  simp only [Bool.false_xor] at h
  split at h
  · cases h; exact o_eqI P as ρ μ σ G H x y R rx ry Q q
  · cases h; exact o_eqS P as ρ μ σ G H x y R rx ry Q q
  · cases h; exact o_eqB P as ρ μ σ G H x y R rx ry Q q
  · split at h
    · cases h
      rename_i hc
      obtain ⟨c1, c2, c3, c4⟩ := hc
      exact .inr ⟨_, _, dp_ofT R.sub c1 rx, dp_ofT R.sub c2 ry, Bool.and_eq_true_iff.mpr ⟨lay_ofT rx, decide_eq_true c3⟩, Bool.and_eq_true_iff.mpr ⟨lay_ofT ry, decide_eq_true c4⟩, q _ G H .refl R rfl⟩
    · cases h
theorem ov_ne : OpV K (rNee K) (eqF true) := fun a b d h P as ρ μ σ G H x y R rx ry Q q => by
  unfold eqF at h
  simp only [Bool.true_xor] at h
  split at h
  · cases h; exact o_neI P as ρ μ σ G H x y R rx ry Q q
  · cases h; exact o_neS P as ρ μ σ G H x y R rx ry Q q
  · cases h; exact o_neB P as ρ μ σ G H x y R rx ry Q q
  · split at h
    · cases h
      rename_i hc
      obtain ⟨c1, c2, c3, c4⟩ := hc
      exact .inr ⟨_, _, dp_ofT R.sub c1 rx, dp_ofT R.sub c2 ry, Bool.and_eq_true_iff.mpr ⟨lay_ofT rx, decide_eq_true c3⟩, Bool.and_eq_true_iff.mpr ⟨lay_ofT ry, decide_eq_true c4⟩, q _ G H .refl R rfl⟩
    · cases h
end
end DX
namespace DX
open PySem PySem.Spec PyProof.Rows L2 DK
section
variable {K : PySem.W.Frag} [HasW K]
def dV : D → V
  | .non => .non
  | .bl b => .bl b
  | .int i => .int i
  | .str s => .str s
  | _ => .non
def flatD : D → Bool
  | .non => true
  | .bl _ => true
  | .int _ => true
  | .str _ => true
  | _ => false
theorem dV_flat {d : D} (h : flatD d = true) : flatV (dV d) = true := by cases d <;> first | rfl | cases h
theorem dV_rep {G : Hp} {d : D} {v : V} (h : flatD d = true) (r : Rep K G d v) : v = dV d := by
  cases d <;> first | exact r | exact r.1 | cases h
theorem dV_repT {G H : Hp} {d : D} {v : V} (h : flatD d = true) (r : RepT K G H d v) : v = dV d := by
  cases d <;> first | exact r | exact r.1 | cases h
theorem dV_repL {G : Hp} : ∀ {ds : List D} {vs : List V}, ds.all flatD = true → RepL K G ds vs → vs = ds.map dV ∧ (ds.map dV).all flatV = true
  | [], _, _, r => ⟨r, rfl⟩
  | d :: ds, _, h, ⟨v, t, e, r1, r2⟩ => by
    rw [List.all_cons, Bool.and_eq_true] at h
    obtain ⟨e1, e2⟩ := dV_repL h.2 r2
    rw [e, dV_rep h.1 r1, e1]
    exact ⟨rfl, by rw [List.map_cons, List.all_cons, dV_flat h.1, e2]; rfl⟩
theorem repT_lst {G H : Hp} {xs : List D} {v : V} (r : RepT K G H (.lst xs) v) : ∃ a vs, v = .ref a ∧ H a = some (.lst vs) ∧ RepL K G xs vs ∧ xs.length ≤ LB := by
  obtain ⟨z, a, vs, e, g, r⟩ := r
  exact ⟨a, vs, e, g, r, z⟩
theorem repT_tup {G H : Hp} (s : Same G H) {xs : List D} {v : V} (r : RepT K G H (.tup xs) v) : ∃ a vs, v = .ref a ∧ SqT K H a vs ∧ RepL K G xs vs ∧ xs.length ≤ LB := by
  obtain ⟨z, a, vs, e, g, r⟩ := r
  exact ⟨a, vs, e, same_sqt s g, r, z⟩
def inF (neg : Bool) : D → D → Option D
  | x, .tup xs => if flatD x = true ∧ xs.all flatD = true then some (.bl (neg ^^ inV (dV x) (xs.map dV))) else none
  | x, .lst xs => if flatD x = true ∧ xs.all flatD = true then some (.bl (neg ^^ inV (dV x) (xs.map dV))) else none
  | .str a, .str b => match a.cps.toList with
    | [c] => some (.bl (neg ^^ decide (c ∈ b.cps.toList)))
    | _ => none
  | _, _ => none
theorem one_sign {a : Str} {c : Nat} (h : a.cps.toList = [c]) : a = ⟨#[c]⟩ := by
  cases a with
  | mk cps =>
    have : cps = #[c] := by
      apply Array.toList_inj.mp
      exact h
    rw [this]
theorem ov_in : OpV K (rInn K) (inF false) := fun a b d h P as ρ μ σ G H x y R rx ry Q q => by
  unfold inF at h
  simp only [Bool.false_xor] at h
  split at h
  · split at h
    · cases h
      rename_i hc
      obtain ⟨a, vs, e, g, r, _⟩ := repT_tup R.sub ry
      obtain ⟨e1, e2⟩ := dV_repL hc.2 r
      subst e1
      rw [dV_repT hc.1 rx]
      exact .inr ⟨a, _, e, .inr g, dV_flat hc.1, e2, by rw [if_neg Bool.false_ne_true]; exact q _ G H .refl R rfl⟩
    · cases h
  · split at h
    · cases h
      rename_i hc
      obtain ⟨a, vs, e, g, r, _⟩ := repT_lst ry
      obtain ⟨e1, e2⟩ := dV_repL hc.2 r
      subst e1
      rw [dV_repT hc.1 rx]
      exact .inr ⟨a, _, e, .inl (SqL.of g), dV_flat hc.1, e2, by rw [if_neg Bool.false_ne_true]; exact q _ G H .refl R rfl⟩
    · cases h
  · split at h
    · cases h
      rename_i c hc
      rw [one_sign hc] at rx
      exact o_inC P as ρ μ σ G H x y R rx ry Q q
    · cases h
  · cases h
def ixF : D → D → Option D
  | .lst xs, .int i => atI xs i
  | .tup xs, .int i => atI xs i
  | .str s, .int i => match atI s.cps.toList i with
    | some c => some (.str ⟨#[c]⟩)
    | none => none
  | _, _ => none
theorem ov_ix : OpV K (rIx K) ixF := fun a b d h P as ρ μ σ G H x y R rx ry Q q => by
  unfold ixF at h
  split at h
  · obtain ⟨a, vs, e, g, r, _⟩ := repT_lst rx
    obtain ⟨v, h1, h2⟩ := atI_rep r h
    exact .inl ⟨a, vs, _, v, e, ry, SqL.of g, h1, q _ G H .refl R h2⟩
  · exact o_ixT h P as ρ μ σ G H x y R rx ry Q q
  · split at h
    · cases h; exact o_ixS ‹_› P as ρ μ σ G H x y R rx ry Q q
    · cases h
  · cases h
def mIx (a b : RE) : RE := fun ρ μ => match a ρ μ with
  | some (x, μ1) => match b ρ μ1 with
    | some (y, μ2) => match (match x with | .loc j => μ2[j]? | _ => none), y with
      | some (.lsW ws), .val (.int n) => match atI ws n with
        | some w => some (w, μ2)
        | none => none
      | _, _ => match view μ2 x, view μ2 y with
        | some d, some e => match ixF d e with
          | some r => some (.val r, μ2)
          | none => none
        | _, _ => none
    | none => none
  | none => none
theorem sn_ix {ta tb : TE} {a b : RE} (ha : SnE K ta a) (hb : SnE K tb b) : SnE K (tOp (rIx K) ta tb) (mIx a b) := fun ρ μ w μ' h => by
  unfold mIx at h
  split at h
  · rename_i x μ1 e1
    split at h
    · rename_i y μ2 e2
      split at h
      · rename_i o1 o2 ws n hx
        split at h
        · cases h
          cases x with
          | val d => cases hx
          | loc j => exact ev_ixW (ha _ _ _ _ e1) (hb _ _ _ _ e2) hx ‹_›
        · cases h
      · have : mOp ixF a b ρ μ = some (w, μ') := by
          unfold mOp
          rw [e1]
          dsimp only
          rw [e2]
          exact h
        exact sn_op ov_ix ha hb ρ μ w μ' this
    · cases h
  · cases h
def lenF : D → Option D
  | .str s => some (.int s.length)
  | .lst xs => some (.int xs.length)
  | .tup xs => some (.int xs.length)
  | .scr ns => some (.int ns.length)
  | _ => none
theorem ou_len : OpU K (fun x H Q => rLenA K [x] H Q) lenF := fun a d h P as ρ μ σ G H x R rx Q q => by
  unfold lenF at h
  split at h
  · cases h
    obtain ⟨ev, hs⟩ := rx
    subst ev
    exact ⟨_, _, rfl, ⟨Nat.le_trans hs.1 (by decide), rfl⟩, q _ G H .refl R rfl⟩
  · cases h
    obtain ⟨a, vs, e, g, r, _⟩ := repT_lst rx
    subst e
    exact ⟨_, _, rfl, .inl ⟨vs, SqL.of g, r.length.symm⟩, q _ G H .refl R rfl⟩
  · cases h
    obtain ⟨a, vs, e, g, r, _⟩ := repT_tup R.sub rx
    subst e
    exact ⟨_, _, rfl, .inr ⟨vs, g, r.length.symm⟩, q _ G H .refl R rfl⟩
  · cases h
    obtain ⟨a, e, g⟩ := rx
    subst e
    exact ⟨_, _, rfl, .inl ⟨_, (by first | exact g | exact same_sql R.sub g), by rw [List.length_map]⟩, q _ G H .refl R rfl⟩
  · cases h
def bls : List D → Option (List Bool)
  | [] => some []
  | .bl b :: r => match bls r with
    | some bs => some (b :: bs)
    | none => none
  | _ => none
theorem bls_eq : ∀ {ds : List D} {bs : List Bool}, bls ds = some bs → ds = bs.map D.bl
  | [], bs, h => by cases h; rfl
  | .bl b :: r, bs, h => by
    unfold bls at h
    split at h
    · rename_i bs' e
      cases h
      have := bls_eq e
      rw [this]
      rfl
    · cases h
  | .non :: r, _, h => by cases h
  | .int _ :: r, _, h => by cases h
  | .str _ :: r, _, h => by cases h
  | .tup _ :: r, _, h => by cases h
  | .lst _ :: r, _, h => by cases h
  | .obj _ _ _ :: r, _, h => by cases h
  | .ty _ :: r, _, h => by cases h
  | .cls _ :: r, _, h => by cases h
  | .scr _ :: r, _, h => by cases h
def allF : D → Option D
  | .lst xs => match bls xs with
    | some bs => some (.bl (bs.all id))
    | none => none
  | _ => none
theorem ou_all : OpU K (fun x H Q => rAll K [x] H Q) allF := fun a d h P as ρ μ σ G H x R rx Q q => by
  unfold allF at h
  split at h
  · split at h
    · cases h
      rename_i hb
      obtain ⟨a, vs, e, g, r, _⟩ := repT_lst rx
      rw [bls_eq hb] at r
      have := r.bls
      subst this e
      exact ⟨a, _, rfl, SqL.of g, q _ G H .refl R rfl⟩
    · cases h
  · cases h
end
end DX
namespace DX
open PySem PySem.Spec PyProof.Rows L2 DK
section
variable {K : PySem.W.Frag} [HasW K]
def tupF : D → Option D
  | .lst xs => some (.tup xs)
  | .tup xs => some (.tup xs)
  | _ => none
theorem ou_tup : OpU K (fun x H Q => rTupOf K [x] H Q) tupF := fun a d h P as ρ μ σ G H x R rx Q q => by
  unfold tupF at h
  split at h
  · cases h
    obtain ⟨a, vs, e, g, r, z⟩ := repT_lst rx
    subst e
    refine ⟨a, vs, rfl, .inl ⟨SqL.of g, fun l hl => ?_⟩⟩
    obtain ⟨R2, n2⟩ := R.imm hl (.tup vs)
    exact q _ _ _ n2 R2 ⟨z, l, vs, rfl, SqT.of upd_same, RepL.mono n2.gr _ _ r⟩
  · cases h
    obtain ⟨a, vs, e, g, r, z⟩ := repT_tup R.sub rx
    subst e
    exact ⟨a, vs, rfl, .inr ⟨g, q _ G H .refl R rx⟩⟩
  · cases h
def lstF : D → Option D
  | .lst xs => some (.lst xs)
  | .tup xs => some (.lst xs)
  | _ => none
def mLstOfM (a : RE) : RE := fun ρ μ => match a ρ μ with
  | some (x, μ1) => match view μ1 x with
    | some d => match lstF d with
      | some (.lst xs) => some (.loc μ1.length, μ1 ++ [.lst xs])
      | _ => none
    | none => none
  | none => none
def sOf : List D → Option (List Str)
  | [] => some []
  | .str b :: r => match sOf r with
    | some bs => some (b :: bs)
    | none => none
  | _ => none
theorem sOf_eq : ∀ {ds : List D} {bs : List Str}, sOf ds = some bs → ds = bs.map D.str
  | [], bs, h => by cases h; rfl
  | .str b :: r, bs, h => by
    unfold sOf at h
    split at h
    · rename_i bs' e
      cases h
      have := sOf_eq e
      rw [this]
      rfl
    · cases h
  | .non :: r, _, h => by cases h
  | .bl _ :: r, _, h => by cases h
  | .int _ :: r, _, h => by cases h
  | .tup _ :: r, _, h => by cases h
  | .lst _ :: r, _, h => by cases h
  | .obj _ _ _ :: r, _, h => by cases h
  | .ty _ :: r, _, h => by cases h
  | .cls _ :: r, _, h => by cases h
  | .scr _ :: r, _, h => by cases h
theorem sOf_map : ∀ bs : List Str, sOf (bs.map D.str) = some bs
  | [] => rfl
  | b :: bs => by rw [List.map_cons, sOf, sOf_map]
def sortF : D → Option D
  | .lst xs => match sOf xs with
    | some ss => if ss.length < 64 then some (.lst ((srt ss).map D.str)) else none
    | none => none
  | _ => none
def sOkB (s : Str) : Bool := decide (s.length ≤ SB) && s.cps.all (· < 0x110000)
theorem sOkB_ok {s : Str} (h : sOkB s = true) : sOk s := by
  unfold sOkB at h
  rw [Bool.and_eq_true] at h
  exact ⟨of_decide_eq_true h.1, h.2⟩
def strF : D → Option D
  | .str s => some (.str s)
  | .int i => if i.natAbs.log2 < 1920 ∧ sOkB (toString i : String) = true then some (.str (toString i : String)) else none
  | _ => none
theorem ou_str : OpU K (fun x H Q => rStrS [x] H Q) strF := fun a d h P as ρ μ σ G H x R rx Q q => by
  unfold strF at h
  split at h
  · cases h
    exact .inl ⟨_, by rw [rx.1], q _ G H .refl R ⟨rfl, rx.2⟩⟩
  · split at h
    · cases h
      rename_i hc
      exact .inr ⟨_, by rw [repT_int rx], hc.1, q _ G H .refl R ⟨rfl, sOkB_ok hc.2⟩⟩
    · cases h
  · cases h
def intF : D → Option D
  | .int i => some (.int i)
  | .bl k => some (.int (if k then 1 else 0))
  | _ => none
theorem ou_int : OpU K (fun x H Q => rInt1 [x] H Q) intF := fun a d h P as ρ μ σ G H x R rx Q q => by
  unfold intF at h
  split at h
  · cases h; exact .inl ⟨_, by rw [repT_int rx], q _ G H .refl R rfl⟩
  · cases h; exact .inr ⟨_, by rw [repT_bl rx], q _ G H .refl R rfl⟩
  · cases h
def absF : D → Option D
  | .int i => some (.int (if i < 0 then -i else i))
  | _ => none
theorem ou_abs : OpU K (fun x H Q => rAbs [x] H Q) absF := fun a d h P as ρ μ σ G H x R rx Q q => by
  unfold absF at h
  split at h
  · cases h; exact ⟨_, by rw [repT_int rx], q _ G H .refl R rfl⟩
  · cases h
def maxF : D → D → Option D
  | .int i, .int j => some (.int (max i j))
  | _, _ => none
theorem ov_max : OpV K (fun x y H Q => rMax2 [x, y] H Q) maxF := fun a b d h P as ρ μ σ G H x y R rx ry Q q => by
  unfold maxF at h
  split at h
  · cases h
    exact c_max P as ρ μ σ G H [x, y] R ⟨x, [y], rfl, rx, y, [], rfl, ry, rfl⟩ Q q
  · cases h
def minF : D → D → Option D
  | .int i, .int j => some (.int (min i j))
  | _, _ => none
def mNoPart : RO := fun _ μ => some (none, μ)
theorem sn_noPart : SnO K tNoPart mNoPart := fun ρ μ o μ' h => by cases h; exact eo_none
def mPart (a : RE) : RO := fun ρ μ => match a ρ μ with
  | some (.val (.int n), μ1) => some (some n, μ1)
  | _ => none
theorem sn_part {ta : TE} {a : RE} (ha : SnE K ta a) : SnO K (tPart ta) (mPart a) := fun ρ μ o μ' h => by
  unfold mPart at h
  split at h
  · cases h
    rename_i e
    exact fun P as σ G H R Q q => ha _ _ _ _ e P as σ G H R _ fun v as1 G1 H1 n1 R1 r1 => ⟨_, r1, q as1 G1 H1 n1 R1⟩
  · cases h
def slF (lo hi : Option Int) : D → Option D
  | .lst xs => some (.lst (DK.cutD xs lo hi))
  | .tup xs => some (.tup (DK.cutD xs lo hi))
  | .str z => some (.str (cutS z lo hi))
  | .scr ns => if ns.length ≤ LB then some (.lst (DK.cutD (ns.map D.int) lo hi)) else none
  | _ => none
theorem cutS_ok' {z : Str} {lo hi : Option Int} (h : sOk z) : sOk (cutS z lo hi) := by
  obtain ⟨h1, h2⟩ := sOk_iff.mp h
  refine ⟨Nat.le_trans (cutS_length z lo hi) h.1, ?_⟩
  refine Array.all_eq_true_iff_forall_mem.mpr fun c hc => ?_
  have hm : c ∈ z.cps.toList := List.mem_of_mem_drop (List.mem_of_mem_take (by simpa [cutS] using hc))
  simpa using h2 c hm
theorem ou_sl {lo hi : Option Int} : OpU K (fun x H Q => rSlc K x lo hi H Q) (slF lo hi) := fun a d h P as ρ μ σ G H x R rx Q q => by
  unfold slF at h
  split at h
  · cases h
    obtain ⟨a, vs, e, g, r, z⟩ := repT_lst rx
    refine .inl ⟨a, vs, e, SqL.of g, fun p hp => ?_⟩
    obtain ⟨R4, n4⟩ := R.imm hp (.lst (cutV vs lo hi))
    exact q _ _ _ n4 R4 ⟨Nat.le_trans cut_len z, p, _, rfl, upd_same, RepL.mono n4.gr _ _ (cut_rep r)⟩
  · cases h
    rename_i xs
    obtain ⟨z, a, vs, ev, g, hr⟩ := id rx
    refine .inr (.inl ⟨a, vs, ev, same_sqt R.sub g, fun ⟨e1, e2⟩ => ?_, fun _ p hp => ?_⟩)
    · have whole : DK.cutD xs lo hi = xs := by
        unfold DK.cutD
        rw [hr.length] at e1 e2
        rw [e1, e2]
        simp
      rw [whole] at q
      rw [← ev]
      exact q _ _ _ .refl R rx
    · obtain ⟨R4, n4⟩ := R.imm hp (.tup (cutV vs lo hi))
      exact q _ _ _ n4 R4 ⟨Nat.le_trans cut_len z, p, _, rfl, SqT.of upd_same, RepL.mono n4.gr _ _ (cut_rep hr)⟩
  · cases h
    exact .inr (.inr ⟨_, rx.1, Nat.le_trans rx.2.1 (by decide), q _ G H .refl R ⟨rfl, cutS_ok' rx.2⟩⟩)
  · split at h
    · cases h
      rename_i hz
      obtain ⟨a, ev, hs⟩ := rx
      refine .inl ⟨a, _, ev, same_sql R.sub hs, fun p hp => ?_⟩
      obtain ⟨R4, n4⟩ := R.imm hp (.lst (cutV _ lo hi))
      exact q _ _ _ n4 R4 ⟨Nat.le_trans cut_len (by rw [List.length_map]; exact hz), p, _, rfl, upd_same, cut_rep RepL.ofInts⟩
    · cases h
  · cases h
def mSl (a : RE) (l u : RO) : RE := fun ρ μ => match a ρ μ with
  | some (x, μ1) => match l ρ μ1 with
    | some (lo, μ2) => match u ρ μ2 with
      | some (hi, μ3) => match view μ3 x with
        | some d => match slF lo hi d with
          | some r => some (.val r, μ3)
          | none => none
        | none => none
      | none => none
    | none => none
  | none => none
theorem sn_sl {ta : TE} {tl th : TO} {a : RE} {l u : RO} (ha : SnE K ta a) (hl : SnO K tl l) (hu : SnO K th u) : SnE K (tSl (rSlc K) ta tl th) (mSl a l u) := fun ρ μ w μ' h => by
  unfold mSl at h
  split at h
  · rename_i x μ1 e1
    split at h
    · rename_i lo μ2 e2
      split at h
      · rename_i hi μ3 e3
        split at h
        · rename_i d v1
          split at h
          · rename_i z e4
            cases h
            exact fun P as σ G H R Q q => ha _ _ _ _ e1 P as σ G H R _ fun x' as1 G1 H1 n1 R1 r1 => hl _ _ _ _ e2 P as1 σ G1 H1 R1 _ fun as2 G2 H2 n2 R2 => hu _ _ _ _ e3 P as2 σ G2 H2 R2 _ fun as3 G3 H3 n3 R3 =>
              ou_sl d z e4 P as3 ρ _ σ G3 H3 x' R3 (view_rep R3 (r1.mono (n2.trans n3).gr (n2.trans n3).pre) v1) Q fun v G4 H4 n4 R4 r4 => q v as3 G4 H4 (((n1.trans n2).trans n3).trans n4) R4 r4
          · cases h
        · cases h
      · cases h
    · cases h
  · cases h
end
end DX
namespace DX
open PySem PySem.Spec PyProof.Rows L2 DK
section
variable {K : PySem.W.Frag} [HasW K]
theorem tyx_ofT {G H : Hp} (s : Same G H) {d : D} {v : V} (k : isData d = true) (r : RepT K G H d v) : TyX K H v (tyVal K d) := by
  cases d with
  | lst xs =>
    obtain ⟨_, a, vs, e, g, _⟩ := r
    subst e
    exact .base (.lst g)
  | _ => exact tyx_of s k r
theorem kit_TT {G H : Hp} {d : D} {T : String} {v : V} (hT : T ∈ ["int", "bool", "str", "list", "tuple"]) (k : isData d = true) (r : RepT K G H d v) : PySem.W.kitOne K (tyVal K d) (.type T) = some (isT T d) := by
  cases d with
  | lst xs =>
    simp only [List.mem_cons, List.mem_nil_iff, or_false] at hT
    rcases hT with rfl | rfl | rfl | rfl | rfl <;> rfl
  | _ => exact kit_T (G := G) hT k r
def isTF (T : String) : D → Option D := fun d => if isData d = true then some (.bl (isT T d)) else none
theorem sn_isT {T : String} {ta : TE} {a : RE} (hT : T ∈ ["int", "bool", "str", "list", "tuple"]) (ha : SnE K ta a) : SnE K (tCB (rIsi K) (tCons ta (tCons (tC (.ty T)) tNil))) (mUn (isTF T) a) := by
  refine fun ρ μ w μ' h => sn_un (r := fun x H Q => rIsi K [x, .ty T] H Q) ?_ ha ρ μ w μ' h
  intro a d h P as ρ μ σ G H x R rx Q q
  unfold isTF at h
  split at h
  · cases h
    rename_i k
    exact ⟨x, _, _, _, _, rfl, .ty T, tyx_ofT R.sub k rx, kit_TT hT k rx, q _ G H .refl R rfl⟩
  · cases h
structure IsC (K : PySem.W.Frag) (c : Str) (cs : List Str) : Prop where
  bt : ∀ T : String, T ∈ ["NoneType", "bool", "int", "str", "tuple", "list"] → PySem.W.kitOne K (.type T) (.ref (He.ga K c)) = some false
  own : ∀ x ∈ cs, PySem.W.kitOne K (.ref (He.ga K x)) (.ref (He.ga K c)) = some (decide (x = c))
def isSeqF : D → Option D := fun d => if isData d = true then some (.bl (isSeqD d)) else none
theorem kit_seqT {G H : Hp} {d : D} {v : V} (k : isData d = true) (r : RepT K G H d v) : PySem.W.kitAny K (tyVal K d) [.type "list", .type "tuple"] = some (isSeqD d) := by
  cases d with
  | lst xs => rfl
  | _ => exact isSeq_kit (G := G) k r
theorem sn_isSeq {ta : TE} {a : RE} (ha : SnE K ta a) : SnE K (tIsSeq K ta) (mUn isSeqF a) := fun ρ μ w μ' h => by
  unfold mUn at h
  split at h
  · rename_i x μ1 e1
    split at h
    · rename_i d v1
      unfold isSeqF at h
      split at h
      · rename_i e3
        split at e3
        · cases e3
          rename_i k
          cases h
          exact fun P as σ G H R Q q => ha _ _ _ _ e1 P as σ G H R _ fun x' as1 G1 H1 n1 R1 r1 =>
            isSeq_core R1 (fun p o hp => tyx_upd (tyx_ofT R1.sub k (view_rep R1 r1 v1)) hp) (kit_seqT k (view_rep R1 r1 v1)) fun G2 H2 n2 R2 => q _ as1 G2 H2 (n1.trans n2) R2 rfl
        · cases e3
      · cases h
    · cases h
  · cases h
def splitF : D → D → Option D
  | .str x, .str y => if TL.tl y ≠ [] ∧ y.cps.all (· < 256) = true then some (.lst ((Txt.split x y).map D.str)) else none
  | _, _ => none
theorem sn_split {ta tb : TE} {a b : RE} (ha : SnE K ta a) (hb : SnE K tb b) : SnE K (tM1 rSplit ta tb) (mOp splitF a b) := fun ρ μ w μ' h => by
  unfold mOp at h
  split at h
  · rename_i x μ1 e1
    split at h
    · rename_i y μ2 e2
      split at h
      · rename_i d e v1 v2
        split at h
        · rename_i r e3
          cases h
          unfold splitF at e3
          split at e3
          · split at e3
            · cases e3
              rename_i hc
              cases x with
              | loc j => unfold view at v1; dsimp only at v1; split at v1 <;> cases v1
              | val x =>
                cases y with
                | loc j => unfold view at v2; dsimp only at v2; split at v2 <;> cases v2
                | val y =>
                  cases v1
                  cases v2
                  exact ev_split (ha _ _ _ _ e1) (hb _ _ _ _ e2) hc.1 hc.2
            · cases e3
          · cases e3
        · cases h
      · cases h
    · cases h
  · cases h
def mJoin (a b : RE) : RE := fun ρ μ => match a ρ μ with
  | some (.val (.str y), μ1) => match b ρ μ1 with
    | some (x, μ2) => match seqOf μ2 x with
      | some xs => match sOf xs with
        | some ps => if (ps.map (·.length)).sum + ps.length * y.length ≤ SB then some (.val (.str (Txt.join y ps)), μ2) else none
        | none => none
      | none => none
    | none => none
  | _ => none
theorem sn_join {ta tb : TE} {a b : RE} (ha : SnE K ta a) (hb : SnE K tb b) : SnE K (tM1 (rJoin K) ta tb) (mJoin a b) := fun ρ μ w μ' h => by
  unfold mJoin at h
  split at h
  · rename_i y μ1 e1
    split at h
    · rename_i x μ2 e2
      split at h
      · rename_i xs hs
        split at h
        · rename_i ps hp
          split at h
          · cases h
            rw [sOf_eq hp] at hs
            exact ev_join (ha _ _ _ _ e1) (hb _ _ _ _ e2) (seqOf_W hs) ‹_›
          · cases h
        · cases h
      · cases h
    · cases h
  · cases h
theorem view_lst {μ : Mu} {j : Nat} {d : D} (h : view μ (.loc j) = some d) : ∃ ys, lstAt j ys μ := by
  unfold view at h
  dsimp only at h
  split at h
  · exact ⟨_, .inl ‹_›⟩
  · exact ⟨_, .inr ‹_›⟩
  · cases h
def mAppend (a : RE) (r : RA) : RE := fun ρ μ => match a ρ μ with
  | some (.loc j, μ1) => match view μ1 (.loc j), dat r ρ μ1 with
    | some _, some ([d], μ2) => match μ2[j]? with
      | some (.lst xs) => if xs.length < LB then some (.val .non, μ2.set j (.lst (xs ++ [d]))) else none
      | _ => none
    | _, _ => none
  | _ => none
theorem sn_append {ta : TE} {tr : TA} {a : RE} {r : RA} (ha : SnE K ta a) (hr : SnA K tr r) : SnE K (tBM K "list" rAppend ta tr) (mAppend a r) := fun ρ μ w μ' h => by
  unfold mAppend at h
  split at h
  · rename_i j μ1 e1
    split at h
    · rename_i _ d μ2 v1 e2
      split at h
      · rename_i xs hm
        split at h
        · cases h
          exact ev_append (ha _ _ _ _ e1) (dat_ok hr e2) (view_lst v1) hm ‹_›
        · cases h
      · cases h
    · cases h
  · cases h
def mPop (a : RE) : RE := fun ρ μ => match a ρ μ with
  | some (.loc j, μ1) => match μ1[j]? with
    | some (.lst xs) => match xs.getLast? with
      | some d => some (.val d, μ1.set j (.lst xs.dropLast))
      | none => none
    | _ => none
  | _ => none
theorem sn_pop {ta : TE} {a : RE} (ha : SnE K ta a) : SnE K (tBM0 K "list" rPop ta) (mPop a) := fun ρ μ w μ' h => by
  unfold mPop at h
  split at h
  · rename_i j μ1 e1
    split at h
    · rename_i xs hm
      split at h
      · rename_i d hd
        cases h
        obtain ⟨l, e⟩ := List.getLast?_eq_some_iff.mp hd
        subst e
        rw [List.dropLast_concat]
        exact ev_pop (ha _ _ _ _ e1) hm
      · cases h
    · cases h
  · cases h
end
end DX
namespace DX
open PySem PySem.Spec PyProof.Rows L2 DK
section
variable {K : PySem.W.Frag} [HasW K]
abbrev RGs := List D → Env' → Option Env'
def SnGs (K : PySem.W.Frag) [HasW K] (g : TGs) (m : RGs) : Prop := ∀ ds ρ ρ', m ds ρ = some ρ' → EvGs K g ds ρ ρ'
def hName (i : Nat) : RG := fun w ρ => some (ρ.set i (some w))
theorem sn_gName {i : Nat} : SnG K (gName i) (hName i) := fun w ρ ρ' h => by cases h; exact eg_name
def hNil : RGs := fun ds ρ => match ds with
  | [] => some ρ
  | _ => none
theorem sn_gNil : SnGs K gNil hNil := fun ds ρ ρ' h => by
  unfold hNil at h
  split at h
  · cases h; exact egs_nil
  · cases h
def hCons (g : RG) (r : RGs) : RGs := fun ds ρ => match ds with
  | d :: t => match g (.val d) ρ with
    | some ρ1 => r t ρ1
    | none => none
  | [] => none
theorem sn_gCons {g : TG} {gs : TGs} {m : RG} {ms : RGs} (hg : SnG K g m) (hs : SnGs K gs ms) : SnGs K (gCons g gs) (hCons m ms) := fun ds ρ ρ' h => by
  unfold hCons at h
  split at h
  · split at h
    · exact egs_cons (hg _ _ _ ‹_›) (hs _ _ _ h)
    · cases h
  · cases h
def hTup (n : Nat) (r : RGs) : RG := fun w ρ => match w with
  | .val (.tup ds) => if ds.length = n then r ds ρ else none
  | _ => none
theorem sn_gTup {n : Nat} {gs : TGs} {ms : RGs} (hs : SnGs K gs ms) : SnG K (gTup K n gs) (hTup n ms) := fun w ρ ρ' h => by
  unfold hTup at h
  split at h
  · split at h
    · exact eg_tup ‹_› (hs _ _ _ h)
    · cases h
  · cases h
def SnGc (K : PySem.W.Frag) [HasW K] (g : TG) (m : RG) (vs : List Nat) : Prop := ∀ d ρ ρ', m (.val d) ρ = some ρ' → EvGc K g d vs ρ ρ'
def SnGcs (K : PySem.W.Frag) [HasW K] (g : TGs) (m : RGs) (vs : List Nat) : Prop := ∀ ds ρ ρ', m ds ρ = some ρ' → EvGcs K g ds vs ρ ρ'
theorem sn_cName {i : Nat} {vs : List Nat} (h : i ∈ vs := by decide) : SnGc K (gName i) (hName i) vs := fun w ρ ρ' e => by cases e; exact egc_name h
theorem sn_cNil {vs : List Nat} : SnGcs K gNil hNil vs := fun ds ρ ρ' h => by
  unfold hNil at h
  split at h
  · cases h; exact egcs_nil
  · cases h
theorem sn_cCons {g : TG} {gs : TGs} {m : RG} {ms : RGs} {vs : List Nat} (hg : SnGc K g m vs) (hs : SnGcs K gs ms vs) : SnGcs K (gCons g gs) (hCons m ms) vs := fun ds ρ ρ' h => by
  unfold hCons at h
  split at h
  · split at h
    · exact egcs_cons (hg _ _ _ ‹_›) (hs _ _ _ h)
    · cases h
  · cases h
theorem sn_cTup {n : Nat} {gs : TGs} {ms : RGs} {vs : List Nat} (hs : SnGcs K gs ms vs) : SnGc K (gTup K n gs) (hTup n ms) vs := fun w ρ ρ' h => by
  unfold hTup at h
  split at h
  · rename_i ds e
    cases e
    split at h
    · exact egc_tup ‹_› (hs _ _ _ h)
    · cases h
  · cases h
def mNext : RS := fun ρ μ => some (.nx ρ μ)
theorem sn_next : SnS K tNext mNext := fun ρ μ o h => by cases h; exact ex_next
def mCont : RS := fun ρ μ => some (.ct ρ μ)
theorem sn_cont : SnS K tCont mCont := fun ρ μ o h => by cases h; exact ex_cont
def mBreak : RS := fun ρ μ => some (.bk ρ μ)
def mNever : RS := fun _ _ => none
theorem sn_never {t : TS} : SnS K t mNever := fun ρ μ o h => by cases h
def mSeq (a b : RS) : RS := fun ρ μ => match a ρ μ with
  | some (.nx ρ1 μ1) => b ρ1 μ1
  | r => r
theorem sn_seq {t u : TS} {a b : RS} (ha : SnS K t a) (hb : SnS K u b) : SnS K (tSeq t u) (mSeq a b) := fun ρ μ o h => by
  unfold mSeq at h
  split at h
  · exact ex_seq (ha _ _ _ ‹_›) (hb _ _ _ h)
  · rename_i hn
    cases o with
    | nx ρ1 μ1 => exact absurd h (hn ρ1 μ1)
    | rt w μ1 => exact ex_seqR (ha _ _ _ h)
    | bk ρ1 μ1 => exact ex_seqB (ha _ _ _ h)
    | ct ρ1 μ1 => exact ex_seqC (ha _ _ _ h)
def mRet (a : RE) : RS := fun ρ μ => match a ρ μ with
  | some (w, μ1) => some (.rt w μ1)
  | none => none
theorem sn_ret {ta : TE} {a : RE} (ha : SnE K ta a) : SnS K (tRet ta) (mRet a) := fun ρ μ o h => by
  unfold mRet at h
  split at h
  · cases h; exact ex_ret (ha _ _ _ _ ‹_›)
  · cases h
def mRetN : RS := fun ρ μ => some (.rt (.val .non) μ)
def mDrop (a : RE) : RS := fun ρ μ => match a ρ μ with
  | some (_, μ1) => some (.nx ρ μ1)
  | none => none
theorem sn_drop {ta : TE} {a : RE} (ha : SnE K ta a) : SnS K (tDrop ta) (mDrop a) := fun ρ μ o h => by
  unfold mDrop at h
  split at h
  · cases h; exact ex_drop (ha _ _ _ _ ‹_›)
  · cases h
def mAsg (a : RE) (g : RG) : RS := fun ρ μ => match a ρ μ with
  | some (w, μ1) => match g w ρ with
    | some ρ1 => some (.nx ρ1 μ1)
    | none => none
  | none => none
theorem sn_asg {ta : TE} {g : TG} {a : RE} {m : RG} (ha : SnE K ta a) (hg : SnG K g m) : SnS K (tAsg ta g) (mAsg a m) := fun ρ μ o h => by
  unfold mAsg at h
  split at h
  · split at h
    · cases h; exact ex_asg (ha _ _ _ _ ‹_›) (hg _ _ _ ‹_›)
    · cases h
  · cases h
def mIfS (t : RB) (a b : RS) : RS := fun ρ μ => match t ρ μ with
  | some (true, μ1) => a ρ μ1
  | some (false, μ1) => b ρ μ1
  | none => none
theorem sn_ifS {t : TT} {ts us : TS} {m : RB} {a b : RS} (ht : SnB K t m) (ha : SnS K ts a) (hb : SnS K us b) : SnS K (tIfS t ts us) (mIfS m a b) := fun ρ μ o h => by
  unfold mIfS at h
  split at h
  · exact ex_if (ht _ _ _ _ ‹_›) (fun _ => ha _ _ _ h) fun z => by cases z
  · exact ex_if (ht _ _ _ _ ‹_›) (fun z => by cases z) fun _ => hb _ _ _ h
  · cases h
def mPar (i j : Nat) (r : RA) : RS := fun ρ μ => match r ρ μ with
  | some ([v, w], μ1) => some (.nx ((ρ.set i (some v)).set j (some w)) μ1)
  | _ => none
theorem sn_par {i j : Nat} {tr : TA} {r : RA} (hr : SnA K tr r) : SnS K (tPar i j tr) (mPar i j r) := fun ρ μ o h => by
  unfold mPar at h
  split at h
  · cases h; exact ex_par (hr _ _ _ _ ‹_›)
  · cases h
def mAug (i : Nat) (a : RE) : RS := fun ρ μ => match ρ[i]?, a ρ μ with
  | some (some (.val (.int m))), some (.val (.int n), μ1) => some (.nx (ρ.set i (some (.val (.int (m + n))))) μ1)
  | _, _ => none
theorem sn_aug {i : Nat} {ta : TE} {a : RE} (ha : SnE K ta a) : SnS K (tAug i ta rAug) (mAug i a) := fun ρ μ o h => by
  unfold mAug at h
  split at h
  · cases h; exact ex_aug ‹_› (ha _ _ _ _ ‹_›)
  · cases h
def mSetI (e a b : RE) : RS := fun ρ μ => match e ρ μ with
  | some (w, μ1) => match a ρ μ1 with
    | some (.loc j, μ2) => match b ρ μ2 with
      | some (.val (.int n), μ3) => match μ3[j]? with
        | some (.lst xs) => match ixN xs.length n with
          | some k => match w with
            | .val d => some (.nx ρ (μ3.set j (.lst (xs.set k d))))
            | _ => none
          | none => none
        | some (.lsW ws) => match ixN ws.length n with
          | some k => if w.below μ3.length = true then some (.nx ρ (μ3.set j (.lsW (ws.set k w)))) else none
          | none => none
        | _ => none
      | _ => none
    | _ => none
  | none => none
theorem sn_setI {te ta tb : TE} {e a b : RE} (he : SnE K te e) (ha : SnE K ta a) (hb : SnE K tb b) : SnS K (tAsg te (gSub ta tb rSetL)) (mSetI e a b) := fun ρ μ o h => by
  unfold mSetI at h
  split at h
  · rename_i w μ1 e1
    split at h
    · rename_i j μ2 e2
      split at h
      · rename_i n μ3 e3
        split at h
        · rename_i xs hm
          split at h
          · rename_i k hk
            split at h
            · cases h; exact ex_setItem (he _ _ _ _ e1) (ha _ _ _ _ e2) (hb _ _ _ _ e3) hm hk
            · cases h
          · cases h
        · rename_i ws hm
          split at h
          · rename_i k hk
            split at h
            · cases h; exact ex_setW (he _ _ _ _ e1) (ha _ _ _ _ e2) (hb _ _ _ _ e3) hm hk ‹_›
            · cases h
          · cases h
        · cases h
      · cases h
    · cases h
  · cases h
mutual
def beqD : D → D → Bool
  | .non, .non => true
  | .bl a, .bl b => a == b
  | .int a, .int b => a == b
  | .str a, .str b => decide (a = b)
  | .tup a, .tup b => beqL a b
  | .lst a, .lst b => beqL a b
  | .obj c ns a, .obj d ms b => decide (c = d) && decide (ns = ms) && beqL a b
  | .ty a, .ty b => a == b
  | .cls a, .cls b => decide (a = b)
  | .scr a, .scr b => decide (a = b)
  | _, _ => false
def beqL : List D → List D → Bool
  | [], [] => true
  | a :: as, b :: bs => beqD a b && beqL as bs
  | _, _ => false
end
mutual
theorem beqD_eq : ∀ a b : D, beqD a b = true → a = b
  | .non, b, h => by cases b <;> first | rfl | cases h
  | .bl a, b, h => by cases b <;> first | (simp only [beqD, beq_iff_eq] at h; rw [h]) | cases h
  | .int a, b, h => by cases b <;> first | (simp only [beqD, beq_iff_eq] at h; rw [h]) | cases h
  | .str a, b, h => by cases b <;> first | (simp only [beqD, decide_eq_true_eq] at h; rw [h]) | cases h
  | .tup a, b, h => by cases b <;> first | (rw [beqD] at h; rw [beqL_eq _ _ h]) | cases h
  | .lst a, b, h => by cases b <;> first | (rw [beqD] at h; rw [beqL_eq _ _ h]) | cases h
  | .obj c ns a, b, h => by
    cases b <;> try (cases h; done)
    rw [beqD, Bool.and_eq_true, Bool.and_eq_true] at h
    rw [of_decide_eq_true h.1.1, of_decide_eq_true h.1.2, beqL_eq _ _ h.2]
  | .ty a, b, h => by cases b <;> first | (simp only [beqD, beq_iff_eq] at h; rw [h]) | cases h
  | .cls a, b, h => by cases b <;> first | (simp only [beqD, decide_eq_true_eq] at h; rw [h]) | cases h
  | .scr a, b, h => by cases b <;> first | (simp only [beqD, decide_eq_true_eq] at h; rw [h]) | cases h
theorem beqL_eq : ∀ a b : List D, beqL a b = true → a = b
  | [], b, h => by cases b <;> first | rfl | cases h
  | a :: as, b, h => by
    cases b with
    | nil => cases h
    | cons b bs =>
      rw [beqL, Bool.and_eq_true] at h
      rw [beqD_eq _ _ h.1, beqL_eq _ _ h.2]
end
def standB (g : Option (Nat × List D)) (μ : Mu) : Bool := match g with
  | none => true
  | some (j, xs) => match μ[j]? with
    | some (.lst ys) => beqL ys xs
    | some (.frz ys) => beqL ys xs
    | _ => false
def stand (g : Option (Nat × List D)) : Mu → Prop := match g with
  | none => CT
  | some (j, xs) => lstAt j xs
theorem standB_ok {g : Option (Nat × List D)} {μ : Mu} (h : standB g μ = true) : stand g μ := by
  cases g with
  | none => trivial
  | some p =>
    obtain ⟨j, xs⟩ := p
    unfold standB at h
    dsimp only at h
    split at h
    · rename_i e; rw [beqL_eq _ _ h] at e; exact .inl e
    · rename_i e; rw [beqL_eq _ _ h] at e; exact .inr e
    · cases h
def SnI (K : PySem.W.Frag) [HasW K] (wi : TI) (m : RI) : Prop := ∀ ρ μ xs g μ', m ρ μ = some (xs, g, μ') → EvI K wi ρ μ xs μ' (stand g)
def guardOf (w : W) (xs : List D) : Option (Nat × List D) := match w with
  | .val _ => none
  | .loc j => some (j, xs)
theorem guard_seq {w : W} {xs : List D} : stand (guardOf w xs) = seqC w xs := by cases w <;> rfl
def kSeq (a : RE) : RI := fun ρ μ => match a ρ μ with
  | some (w, μ1) => match seqOf μ1 w with
    | some xs => some (xs, guardOf w xs, μ1)
    | none => none
  | none => none
theorem sn_iSeq {ta : TE} {a : RE} (ha : SnE K ta a) : SnI K (iSeq K ta) (kSeq a) := fun ρ μ xs g μ' h => by
  unfold kSeq at h
  split at h
  · split at h
    · cases h
      rw [guard_seq]
      exact ei_seq (ha _ _ _ _ ‹_›) (seqOf_W ‹_›)
    · cases h
  · cases h
def kEnum (r : RA) : RI := fun ρ μ => match r ρ μ with
  | some ([w], μ1) => match seqOf μ1 w with
    | some xs => some (enumD 0 xs, guardOf w xs, μ1)
    | none => none
  | _ => none
theorem sn_iEnum {tr : TA} {r : RA} (hr : SnA K tr r) : SnI K (iEnumA K tr) (kEnum r) := fun ρ μ xs g μ' h => by
  unfold kEnum at h
  split at h
  · split at h
    · cases h
      rw [guard_seq]
      exact ei_enum (hr _ _ _ _ ‹_›) (seqOf_W ‹_›)
    · cases h
  · cases h
def rngB (n : Int) : Bool := Nat.ble n.natAbs 1000000000
theorem rngB_ok {n : Int} (h : rngB n = true) : -(2 ^ 62) ≤ n ∧ n < 2 ^ 62 := by
  have h1 : n.natAbs ≤ 1000000000 := Nat.le_of_ble_eq_true h
  have h2 : (2 : Int) ^ 62 = 4611686018427387904 := by decide +kernel
  rw [h2]
  omega
def kRng1 (r : RA) : RI := fun ρ μ => match dat r ρ μ with
  | some ([.int n], μ1) => if rngB n = true then some (rangeD 0 n.toNat, none, μ1) else none
  | _ => none
theorem sn_iRng1 {tr : TA} {r : RA} (hr : SnA K tr r) : SnI K (iRng1 tr) (kRng1 r) := fun ρ μ xs g μ' h => by
  unfold kRng1 at h
  split at h
  · split at h
    · cases h
      have hc := rngB_ok ‹rngB _ = true›
      exact ei_range1 (dat_ok hr ‹_›) hc.1 hc.2
    · cases h
  · cases h
def kStr (a : RE) : RI := fun ρ μ => match a ρ μ with
  | some (.val (.str s), μ1) => some (signs s, none, μ1)
  | _ => none
theorem sn_iStr {ta : TE} {a : RE} (ha : SnE K ta a) : SnI K (iStr ta) (kStr a) := fun ρ μ xs g μ' h => by
  unfold kStr at h
  split at h
  · cases h; exact ei_str (ha _ _ _ _ ‹_›)
  · cases h
def loopR (g : RG) (b : RS) (c : Option (Nat × List D)) : List D → Env' → Mu → Option Out
  | [], ρ, μ => some (.nx ρ μ)
  | x :: xs, ρ, μ => match g (.val x) ρ with
    | some ρ1 => match b ρ1 μ with
      | some (.nx ρ2 μ2) => if standB c μ2 = true then loopR g b c xs ρ2 μ2 else none
      | some (.ct ρ2 μ2) => if standB c μ2 = true then loopR g b c xs ρ2 μ2 else none
      | some (.bk ρ2 μ2) => some (.nx ρ2 μ2)
      | some (.rt w μ2) => some (.rt w μ2)
      | none => none
    | none => none
theorem loopR_ok {g : TG} {tb : TS} {m : RG} {b : RS} {c : Option (Nat × List D)} (hg : SnG K g m) (hb : SnS K tb b) : ∀ {xs : List D} {ρ : Env'} {μ : Mu} {o : Out}, loopR m b c xs ρ μ = some o → Lp K g tb (stand c) xs ρ μ o
  | [], ρ, μ, o, h => by cases h; exact .nil
  | x :: xs, ρ, μ, o, h => by
    unfold loopR at h
    split at h
    · rename_i ρ1 e1
      have h1 := hg _ _ _ e1
      split at h
      · split at h
        · exact .next h1 (hb _ _ _ ‹_›) (standB_ok ‹_›) (loopR_ok hg hb h)
        · cases h
      · split at h
        · exact .cont h1 (hb _ _ _ ‹_›) (standB_ok ‹_›) (loopR_ok hg hb h)
        · cases h
      · cases h; exact .brk h1 (hb _ _ _ ‹_›)
      · cases h; exact .ret h1 (hb _ _ _ ‹_›)
      · cases h
    · cases h
def mFor (i : RI) (g : RG) (b : RS) : RS := fun ρ μ => match i ρ μ with
  | some (xs, c, μ1) => loopR g b c xs ρ μ1
  | none => none
theorem sn_for {wi : TI} {g : TG} {tb : TS} {i : RI} {m : RG} {b : RS} (hi : SnI K wi i) (hg : SnG K g m) (hb : SnS K tb b) : SnS K (tFor wi g tb) (mFor i m b) := fun ρ μ o h => by
  unfold mFor at h
  split at h
  · exact ex_for (hi _ _ _ _ _ ‹_›) (loopR_ok hg hb h)
  · cases h
def whileR (t : RB) (b : RS) : Nat → Env' → Mu → Option Out
  | 0, _, _ => none
  | n + 1, ρ, μ => match t ρ μ with
    | some (false, μ1) => some (.nx ρ μ1)
    | some (true, μ1) => match b ρ μ1 with
      | some (.nx ρ2 μ2) => whileR t b n ρ2 μ2
      | some (.ct ρ2 μ2) => whileR t b n ρ2 μ2
      | some (.bk ρ2 μ2) => some (.nx ρ2 μ2)
      | some (.rt w μ2) => some (.rt w μ2)
      | none => none
    | none => none
theorem whileR_ok {c : TT} {tb : TS} {t : RB} {b : RS} (ht : SnB K c t) (hb : SnS K tb b) : ∀ {n : Nat} {ρ : Env'} {μ : Mu} {o : Out}, whileR t b n ρ μ = some o → Wh K c tb n ρ μ o
  | 0, _, _, _, h => by cases h
  | n + 1, ρ, μ, o, h => by
    unfold whileR at h
    split at h
    · cases h; exact .stop (ht _ _ _ _ ‹_›)
    · split at h
      · exact .next (ht _ _ _ _ ‹_›) (hb _ _ _ ‹_›) (whileR_ok ht hb h)
      · exact .cont (ht _ _ _ _ ‹_›) (hb _ _ _ ‹_›) (whileR_ok ht hb h)
      · cases h; exact .brk (ht _ _ _ _ ‹_›) (hb _ _ _ ‹_›)
      · cases h; exact .ret (ht _ _ _ _ ‹_›) (hb _ _ _ ‹_›)
      · cases h
    · cases h
def fuel : Nat := 100000
def mWhile (t : RB) (b : RS) : RS := fun ρ μ => whileR t b fuel ρ μ
theorem sn_while {c : TT} {tb : TS} {t : RB} {b : RS} (ht : SnB K c t) (hb : SnS K tb b) : SnS K (tWhile c tb) (mWhile t b) := fun ρ μ o h => ex_while (whileR_ok ht hb h)
def lcR (g : RG) (t : RB) (e : RE) (c : Option (Nat × List D)) (ρ : Env') : List D → Mu → Option (List D × Mu)
  | [], μ => some ([], μ)
  | x :: xs, μ => match g (.val x) ρ with
    | some ρ1 => match t ρ1 μ with
      | some (false, μ1) => if standB c μ1 = true then lcR g t e c ρ xs μ1 else none
      | some (true, μ1) => match dat1 e ρ1 μ1 with
        | some (y, μ2) => if standB c μ2 = true then match lcR g t e c ρ xs μ2 with
          | some (ys, μ3) => some (y :: ys, μ3)
          | none => none
          else none
        | none => none
      | none => none
    | none => none
theorem lcR_ok {g : TG} {tt : TT} {te : TE} {m : RG} {t : RB} {e : RE} {c : Option (Nat × List D)} {vs : List Nat} {ρ : Env'} (hg : SnGc K g m vs) (ht : SnB K tt t) (he : SnE K te e) : ∀ {xs ys : List D} {μ μ' : Mu}, lcR m t e c ρ xs μ = some (ys, μ') → Lc K g tt te vs (stand c) ρ xs μ ys μ'
  | [], ys, μ, μ', h => by cases h; exact .nil
  | x :: xs, ys, μ, μ', h => by
    unfold lcR at h
    split at h
    · rename_i ρ1 e1
      have h1 := hg _ _ _ e1
      split at h
      · split at h
        · exact .skip h1 (ht _ _ _ _ ‹_›) (standB_ok ‹_›) (lcR_ok hg ht he h)
        · cases h
      · split at h
        · split at h
          · split at h
            · cases h
              exact .take h1 (ht _ _ _ _ ‹_›) (dat1_ok he ‹_›) (standB_ok ‹_›) (lcR_ok hg ht he ‹_›)
            · cases h
          · cases h
        · cases h
      · cases h
    · cases h
def mLc (i : RI) (g : RG) (t : RB) (e : RE) (vs : List Nat) : RE := fun ρ μ => match i ρ μ with
  | some (xs, c, μ1) => if xs.length ≤ LB then match lcR g t e c (wipeE ρ vs) xs μ1 with
    | some (ys, μ2) => some (.val (.lst ys), μ2)
    | none => none
    else none
  | none => none
theorem sn_lc {wi : TI} {g : TG} {tt : TT} {te : TE} {i : RI} {m : RG} {t : RB} {e : RE} {vs : List Nat} (hi : SnI K wi i) (hg : SnGc K g m vs) (ht : SnB K tt t) (he : SnE K te e) : SnE K (tLc wi g tt te vs) (mLc i m t e vs) := fun ρ μ w μ' h => by
  unfold mLc at h
  split at h
  · split at h
    · split at h
      · cases h; exact ev_lc (hi _ _ _ _ _ ‹_›) (lcR_ok hg ht he ‹_›) ‹_›
      · cases h
    · cases h
  · cases h
end
end DX
namespace DX
open PySem PySem.Spec PyProof.Rows L2 DK
abbrev FX := List W → Mu → Option (W × Mu)
def FX.phi (f : FX) : Phi := fun ws μ w μ' => f ws μ = some (w, μ')
abbrev spF (K : PySem.W.Frag) [HasW K] (f : FX) : Sp := spD K f.phi
def locTop : List W → Nat
  | [] => 0
  | .val _ :: r => locTop r
  | .loc j :: r => max (j + 1) (locTop r)
def preN (ws : List W) (μ : Mu) : Nat := if locTop ws ≤ μ.length ∧ (μ.take (locTop ws)).all (MO.below (locTop ws)) = true then locTop ws else μ.length
def callX (f : FX) (ws : List W) (μ : Mu) : Option (W × Mu) := match f ws (μ.take (preN ws μ)) with
  | some (w, μ') => if μ'.length = preN ws μ then some (w, μ' ++ μ.drop (preN ws μ)) else f ws μ
  | none => none
section
variable {K : PySem.W.Frag} [HasW K] {G H : Hp} {as : List Addr} {P : Addr → Prop} {ρ : Env'} {μ : Mu} {σ : L2.St}
def Rest (P : Addr → Prop) (as : List Addr) (G : Hp) (n : Nat) : Addr → Prop := fun a => P a ∨ (a ∈ as.drop n ∧ G a = none)
theorem not_both {α : Type} {l : List α} (nd : l.Nodup) {n : Nat} {a : α} (h : a ∈ l.drop n) : a ∉ l.take n := fun k => by
  have e := List.take_append_drop n l
  rw [← e] at nd
  exact (List.nodup_append.mp nd).2.2 a k a h rfl
theorem front (R : Rl K G H as P ρ μ σ) {n : Nat} (hn : n ≤ μ.length) (hb : ∀ m ∈ μ.take n, MO.below n m = true) : Rl K G H (as.take n) (Rest P as G n) [] (μ.take n) [] := by
  have hl : (μ.take n).length = n := by rw [List.length_take]; omega
  have R0 := R.drop (μ0 := μ.take n) (t := μ.drop n) (List.take_append_drop n μ).symm (fun m hm => by rw [hl]; exact hb m hm)
  rw [hl] at R0
  refine ⟨R0.sub, fun a ha => ?_, R0.nd, R0.len, R0.mu, R0.wf, R0.sz, R0.env, R.tb.mono (Same.refl _) R.tb.1 fun a t0 t1 t2 _ => ⟨fun z => z.elim t0 fun z => t2 (List.mem_of_mem_drop z.1), t1, fun z => t2 (List.mem_of_mem_take z), rfl⟩⟩
  rcases ha with ha | ⟨ha, hg⟩
  · exact R0.pro a ha
  · exact ⟨hg, R.here (List.mem_of_mem_drop ha), not_both R.nd ha⟩
theorem preN_ok (R : Rl K G H as P ρ μ σ) (ws : List W) : preN ws μ ≤ μ.length ∧ ∀ m ∈ μ.take (preN ws μ), MO.below (preN ws μ) m = true := by
  unfold preN
  split
  · rename_i h
    exact ⟨h.1, List.all_eq_true.mp h.2⟩
  · refine ⟨Nat.le_refl _, fun m hm => R.wf m (List.mem_of_mem_take hm)⟩
theorem locTop_rep {n : Nat} : ∀ {ws : List W} {vs : List V}, locTop ws ≤ n → RepWs K G as ws vs → RepWs K G (as.take n) ws vs
  | [], _, _, h => h
  | .val d :: ws, _, hn, ⟨v, r, e, h1, h2⟩ => ⟨v, r, e, h1, locTop_rep hn h2⟩
  | .loc j :: ws, _, hn, ⟨v, r, e, ⟨a, q1, q2⟩, h2⟩ => by
    have hj : j + 1 ≤ n := Nat.le_trans (Nat.le_max_left _ _) hn
    exact ⟨v, r, e, ⟨a, by rw [List.getElem?_take_of_lt (by omega)]; exact q1, q2⟩, locTop_rep (Nat.le_trans (Nat.le_max_right _ _) hn) h2⟩
theorem preN_rep (R : Rl K G H as P ρ μ σ) {ws : List W} {vs : List V} (h : RepWs K G as ws vs) : RepWs K G (as.take (preN ws μ)) ws vs := by
  unfold preN
  split
  · exact locTop_rep (Nat.le_refl _) h
  · rw [← R.len, List.take_length]
    exact h
theorem back (R : Rl K G H as P ρ μ σ) {n : Nat} (hn : n ≤ μ.length) {as' : List Addr} {G' H' : Hp} {μ' : Mu} (nx : Nx (Rest P as G n) (as.take n) G H as' G' H') (R' : Rl K G' H' as' (Rest P as G n) [] μ' []) (hl : μ'.length = n) :
    as' = as.take n ∧ Nx P as G H as G' H' ∧ Rl K G' H' as P ρ (μ' ++ μ.drop n) σ := by
  have la : (as.take n).length = n := by rw [List.length_take, R.len]; omega
  have ea : as' = as.take n := by
    obtain ⟨t, et⟩ := nx.pre
    have h1 := R'.len
    rw [et, List.length_append, la, hl] at h1
    have : t = [] := List.eq_nil_of_length_eq_zero (by omega)
    rw [et, this, List.append_nil]
  have pre : ∃ t, as = as' ++ t := ⟨as.drop n, by rw [ea, List.take_append_drop]⟩
  have hP : ∀ a, P a → Rest P as G n a := fun a h => .inl h
  refine ⟨ea, ⟨⟨[], by simp⟩, nx.gr, fun a ha => nx.kp a (hP a ha)⟩, ⟨R'.sub, fun a ha => ?_, R.nd, ?_, fun j a m h1 h2 => ?_, fun m hm => ?_, R.sz, fun i w hi => ?_, R'.tb.1, fun q hq => let z := R'.tb.2 q hq; ⟨fun y => z.1 (.inl y), z.2.1, (R.tb.2 q hq).2.2.1, z.2.2.2⟩⟩⟩
  · obtain ⟨h1, h2, _⟩ := R'.pro a (hP a ha)
    exact ⟨h1, h2, (R.pro a ha).2.2⟩
  · rw [List.length_append, hl, List.length_drop, R.len]; omega
  · by_cases hj : j < n
    · rw [List.getElem?_append_left (by omega)] at h2
      have q := R'.mu j a m (by rw [ea, List.getElem?_take_of_lt hj]; exact h1) h2
      exact q.mono (Same.refl _) id rfl pre
    · rw [List.getElem?_append_right (by omega), List.getElem?_drop, hl, show n + (j - n) = j by omega] at h2
      have ha : a ∈ as.drop n := by
        refine List.mem_of_getElem? (i := j - n) ?_
        rw [List.getElem?_drop, show n + (j - n) = j by omega]
        exact h1
      have q := R.mu j a m h1 h2
      refine q.mono nx.gr (fun g => (R'.pro a (.inr ⟨ha, g⟩)).1) ?_ ⟨[], by simp⟩
      cases hg : G a with
      | none => exact nx.kp a (.inr ⟨ha, hg⟩)
      | some o => rw [R'.sub _ _ (nx.gr _ _ hg), R.sub _ _ hg]
  · have ht : (μ' ++ μ.drop n).length = μ.length := by rw [List.length_append, hl, List.length_drop]; omega
    rw [ht]
    rcases List.mem_append.mp hm with h | h
    · exact below_mono hn (by have := R'.wf m h; rwa [hl] at this)
    · exact R.wf m (List.mem_of_mem_drop h)
  · obtain ⟨v, h1, h2⟩ := R.env i w hi
    exact ⟨v, h1, h2.mono nx.gr ⟨[], by simp⟩⟩
theorem call_fx {f : FX} {ws : List W} {vs : List V} {w : W} {μ1 : Mu} {Q : VK} {E : XK} (R : Rl K G H as P ρ μ σ) (r : RepWs K G as ws vs) (h : callX f ws μ = some (w, μ1))
    (q : ∀ v as' G' H', Nx P as G H as' G' H' → Rl K G' H' as' P ρ μ1 σ → RepW K G' as' w v → Q v H') : spF K f vs H Q E := by
  unfold callX at h
  split at h
  · rename_i w' μ' e
    obtain ⟨hn, hb⟩ := preN_ok R ws
    split at h
    · rename_i hl
      cases h
      have R1 := front R hn hb
      refine ⟨_, _, G, ws, _, w, μ', e, R1.args (preN_rep R r), fun v as' G' H' n R' rv => ?_⟩
      obtain ⟨ea, n2, R2⟩ := back R hn n R' hl
      exact q v as G' H' n2 R2 (rv.mono (Same.refl _) ⟨as.drop (preN ws μ), by rw [ea, List.take_append_drop]⟩)
    · exact call_phi (Φ := f.phi) R r h q
  · cases h
def mCall (f : FX) (dds : List D) (a : RA) : RE := fun ρ μ => match a ρ μ with
  | some (ws, μ1) => callX f (ws ++ dds.map W.val) μ1
  | none => none
theorem sn_call {f : FX} {dds : List D} {dvs : List V} {E : XK} {ta : TA} {a : RA} (ha : SnA K ta a) (hd : Dfl K dds dvs) : SnE K (tCall (spF K f) dvs E ta) (mCall f dds a) := fun ρ μ w μ' h => by
  unfold mCall at h
  split at h
  · exact fun P as σ G H R Q q => ha _ _ _ _ ‹_› P as σ G H R _ fun vs as1 G1 H1 n1 R1 r1 => call_fx R1 (r1.append (RepWs.vals.mpr (hd G1))) h fun v as2 G2 H2 n2 R2 r2 => q v as2 G2 H2 (n1.trans n2) R2 r2
  · cases h
def recvOk (c m : Str) (μ : Mu) : W → Bool
  | .val (.obj c' ns _) => decide (c' = c) && !ns.contains m
  | .loc j => match μ[j]? with
    | some (.ins c' fs) => decide (c' = c) && (fs.lookup m).isNone
    | _ => false
  | _ => false
theorem recv_rep {c m : Str} {w : W} {v : V} (R : Rl K G H as P ρ μ σ) (r : RepW K G as w v) (h : recvOk c m μ w = true) : ∃ a dx fs, v = .ref a ∧ H a = some (.ins (He.ga K c) dx fs) ∧ fs.lookup m = none := by
  unfold recvOk at h
  split at h
  · rename_i c' ns os
    rw [Bool.and_eq_true] at h
    have ec := of_decide_eq_true h.1
    subst ec
    obtain ⟨_, a, dx, vs, e, g, hl, rl⟩ := r
    refine ⟨a, dx, _, e, R.sub _ _ g, ?_⟩
    have hc : ns.contains m = false := by
      have := h.2
      cases z : ns.contains m <;> rw [z] at this <;> first | rfl | cases this
    exact lookup_zip_none hc
  · rename_i j
    split at h
    · rename_i c' fs hj
      rw [Bool.and_eq_true] at h
      have ec := of_decide_eq_true h.1
      subst ec
      obtain ⟨a, ha, ev⟩ := r
      obtain ⟨g, z, dx, vs, hh, rf⟩ := R.mu j a _ ha hj
      exact ⟨a, dx, vs, ev, hh, lookup_fs rf (Option.isNone_iff_eq_none.mp h.2)⟩
    · cases h
  · cases h
def mMeth (c m : Str) (f : FX) (dds : List D) (o : RE) (a : RA) : RE := fun ρ μ => match o ρ μ with
  | some (w, μ1) => if recvOk c m μ1 w = true then match a ρ μ1 with
    | some (ws, μ2) => callX f (w :: (ws ++ dds.map W.val)) μ2
    | none => none
    else none
  | none => none
theorem sn_meth {c m : Str} {f : FX} {dds : List D} {dvs : List V} {E : XK} {to : TE} {ta : TA} {o : RE} {a : RA} (ho : SnE K to o) (ha : SnA K ta a) (hd : Dfl K dds dvs) : SnE K (tMeth (He.ga K c) m (spF K f) dvs E to ta) (mMeth c m f dds o a) := fun ρ μ w μ' h => by
  unfold mMeth at h
  split at h
  · rename_i x μ1 e1
    split at h
    · rename_i hr
      split at h
      · rename_i ws μ2 e2
        exact fun P as σ G H R Q q => ho _ _ _ _ e1 P as σ G H R _ fun v as1 G1 H1 n1 R1 r1 => by
          obtain ⟨a', dx, fs, ev, hh, hl⟩ := recv_rep R1 r1 hr
          refine ⟨a', dx, fs, ev, hh, hl, ?_⟩
          refine ha _ _ _ _ e2 P as1 σ G1 H1 R1 _ fun us as2 G2 H2 n2 R2 r2 => ?_
          exact call_fx (ws := x :: (ws ++ dds.map W.val)) R2 ⟨v, _, rfl, r1.mono n2.gr n2.pre, r2.append (RepWs.vals.mpr (hd G2))⟩ h fun v as3 G3 H3 n3 R3 r3 => q v as3 G3 H3 ((n1.trans n2).trans n3) R3 r3
      · cases h
    · cases h
  · cases h
def mFld (c f : Str) (o : RE) : RE := fun ρ μ => match o ρ μ with
  | some (.val (.obj c' ns ds), μ1) => if c' = c then match ds[fpos f ns]? with
    | some d => some (.val d, μ1)
    | none => none
    else none
  | some (.loc j, μ1) => match μ1[j]? with
    | some (.ins c' fs) => if c' = c then match fs.lookup f with
      | some w => some (w, μ1)
      | none => none
      else none
    | _ => none
  | _ => none
theorem sn_fld {c f : Str} {to : TE} {o : RE} (hc : Cls K (He.ga K c)) (hn : NoAttr K (He.ga K c) f) (ho : SnE K to o) : SnE K (tFld K to f) (mFld c f o) := fun ρ μ w μ' h => by
  unfold mFld at h
  split at h
  · rename_i c' ns ds μ1 e1
    split at h
    · rename_i ec
      subst ec
      split at h
      · cases h; exact ev_fld (ho _ _ _ _ e1) hn ‹_›
      · cases h
    · cases h
  · rename_i j μ1 e1
    split at h
    · rename_i c' fs hj
      split at h
      · rename_i ec
        subst ec
        split at h
        · cases h; exact ev_fldM (ho _ _ _ _ e1) hj hc hn ‹_›
        · cases h
      · cases h
    · cases h
  · cases h
def mFldS (c f : Str) (o e : RE) : RS := fun ρ μ => match e ρ μ with
  | some (w, μ1) => match o ρ μ1 with
    | some (.loc j, μ2) => match μ2[j]? with
      | some (.ins c' fs) => if c' = c ∧ fs.length < 100 ∧ w.below μ2.length = true then some (.nx ρ (μ2.set j (.ins c (putW f w fs)))) else none
      | _ => none
    | _ => none
  | none => none
theorem sn_fldS {c f : Str} {to te : TE} {o e : RE} (hc : Cls K (He.ga K c)) (hn : NoAttr K (He.ga K c) f) (ho : SnE K to o) (he : SnE K te e) : SnS K (sFld K to te f) (mFldS c f o e) := fun ρ μ r h => by
  unfold mFldS at h
  split at h
  · rename_i w μ1 e1
    split at h
    · rename_i j μ2 e2
      split at h
      · rename_i c' fs hj
        split at h
        · rename_i hk
          cases h
          obtain ⟨ec, hz, hw⟩ := hk
          subst ec
          exact ex_fld (he _ _ _ _ e1) (ho _ _ _ _ e2) hj hc hn hz hw
        · cases h
      · cases h
    · cases h
  · cases h
def valsOf : List (Str × W) → Option (List Str × List D)
  | [] => some ([], [])
  | (f, .val d) :: r => match valsOf r with
    | some (ns, ds) => some (f :: ns, d :: ds)
    | none => none
  | _ => none
theorem valsOf_eq : ∀ {fs : List (Str × W)} {ns : List Str} {ds : List D}, valsOf fs = some (ns, ds) → fs = ns.zip (ds.map W.val) ∧ ns.length = ds.length
  | [], ns, ds, h => by cases h; exact ⟨rfl, rfl⟩
  | (f, .val d) :: r, ns, ds, h => by
    unfold valsOf at h
    split at h
    · rename_i ns' ds' e
      cases h
      obtain ⟨e1, e2⟩ := valsOf_eq e
      rw [e1]
      exact ⟨rfl, by simp [e2]⟩
    · cases h
  | (f, .loc j) :: r, _, _, h => by cases h
def makeX (c : Str) (f : FX) (ws : List W) (μ : Mu) : Option (W × Mu) := match f (.loc (preN ws μ) :: ws) (μ.take (preN ws μ) ++ [.ins c []]) with
  | some (.val .non, μ') => match μ'.drop (preN ws μ) with
    | [.ins c' fs] => if c' = c ∧ (μ'.take (preN ws μ)).all (MO.below (preN ws μ)) = true ∧ (μ'.take (preN ws μ)).length = preN ws μ then match valsOf fs with
      | some (ns, ds) => some (.val (.obj c ns ds), μ'.take (preN ws μ) ++ μ.drop (preN ws μ))
      | none => none
      else none
    | _ => none
  | _ => none
theorem make_fx {c : Str} {f : FX} {ws : List W} {vs : List V} {w : W} {μ1 : Mu} {Q : VK} {E : XK} (R : Rl K G H as P ρ μ σ) (r : RepWs K G as ws vs) (ck : ClsOk K (He.ga K c)) (h : makeX c f ws μ = some (w, μ1))
    (q : ∀ v as' G' H', Nx P as G H as' G' H' → Rl K G' H' as' P ρ μ1 σ → RepW K G' as' w v → Q v H') : ∀ x dx, H x = none → H dx = none → dx ≠ x →
      spF K f (.ref x :: vs) (upd (upd H dx (.own x)) x (.ins (He.ga K c) dx [])) (fun v H2 => v = .non ∧ Q (.ref x) H2) E := by
  intro x dx hx hdx ne
  unfold makeX at h
  split at h
  · rename_i μ' e
    split at h
    · rename_i c' fs hd
      split at h
      · rename_i hc
        obtain ⟨ec, hb', hl'⟩ := hc
        subst ec
        split at h
        · rename_i ns ds hv
          cases h
          obtain ⟨ef, hlen⟩ := valsOf_eq hv
          obtain ⟨hn, hb⟩ := preN_ok R ws
          obtain ⟨R1, n1⟩ := R.junk hdx (.own x)
          have rA := preN_rep R r
          generalize preN ws μ = n at *
          have F := front R1 hn hb
          have hx1 : upd H dx (.own x) x = none := by rw [upd_ne (Ne.symm ne)]; exact hx
          have la : (as.take n).length = n := by rw [List.length_take, R.len]; omega
          have lm : (μ.take n).length = n := by rw [List.length_take]; omega
          obtain ⟨R2, n2⟩ := F.mut (m := .ins c' []) (o := .ins (He.ga K c') dx []) hx1 ⟨F.sub.free hx1, Nat.zero_le _, dx, [], upd_same, rfl⟩ rfl
          have hx2 : ((as.take n) ++ [x])[n]? = some x := by
            rw [List.getElem?_append_right (by rw [la]; exact Nat.le_refl _), la]
            simp
          have rB : RepWs K G (as.take n ++ [x]) (.loc n :: ws) (.ref x :: vs) := ⟨.ref x, vs, rfl, ⟨x, hx2, rfl⟩, RepWs.mono (Same.refl _) ⟨[x], rfl⟩ rA⟩
          refine ⟨_, _, G, .loc n :: ws, _, .val .non, μ', e, R2.args rB, fun v as3 G3 H3 n3 R3 r3 => ⟨r3, ?_⟩⟩
          have em : μ' = μ'.take n ++ [.ins c' (ns.zip (ds.map W.val))] := by
            rw [← ef, ← hd, List.take_append_drop]
          have l3 : as3 = as.take n ++ [x] := by
            obtain ⟨t, et⟩ := n3.pre
            have h1 := R3.len
            have h2 : μ'.length = n + 1 := by
              have h3 := congrArg List.length em
              rw [List.length_append, hl'] at h3
              exact h3
            rw [h2, et, List.length_append, List.length_append, la] at h1
            have h4 : n + 1 + t.length = n + 1 := h1
            have : t = [] := List.eq_nil_of_length_eq_zero (by omega)
            rw [et, this, List.append_nil]
          rw [em] at R3
          have wf0 : ∀ m : MO, m ∈ μ'.take n → m.below (μ'.take n).length = true := fun m hm => by rw [hl']; exact List.all_eq_true.mp hb' m hm
          obtain ⟨G4, s4, R4, r4⟩ := Rl.settle R3 hlen wf0 l3 (fun i w hi => by simp at hi) ck
          have nn : Nx (Rest P as G n) (as.take n) G (upd H dx (.own x)) (as.take n) G4 H3 := by
            refine ⟨⟨[], by simp⟩, (n2.trans n3).gr.trans s4, (n2.trans n3).kp⟩
          obtain ⟨_, n5, R5⟩ := back R1 hn nn R4 hl'
          exact q _ as G4 H3 (n1.trans n5) R5 r4
        · cases h
      · cases h
    · cases h
  · cases h
def mMake (c : Str) (f : FX) (dds : List D) (a : RA) : RE := fun ρ μ => match a ρ μ with
  | some (ws, μ1) => makeX c f (ws ++ dds.map W.val) μ1
  | none => none
theorem sn_make {c : Str} {f : FX} {dds : List D} {dvs : List V} {E : XK} {ta : TA} {a : RA} (ck : ClsOk K (He.ga K c)) (ha : SnA K ta a) (hd : Dfl K dds dvs) : SnE K (tMake (He.ga K c) (spF K f) dvs E ta) (mMake c f dds a) := fun ρ μ w μ' h => by
  unfold mMake at h
  split at h
  · exact fun P as σ G H R Q q => ha _ _ _ _ ‹_› P as σ G H R _ fun vs as1 G1 H1 n1 R1 r1 => make_fx R1 (r1.append (RepWs.vals.mpr (hd G1))) ck h fun v as2 G2 H2 n2 R2 r2 => q v as2 G2 H2 (n1.trans n2) R2 r2
  · cases h
def frzRet (fz : Bool) (n : Nat) (w : W) (μ : Mu) : W × Mu := match fz, w with
  | true, .loc j => if j < n then (w, μ) else match frz1 μ (.loc j) with
    | some (d, μ1) => (.val d, μ1)
    | none => (w, μ)
  | _, _ => (w, μ)
def exitF (fz : Bool) (n : Nat) (w : W) (μ : Mu) : Option (W × Mu) := match frzRet fz n w μ with
  | (w1, μ1) => if n ≤ μ1.length then
      if w1.below n = true ∧ (μ1.take n).all (MO.below n) = true then some (w1, μ1.take n)
      else if w1.below μ1.length = true ∧ μ1.all (MO.below μ1.length) = true then some (w1, μ1) else none
    else none
def start (n : Nat) (ws : List W) : Env' := ws.map some ++ List.replicate (n - ws.length) none
def bodyF (fz : Bool) (k n : Nat) (m : RS) : FX := fun ws μ => if ws.length = k then match m (start n ws) μ with
  | some (.rt w μ1) => exitF fz μ.length w μ1
  | some (.nx _ μ1) => exitF fz μ.length (.val .non) μ1
  | _ => none
  else none
theorem ln_body {fz : Bool} {k n : Nat} {m : RS} {vs : List V} {H : Hp} {Q : VK} {E : XK} (h : spF K (bodyF fz k n m) vs H Q E) : vs.length = k := by
  obtain ⟨P, as, G, ws, μ, w, μ', hf, R, _⟩ := h
  have hz : ws.length = vs.length := by simpa using R.sz
  unfold FX.phi bodyF at hf
  split at hf
  · omega
  · cases hf
theorem frzRet_ok {fz : Bool} {n : Nat} {t : TS} {w w1 : W} {μ0 μ1 : Mu} (h : Ex K t ρ μ0 (.rt w μ)) (e : frzRet fz n w μ = (w1, μ1)) : Ex K t ρ μ0 (.rt w1 μ1) := by
  unfold frzRet at e
  split at e
  · split at e
    · cases e; exact h
    · split at e
      · rename_i hf
        cases e
        exact fun P as σ G H R E q => h P as σ G H R E fun v as' G' H' n' R' r' => by
          obtain ⟨G2, n2, R2, r2⟩ := frz1_ok R' r' hf
          exact q v as' G2 H' (n'.trans n2) R2 r2
      · cases e; exact h
  · cases e; exact h
theorem frzRet_non {fz : Bool} {n : Nat} : frzRet fz n (.val .non) μ = (.val .non, μ) := by
  unfold frzRet
  cases fz <;> rfl
theorem exit_ok {fz : Bool} {n : Nat} {w w' : W} {μ1 μ' : Mu} (h : exitF fz n w μ1 = some (w', μ')) : ∃ (μ2 : Mu), frzRet fz n w μ1 = (w', μ2) ∧ ∃ tail : Mu, n ≤ μ'.length ∧ w'.below μ'.length = true ∧ (∀ m : MO, m ∈ μ' → m.below μ'.length = true) ∧ μ2 = μ' ++ tail := by
  unfold exitF at h
  split at h
  rename_i w1 μ2 e
  split at h
  · rename_i hn
    split at h
    · rename_i hc
      cases h
      have hl : (μ2.take n).length = n := by rw [List.length_take]; omega
      refine ⟨μ2, e, μ2.drop n, by rw [hl]; exact Nat.le_refl _, by rw [hl]; exact hc.1, fun m hm => by rw [hl]; exact List.all_eq_true.mp hc.2 m hm, (List.take_append_drop n μ2).symm⟩
    · split at h
      · rename_i hc
        cases h
        exact ⟨_, e, [], hn, hc.1, List.all_eq_true.mp hc.2, by simp⟩
      · cases h
  · cases h
theorem fn_body {fz : Bool} {k n : Nat} {t : TS} {m : RS} (hm : SnS K t m) : FnD K t n (bodyF fz k n m).phi := ⟨fun ws μ w μ' h wf => by
  unfold FX.phi bodyF at h
  split at h
  case isFalse => cases h
  split at h
  · rename_i w0 μ1 e
    obtain ⟨μ2, e2, tail, h1, h2, h3, h4⟩ := exit_ok h
    refine ⟨tail, h1, h2, h3, .inl ?_⟩
    have := frzRet_ok (hm _ _ _ e) e2
    rw [h4] at this
    exact this
  · rename_i ρ1 μ1 e
    obtain ⟨μ2, e2, tail, h1, h2, h3, h4⟩ := exit_ok h
    rw [frzRet_non] at e2
    cases e2
    refine ⟨tail, h1, h2, h3, .inr ⟨rfl, ρ1, ?_⟩⟩
    have := hm _ _ _ e
    rw [h4] at this
    exact this
  · cases h⟩
end
end DX
namespace DX
open PySem PySem.Spec PyProof.Rows L2 DK
section
variable {K : PySem.W.Frag} [HasW K] {G H : Hp} {as : List Addr} {P : Addr → Prop} {ρ : Env'} {μ : Mu} {σ : L2.St}
def valOnly (ρ : Env') : Env' := ρ.map fun w => match w with
  | some (.val d) => some (.val d)
  | _ => none
def pv1 (e : RE) (ρ : Env') : Option D := match e (valOnly ρ) [] with
  | some (.val d, []) => some d
  | _ => none
end
end DX
namespace DX
open PySem PySem.Spec PyProof.Rows L2 DK
section
variable {K : PySem.W.Frag} [HasW K]
def showsB (d : D) : Bool := pyOk d && (toPy d).showable && decide ((toPy d).depth ≤ 60) && strsIn d && decide (showCost d ≤ SB)
theorem showsB_ok {d : D} (h : showsB d = true) : Shows d := by
  unfold showsB at h
  simp only [Bool.and_eq_true, decide_eq_true_eq] at h
  exact ⟨h.1.1.1.1, h.1.1.1.2, h.1.1.2, h.1.2, h.2⟩
def mReprC (neg : Bool) (a b : RE) : RE := fun ρ μ => match a ρ μ with
  | some (x, μ1) => match view μ1 x with
    | some d => if showsB d = true then match b ρ μ1 with
      | some (y, μ2) => match view μ2 y with
        | some e => if showsB e = true then some (.val (.bl (neg ^^ decide ((toPy d).shown = (toPy e).shown))), μ2) else none
        | none => none
      | none => none
      else none
    | none => none
  | none => none
theorem reprC_core {ta tb : TE} {a b : RE} {neg : Bool} {r : R2} (hr : ∀ (x y : Str) H Q, Q (.bl (neg ^^ decide (x = y))) H → r (.str x) (.str y) H Q) (ha : SnE K ta a) (hb : SnE K tb b) : SnE K (tOp r (tCB (rRepr K) (tCons ta tNil)) (tCB (rRepr K) (tCons tb tNil))) (mReprC neg a b) := fun ρ μ w μ' h => by
  unfold mReprC at h
  split at h
  · rename_i x μ1 e1
    split at h
    · rename_i d v1
      split at h
      · rename_i k1
        split at h
        · rename_i y μ2 e2
          split at h
          · rename_i e v2
            split at h
            · rename_i k2
              cases h
              have s1 := showsB_ok k1
              have s2 := showsB_ok k2
              exact fun P as σ G H R Q q => ha _ _ _ _ e1 P as σ G H R _ fun x' as1 G1 H1 n1 R1 r1 => ⟨x', toPy d, rfl, dp_ofT R1.sub s1.py (view_rep R1 r1 v1), s1.sh, noDict d, s1.dp, Nat.le_trans (shown_le d s1.st s1.sh) s1.sz,
                hb _ _ _ _ e2 P as1 σ G1 H1 R1 _ fun y' as2 G2 H2 n2 R2 r2 => ⟨y', toPy e, rfl, dp_ofT R2.sub s2.py (view_rep R2 r2 v2), s2.sh, noDict e, s2.dp, Nat.le_trans (shown_le e s2.st s2.sh) s2.sz,
                  hr _ _ _ _ (q _ as2 G2 H2 (n1.trans n2) R2 rfl)⟩⟩
            · cases h
          · cases h
        · cases h
      · cases h
    · cases h
  · cases h
theorem sn_reprNe {ta tb : TE} {a b : RE} (ha : SnE K ta a) (hb : SnE K tb b) : SnE K (tOp (rNee K) (tCB (rRepr K) (tCons ta tNil)) (tCB (rRepr K) (tCons tb tNil))) (mReprC true a b) :=
  reprC_core (fun x y H Q q => .inl ⟨rfl, by
    rw [dec_congr (show V.str x = V.str y ↔ x = y from ⟨fun e => by injection e, fun e => by rw [e]⟩)]
    rw [Bool.true_xor] at q
    exact q⟩) ha hb
def mRevM (a : RE) : RE := fun ρ μ => match dat1 a ρ μ with
  | some (.lst xs, μ1) => some (.loc μ1.length, μ1 ++ [.lst xs.reverse])
  | _ => none
theorem sn_revM {ta : TE} {a : RE} (ha : SnE K ta a) : SnE K (tRevL K ta) (mRevM a) := fun ρ μ w μ' h => by
  unfold mRevM at h
  split at h
  · cases h; exact ev_revM (dat1_ok ha ‹_›)
  · cases h
theorem ea_star' {te : TE} {t : TA} {ρ : Env'} {μ μ1 μ2 : Mu} {w : W} {xs : List D} {ws : List W} (h : Ev K te ρ μ w μ1) (hw : SeqW μ1 w xs) (hr : EvA K t ρ μ1 ws μ2) : EvA K (StX.tStar K te t) ρ μ (xs.map W.val ++ ws) μ2 := fun P as σ G H R Q q =>
  h P as σ G H R _ fun v as1 G1 H1 n1 R1 r1 => by
    obtain ⟨a, vs, ev, hs, hr1, _⟩ := hw.size R1 r1
    refine ⟨a, vs, ev, hs.symm, hr P as1 σ G1 H1 R1 _ fun us as2 G2 H2 n2 R2 r2 => ?_⟩
    exact q _ as2 G2 H2 (n1.trans n2) R2 (RepWs.append (RepWs.vals.mpr (RepL.mono n2.gr _ _ hr1)) r2)
theorem sn_star {ta : TE} {tr : TA} {a : RE} {r : RA} (ha : SnE K ta a) (hr : SnA K tr r) : SnA K (StX.tStar K ta tr) (mStar a r) := fun ρ μ ws μ' h => by
  unfold mStar at h
  split at h
  · rename_i w μ1 e1
    split at h
    · rename_i xs hs
      split at h
      · rename_i ws2 μ2 e2
        cases h
        exact ea_star' (ha _ _ _ _ e1) (seqOf_W hs) (hr _ _ _ _ e2)
      · cases h
    · cases h
  · cases h
def mChain (f g : D → D → Option D) (a b c : RE) : RE := fun ρ μ => match dat1 a ρ μ with
  | some (x, μ1) => match dat1 b ρ μ1 with
    | some (y, μ2) => match f x y with
      | some (.bl true) => match dat1 c ρ μ2 with
        | some (z, μ3) => match g y z with
          | some (.bl l) => some (.val (.bl l), μ3)
          | _ => none
        | none => none
      | some (.bl false) => some (.val (.bl false), μ2)
      | _ => none
    | none => none
  | none => none
theorem sn_chain {r r' : R2} {f g : D → D → Option D} {ta tb tc : TE} {a b c : RE} (hf : OpV K r f) (hg : OpV K r' g) (ha : SnE K ta a) (hb : SnE K tb b) (hc : SnE K tc c) : SnE K (tChain r r' ta tb tc) (mChain f g a b c) := fun ρ μ w μ' h => by
  unfold mChain at h
  split at h
  · rename_i x μ1 e1
    split at h
    · rename_i y μ2 e2
      have h1 := dat1_ok ha e1
      have h2 := dat1_ok hb e2
      split at h
      · rename_i hk
        split at h
        · rename_i z μ3 e3
          have h3 := dat1_ok hc e3
          split at h
          · rename_i l hl
            cases h
            exact fun P as σ G H R Q q => h1 P as σ G H R _ fun x' as1 G1 H1 n1 R1 r1 => h2 P as1 σ G1 H1 R1 _ fun y' as2 G2 H2 n2 R2 r2 =>
              hf _ _ _ hk P as2 ρ _ σ G2 H2 x' y' R2 (repT_of R2.sub (Rep.mono n2.gr _ _ r1)) (repT_of R2.sub r2) _ fun u G3 H3 n3 R3 r3 => ⟨true, r3, iteT (h3 P as2 σ G3 H3 R3 _ fun z' as4 G4 H4 n4 R4 r4 =>
                hg _ _ _ hl P as4 ρ _ σ G4 H4 y' z' R4 (repT_of R4.sub (Rep.mono (n3.gr.trans n4.gr) _ _ r2)) (repT_of R4.sub r4) Q fun u G5 H5 n5 R5 r5 => q u as4 G5 H5 ((((n1.trans n2).trans n3).trans n4).trans n5) R5 r5)⟩
          · cases h
        · cases h
      · rename_i hk
        cases h
        exact fun P as σ G H R Q q => h1 P as σ G H R _ fun x' as1 G1 H1 n1 R1 r1 => h2 P as1 σ G1 H1 R1 _ fun y' as2 G2 H2 n2 R2 r2 =>
          hf _ _ _ hk P as2 ρ _ σ G2 H2 x' y' R2 (repT_of R2.sub (Rep.mono n2.gr _ _ r1)) (repT_of R2.sub r2) _ fun u G3 H3 n3 R3 r3 => ⟨false, r3, iteF (q _ as2 G3 H3 ((n1.trans n2).trans n3) R3 rfl)⟩
      · cases h
    · cases h
  · cases h
end
end DX
namespace DX
open PySem PySem.Spec L2 DK
section
variable {K : PySem.W.Frag} [HasW K] {ρ ρ1 ρ2 : Env'} {μ μ1 μ2 μ3 : Mu} {ta tb te tc : TE} {t u : TT} {w : W} {a b d : D} {r : R2} {i : Nat} {G H : Hp} {as : List Addr} {P : Addr → Prop} {σ : L2.St}
def mLcM (i : RI) (g : RG) (t : RB) (e : RE) (vs : List Nat) : RE := fun ρ μ => match i ρ μ with
  | some (xs, c, μ1) => if xs.length ≤ LB then match lcR g t e c (wipeE ρ vs) xs μ1 with
    | some (ys, μ2) => some (.loc μ2.length, μ2 ++ [.lst ys])
    | none => none
    else none
  | none => none
end
end DX
namespace DX
open PySem PySem.Spec L2 DK He
section
variable {K : PySem.W.Frag} [HasW K]
def TbIn (H : Hp) : Prop := ∀ p : Addr × Str, p ∈ HasW.ts K → ∃ ps : Array Value, H p.1 = some (.tbl ps) ∧ TriplesOk ps.toList ∧ ∀ (pos : Pos) (cv : Value), codeAmong pos ps.toList = some cv → ∃ c, cv = .ref c ∧ H c = some (LamX.CodeO c p.2)
def noTb (H : Hp) : Hp := fun b => match H b with
  | some (.tbl _) => none
  | o => o
theorem noTb_same {H : Hp} : Same (noTb H) H := fun b u h => by
  unfold noTb at h
  split at h
  · cases h
  · exact h
theorem noTb_at {H : Hp} {a : Addr} {o : HO} (h : H a = some o) (hn : ∀ ps, o ≠ .tbl ps) : noTb H a = some o := by
  unfold noTb
  rw [h]
  split
  · rename_i ps e
    exact absurd (Option.some.inj e) (hn ps)
  · rfl
theorem noTb_sql {H : Hp} {a : Addr} {xs : List V} (h : SqL K H a xs) : SqL K (noTb H) a xs := by
  rcases h with (h | ⟨o, h⟩) | h
  · exact .inl (.inl (noTb_at h fun ps z => by cases z))
  · exact .inl (.inr ⟨o, noTb_at h fun ps z => by cases z⟩)
  · exact .inr h
theorem law_spT {f : FX} {H : Hp} {a : Addr} {ns : List Int} (hf : f [.val (.scr ns)] [] = some (.val (.bl true), [])) (hs : SqL K H a (ns.map V.int)) (hT : TbIn (K := K) H) : spF K f [.ref a] H (fun v _ => v = .bl true) fun _ _ _ => False :=
  ⟨fun _ => False, [], noTb H, [.val (.scr ns)], [], .val (.bl true), [], hf, ⟨noTb_same, fun _ h => h.elim, List.nodup_nil, rfl, fun j a m h => by simp at h, fun m hm => by simp at hm, rfl, fun i w h => by
    match i, h with
    | 0, h =>
      simp at h
      subst h
      exact ⟨.ref a, rfl, a, rfl, noTb_sql hs⟩
    | i + 1, h => simp at h, ⟨fun b ps z => (by
    have e := noTb_same _ _ z
    unfold noTb at z
    rw [e] at z
    cases z), fun p hp => by
    obtain ⟨ps, h1, h2, h3⟩ := hT p hp
    refine ⟨fun z => z, ?_, by simp, ps, h1, h2, fun pos cv hc => ?_⟩
    · unfold noTb
      rw [h1]
    · obtain ⟨c, e1, e2⟩ := h3 pos cv hc
      exact ⟨c, e1, noTb_at e2 fun ps z => by cases z⟩⟩⟩, fun v as' G' H' _ _ r => r⟩
theorem law_spF {f : FX} {H : Hp} {a : Addr} {ns : List Int} (hf : f [.val (.scr ns)] [] = some (.val (.bl true), [])) (hs : SqL K H a (ns.map V.int)) (h0 : HasW.ts K = [] := by rfl) : spF K f [.ref a] H (fun v _ => v = .bl true) fun _ _ _ => False :=
  law_spT hf hs fun p hp => by
    rw [h0] at hp
    cases hp
end
end DX
namespace DX
open PySem PySem.Spec PyProof.Rows L2 DK
section
variable {K : PySem.W.Frag} [HasW K]
abbrev RT := W → Env' → Mu → Option (Env' × Mu)
abbrev RTs := List D → Env' → Mu → Option (Env' × Mu)
def uName (i : Nat) : RT := fun w ρ μ => some (ρ.set i (some w), μ)
def uFld (c f : Str) (o : RE) : RT := fun w ρ μ => match o ρ μ with
  | some (.loc j, μ1) => match μ1[j]? with
    | some (.ins c' fs) => if c' = c ∧ fs.length < 100 ∧ w.below μ1.length = true then some (ρ, μ1.set j (.ins c (putW f w fs))) else none
    | _ => none
  | _ => none
def uNil : RTs := fun ds ρ μ => match ds with
  | [] => some (ρ, μ)
  | _ => none
def uCons (g : RT) (r : RTs) : RTs := fun ds ρ μ => match ds with
  | d :: t => match g (.val d) ρ μ with
    | some (ρ1, μ1) => r t ρ1 μ1
    | none => none
  | [] => none
def uTup (n : Nat) (r : RTs) : RT := fun w ρ μ => match w with
  | .val (.tup ds) => if ds.length = n then r ds ρ μ else none
  | _ => none
def mAsgT (a : RE) (g : RT) : RS := fun ρ μ => match a ρ μ with
  | some (w, μ1) => match g w ρ μ1 with
    | some (ρ2, μ2) => some (.nx ρ2 μ2)
    | none => none
  | none => none
def setAll : List Nat → List W → Env' → Env'
  | i :: is, w :: ws, ρ => setAll is ws (ρ.set i (some w))
  | _, _, ρ => ρ
def gNames : List Nat → TGs
  | [] => gNil
  | i :: is => gCons (gName i) (gNames is)
theorem names_ok {P : Addr → Prop} {as : List Addr} {G H : Hp} {μ : Mu} : ∀ {is : List Nat} {ws : List W} {vs : List V} {ρ : Env'} {σ : L2.St}, is.length = ws.length → Rl K G H as P ρ μ σ → RepWs K G as ws vs → ∀ Q : L2.St → Hp → Prop, (∀ σ', Rl K G H as P (setAll is ws ρ) μ σ' → Q σ' H) → gNames is vs σ H Q
  | [], [], vs, ρ, σ, _, R, r, Q, q => ⟨r, q σ R⟩
  | [], _ :: _, _, _, _, e, _, _, _, _ => by cases e
  | _ :: _, [], _, _, _, e, _, _, _, _ => by cases e
  | i :: is, w :: ws, vs, ρ, σ, e, R, ⟨v, r, ev, r1, r2⟩, Q, q => ⟨v, r, ev, names_ok (by simpa using e) (R.set r1) r2 Q q⟩
def mParN (is : List Nat) (r : RA) : RS := fun ρ μ => match r ρ μ with
  | some (ws, μ1) => if is.length = ws.length ∧ ws.length ≤ LB then some (.nx (setAll is ws ρ) μ1) else none
  | none => none
theorem sn_parN {is : List Nat} {tr : TA} {r : RA} (hr : SnA K tr r) : SnS K (tAsg (tTup tr) (gTup K is.length (gNames is))) (mParN is r) := fun ρ μ o h => by
  unfold mParN at h
  split at h
  · rename_i ws μ1 e
    split at h
    · rename_i hk
      cases h
      exact fun P as σ G H R E q => hr _ _ _ _ e P as σ G H R _ fun vs as1 G1 H1 n1 R1 r1 => ⟨by rw [r1.length]; exact Nat.le_trans hk.2 (by decide), fun p hp => by
        obtain ⟨R2, n2⟩ := R1.junk hp (.tup vs)
        exact ⟨p, vs, rfl, SqT.of upd_same, by rw [r1.length]; exact hk.1.symm, names_ok hk.1 R2 (RepWs.mono n2.gr n2.pre r1) _ fun σ' R' => q as1 σ' G1 _ (n1.trans n2) R'⟩⟩
    · cases h
  · cases h
def rInTD (K : PySem.W.Frag) (neg : Bool) : R2 := fun x y H Q => ∃ d ds, Dp K H x d ∧ Dp K H y (.tuple ds) ∧ SeqAt.shaped d = true ∧ SeqAt.shaped (.tuple ds) = true ∧ Q (.bl (neg ^^ ds.any fun z => PyData.eqv z d)) H
theorem op_inTD {X : Cx} (hu : X.A.units + 65 < cLine) : OpR X (compareOp .In) (rInTD X.K false) := by
  intro pins s σ H x y v u Q I rx ry h
  obtain ⟨d, ds, hd, he, sd, se, q⟩ := h
  obtain ⟨as, r1⟩ := Dp.reads I d x v hd rx
  obtain ⟨bs, r2⟩ := Dp.reads I (.tuple ds) y u he ry
  rw [Bool.false_xor] at q
  exact SeqAt.in_tuple_reads r2 r1 (SeqAt.canLay_of_shaped se) (SeqAt.canLay_of_shaped sd) (room_in_shaped sd hu) ⟨.bl _, H, I, rfl, q⟩
def rInn2 (K : PySem.W.Frag) : R2 := fun x y H Q => rInn K x y H Q ∨ (rInD K x y H Q ∨ rInTD K false x y H Q)
theorem op_inn2 {X : Cx} (hu : X.A.units + 65 < cLine) : OpR X (compareOp .In) (rInn2 X.K) := DK.OpR.or op_inn (DK.OpR.or (op_inD hu) (op_inTD hu))
def inDeep (x : D) (xs : List D) : Bool := (toPyL xs).any fun z => PyData.eqv z (toPy x)
def inF2 : D → D → Option D := fun x y => match inF false x y with
  | some d => some d
  | none => match y with
    | .tup xs => if pyOk x = true ∧ pyOk (.tup xs) = true ∧ (toPy x).depth ≤ 64 ∧ (toPy (.tup xs)).depth ≤ 64 then some (.bl (inDeep x xs)) else none
    | .lst xs => if pyOk x = true ∧ pyOk (.lst xs) = true ∧ (toPy x).depth ≤ 64 ∧ (toPy (.lst xs)).depth ≤ 64 then some (.bl (inDeep x xs)) else none
    | _ => none
theorem ov_in2 : OpV K (rInn2 K) inF2 := fun a b d h P as ρ μ σ G H x y R rx ry Q q => by
  unfold inF2 at h
  split at h
  · cases h
    exact .inl (ov_in a b _ ‹_› P as ρ μ σ G H x y R rx ry Q q)
  · split at h
    · split at h
      · cases h
        rename_i hc
        obtain ⟨c1, c2, c3, c4⟩ := hc
        exact .inr (.inr ⟨_, _, dp_ofT R.sub c1 rx, dp_ofT R.sub c2 ry, Bool.and_eq_true_iff.mpr ⟨lay_ofT rx, decide_eq_true c3⟩, Bool.and_eq_true_iff.mpr ⟨lay_ofT ry, decide_eq_true c4⟩, by rw [Bool.false_xor]; exact q _ G H .refl R rfl⟩)
      · cases h
    · split at h
      · cases h
        rename_i hc
        obtain ⟨c1, c2, c3, c4⟩ := hc
        exact .inr (.inl ⟨_, _, dp_ofT R.sub c1 rx, dp_ofT R.sub c2 ry, Bool.and_eq_true_iff.mpr ⟨lay_ofT rx, decide_eq_true c3⟩, Bool.and_eq_true_iff.mpr ⟨lay_ofT ry, decide_eq_true c4⟩, q _ G H .refl R rfl⟩)
      · cases h
    · cases h
end
end DX
namespace DX
open PySem PySem.Spec PyProof.Rows L2 DK
section
variable {K : PySem.W.Frag} [HasW K]
theorem units65 {k : Nat} {A : Around} (r : Room k A) : A.units + 65 < cLine := by have := r.un; omega
def mExtend (a : RE) (r : RA) : RE := fun ρ μ => match a ρ μ with
  | some (.loc j, μ1) => match view μ1 (.loc j), r ρ μ1 with
    | some _, some ([w], μ2) => match μ2[j]?, view μ2 w with
      | some (.lst xs), some (.lst ys) => if xs.length + ys.length ≤ LB then some (.val .non, μ2.set j (.lst (xs ++ ys))) else none
      | _, _ => none
    | _, _ => none
  | _ => none
def mIndex (a : RE) (b : RE) : RE := fun ρ μ => match a ρ μ with
  | some (w, μ1) => match pv1 b ρ with
    | some (.str s) => match view μ1 w with
      | some (.lst xs) => match sOf xs with
        | some ss => if s ∈ ss then some (.val (.int (ss.idxOf s : Nat)), μ1) else none
        | none => none
      | _ => none
    | _ => none
  | none => none
def fmtF : D → Option D
  | .str y => some (.str y)
  | .int i => if i.natAbs.log2 < 1920 ∧ sOkB (toString i : String) = true then some (.str (toString i : String)) else none
  | _ => none
abbrev RJ := Str → Env' → Mu → Option (Str × Mu)
def jNil : RJ := fun acc _ μ => some (acc, μ)
def jCons (a : RE) (r : RJ) : RJ := fun acc ρ μ => match a ρ μ with
  | some (.val (.str y), μ1) => if (acc ++ y).length ≤ SB ∧ sOkB y = true then r (acc ++ y) ρ μ1 else none
  | _ => none
def mJoined (r : RJ) : RE := fun ρ μ => match r Str.empty ρ μ with
  | some (out, μ1) => some (.val (.str out), μ1)
  | none => none
def rIntA : List V → Hp → VK → Prop := fun xs H Q => rInt1 xs H Q ∨ ∃ a n, xs = [.str a] ∧ PySem.intText? a = some n ∧ a.length ≤ 640 ∧ Q (.int n) H
theorem call_intA {X : Cx} : CallR X (.type "int") rIntA := DK.CallR.or call_int1' call_int_str
def intF2 : D → Option D
  | .str a => if a.length ≤ 640 then match PySem.intText? a with
    | some n => some (.int n)
    | none => none
    else none
  | d => intF d
theorem ou_int2 : OpU K (fun x H Q => rIntA [x] H Q) intF2 := fun a d h P as ρ μ σ G H x R rx Q q => by
  unfold intF2 at h
  split at h
  · split at h
    · split at h
      · cases h
        exact .inr ⟨_, _, by rw [rx.1], ‹_›, ‹_›, q _ G H .refl R rfl⟩
      · cases h
    · cases h
  · exact .inl (ou_int _ _ h P as ρ μ σ G H x R rx Q q)
end
end DX
namespace DX
open PySem PySem.Spec PyProof.Rows L2 DK
section
variable {prog : Program} {w : World} {A : Around} {E : Value → Shared → Prop} {s : Shared} {K : PySem.W.Frag} [HasW K] {x C f : Addr} {ox : Obj} {odd : Option Obj}
theorem meetsIn_str_new {v : Value} {S : PySem.Spec} (hs : ∀ (A : Around) (R : Result → Shared → Prop) (s : Shared), S A R s →
      wpAny (model prog w) A.in1 (Builtin.Str.strOf v) (fun r s' => R (.ok (.ret r)) s') (fun e s' => R (.error e) s') s) : MeetsIn prog w (Builtin.«str.__new__» ⟨[.type "str", v], []⟩) S := by
  refine MeetsIn.of_wp fun A R s h => ?_
  rw [str_new_tree v]
  refine wpAny_bind (wpAny_pure ?_)
  refine wpAny_bind (wpAny_of_eq isSubtype_str_str ?_)
  exact wpAny_bind (wpAny_mono (hs A R s h) (fun r s' h' => wpAny_pure ⟨_, rfl, h'⟩) fun _ _ e => e)
theorem strOf_own {Q : Value → Shared → Prop} (hu : A.units < cLine) (X : K.In s.heap) (I : PySem.W.InstAt s.heap x ox C odd) (hs : PySem.W.findIn K (.ref C) "__str__" = some (some (.ref f))) (hf : PySem.W.isFn K (.ref f) = true)
    (h : wpAny (model prog w) A (call (.ref f) [.ref x]) (fun r s' => ∃ y t, r = Value.str y t ∧ Q r s') E s) : wpAny (model prog w) A (Builtin.Str.strOf (.ref x)) Q E s := by
  unfold Builtin.Str.strOf
  refine wpAny_ite_false rfl ?_
  refine wpAny_bind (wpAny_cRoomFor hu ?_)
  refine wpAny_bind (m := callSpecial? (.ref x) (Str.ofString "__str__")) (PySem.W.special_fn X I hs (beq_iff_eq.mp hf) (wpAny_mono h (fun r s' hr => ?_) fun _ _ y => y))
  obtain ⟨y, t, rfl, hq⟩ := hr
  repeat (any_goals (first | assumption | wp_step))
theorem str_own {Q : Value → Shared → Prop} (hu : A.units + 2 < cLine) (X : K.In s.heap) (I : PySem.W.InstAt s.heap x ox C odd) (hs : PySem.W.findIn K (.ref C) "__str__" = some (some (.ref f))) (hf : PySem.W.isFn K (.ref f) = true)
    (h : wpAny (model prog w) A.in1.in1 (call (.ref f) [.ref x]) (fun r s' => ∃ y t, r = Value.str y t ∧ Q r s') E s) : wpAny (model prog w) A (call (.type "str") [.ref x]) Q E s :=
  callType_newIn PySem.F.called_str (by decide) (PySem.F.typeCall_str_1 _) (PySem.F.newCall_str_1 _) (fun obj => PySem.F.args_object_init_2 obj _) PySem.F.entry_str_new
    (meetsIn_str_new (S := fun A' R s' => A'.units + 1 < cLine ∧ K.In s'.heap ∧ PySem.W.InstAt s'.heap x ox C odd ∧ wpAny (model prog w) A'.in1 (call (.ref f) [.ref x]) (fun r s₁ => ∃ y t, r = Value.str y t ∧ R (.ok (.ret r)) s₁) (fun e s₁ => R (.error e) s₁) s')
      fun A' R s' hq => strOf_own (A := A'.in1) hq.1 hq.2.1 hq.2.2.1 hs hf hq.2.2.2)
    ⟨(show A.units + 1 + 1 < cLine from hu), X, I, wpAny_mono h (fun r s₁ ⟨y, t, e, q⟩ => ⟨y, t, e, by rw [e]; exact typeIs_str _ _ _, q⟩) fun _ _ y => y⟩
end
section
variable {X : Cx} {CX : CXT} {C g : Addr} {n : Nat} {sp : Sp} {fd : FuncData} {ps : List Str}
theorem fnR_of (F : FnOk X.prog X.w X.K X.mg X.base CX0 n g fd ps sp) (b : Binds X.K fd ps []) : FnR X.prog X.w X.K X.mg X.base CX0 n g sp := fun A outer s H us vs Q E hr e0 r hs =>
  FnOk.raw F b .nil A outer s H us vs Q E hr e0 r (by show sp (vs ++ []) H Q E; rw [List.append_nil]; exact hs)
def rStrOwn (C : Addr) (sp : Sp) : List V → Hp → VK → Prop := fun xs H Q => ∃ a dx fs, xs = [V.ref a] ∧ H a = some (.ins C dx fs) ∧ sp [.ref a] H (fun z H' => ∃ y, z = .str y ∧ Q z H') E0
theorem call_strOwn (hs : PySem.W.findIn X.K (.ref C) "__str__" = some (some (.ref g))) (hf : PySem.W.isFn X.K (.ref g) = true) (F : FnOk X.prog X.w X.K X.mg X.base CX0 n g fd ps sp) (b : Binds X.K fd ps []) (hr : Room (n + 2) X.A) (hu : X.A.units + 2 < cLine) : CallR X (.type "str") (rStrOwn C sp) := by
  intro pins s σ H xs us Q I r h
  obtain ⟨a, dx, fs, rfl, ha, q⟩ := h
  obtain ⟨u, rfl, ru⟩ := vals1 r
  cases (show u = Value.ref a from ru)
  obtain ⟨mA, O, _, _, _, _⟩ := ins_get I.hok ha
  obtain ⟨od, J, _⟩ := O.look
  have hr2 : Room n X.A.in1.in1 := (show Room (n + 1) X.A.in1 from Room.in1 hr).in1
  have FR := fnR_of F b
  refine str_own hu I.kIn J hs hf (wpAny_mono (wpAny_call (SlX.run_at (us := [.ref a]) (ws := [.ref a]) FR hr2 I.env0.in1.in1 pass0 I (.cons rfl .nil) q)) (fun w s' z => ?_) fun _ _ x => x)
  obtain ⟨z', H', I', rz, y, ey, qz⟩ := z
  subst ey
  obtain ⟨t, e⟩ := (show ∃ t, w = Value.str y t from rz)
  cases e
  exact ⟨y, t, rfl, .str y, H', I', ⟨t, rfl⟩, qz⟩
def rLenOwn (C : Addr) (sp : Sp) : List V → Hp → VK → Prop := fun xs H Q => ∃ a dx fs, xs = [V.ref a] ∧ H a = some (.ins C dx fs) ∧ sp [.ref a] H (fun z H' => ∃ i : Int, z = .int i ∧ (0 ≤ i ∧ i < 2 ^ 63) ∧ Q z H') E0
theorem call_lenOwn (hs : PySem.W.findIn X.K (.ref C) "__len__" = some (some (.ref g))) (hf : PySem.W.isFn X.K (.ref g) = true) (F : FnOk X.prog X.w X.K X.mg X.base CX0 n g fd ps sp) (b : Binds X.K fd ps []) (hr : Room (n + 1) X.A) : CallR X (.builtin "len") (rLenOwn C sp) := by
  intro pins s σ H xs us Q I r h
  obtain ⟨a, dx, fs, rfl, ha, q⟩ := h
  obtain ⟨u, rfl, ru⟩ := vals1 r
  cases (show u = Value.ref a from ru)
  obtain ⟨mA, O, _, _, _, _⟩ := ins_get I.hok ha
  obtain ⟨od, J, _⟩ := O.look
  have hr2 : Room n X.A.in1 := Room.in1 hr
  obtain ⟨m, hF⟩ := I.fr
  refine PySem.W.len_K hF I.ok.mod.kin J hs hf (wpAny_mono (wpAny_call (SlX.run_at (us := [.ref a]) (ws := [.ref a]) (fnR_of F b) hr2 I.env0.in1 pass0 I (.cons rfl .nil) q)) (fun w s' z => ?_) fun _ _ x => x)
  obtain ⟨z', H', I', rz, i, ei, hi, qz⟩ := z
  subst ei
  obtain ⟨t, e⟩ := (show ∃ t, w = Value.int i t from rz)
  cases e
  exact ⟨hi, .int i, H', I'.tok _, ⟨_, rfl⟩, qz⟩
end
section
variable {K : PySem.W.Frag} [HasW K]
def isIns (c : Str) (μ : Mu) : W → Bool
  | .val (.obj c' _ _) => decide (c' = c)
  | .loc j => match μ[j]? with
    | some (.ins c' _) => decide (c' = c)
    | _ => false
  | _ => false
theorem isIns_rep {G H : Hp} {as : List Addr} {P : Addr → Prop} {ρ : Env'} {μ : Mu} {σ : L2.St} {c : Str} {w : W} {v : V} (R : Rl K G H as P ρ μ σ) (r : RepW K G as w v) (h : isIns c μ w = true) : ∃ a dx fs, v = .ref a ∧ H a = some (.ins (He.ga K c) dx fs) := by
  unfold isIns at h
  split at h
  · have ec := of_decide_eq_true h
    subst ec
    obtain ⟨_, a, dx, vs, e, g, hl, rl⟩ := r
    exact ⟨a, dx, _, e, R.sub _ _ g⟩
  · split at h
    · rename_i hj
      have ec := of_decide_eq_true h
      subst ec
      obtain ⟨a, ha, ev⟩ := r
      obtain ⟨g, z, dx, vs, hh, rf⟩ := R.mu _ a _ ha hj
      exact ⟨a, dx, vs, ev, hh⟩
    · cases h
  · cases h
def mOwn1 (c : Str) (ok : D → Bool) (f : FX) (a : RE) : RE := fun ρ μ => match a ρ μ with
  | some (w, μ1) => if isIns c μ1 w = true then match callX f [w] μ1 with
    | some (.val d, μ2) => if ok d = true then some (.val d, μ2) else none
    | _ => none
    else none
  | none => none
def okStr : D → Bool
  | .str _ => true
  | _ => false
def okLen : D → Bool
  | .int (.ofNat n) => Nat.ble n 1000000000
  | _ => false
theorem sn_strOwn {c : Str} {f : FX} {ta : TE} {a : RE} (ha : SnE K ta a) : SnE K (tCB (rStrOwn (He.ga K c) (spF K f)) (tCons ta tNil)) (mOwn1 c okStr f a) := fun ρ μ w μ' h => by
  unfold mOwn1 at h
  split at h
  · rename_i x μ1 e1
    split at h
    · rename_i hi
      split at h
      · rename_i d μ2 e2
        split at h
        · rename_i hd
          cases h
          exact fun P as σ G H R Q q => ha _ _ _ _ e1 P as σ G H R _ fun v as1 G1 H1 n1 R1 r1 => by
            obtain ⟨a', dx, fs, ev, hh⟩ := isIns_rep R1 r1 hi
            subst ev
            refine ⟨a', dx, fs, rfl, hh, call_fx (ws := [x]) R1 ⟨_, [], rfl, r1, rfl⟩ e2 fun v as2 G2 H2 n2 R2 r2 => ?_⟩
            cases d <;> first | cases hd | skip
            exact ⟨_, r2.1, q _ as2 G2 H2 (n1.trans n2) R2 r2⟩
        · cases h
      · cases h
    · cases h
  · cases h
theorem okLen_ok {i : Int} (h : okLen (.int i) = true) : 0 ≤ i ∧ i < 2 ^ 63 := by
  cases i with
  | ofNat n =>
    have h1 : n ≤ 1000000000 := Nat.le_of_ble_eq_true h
    have h2 : (2 : Int) ^ 63 = 9223372036854775808 := by decide +kernel
    rw [h2, Int.ofNat_eq_natCast]
    omega
  | negSucc n => cases h
theorem sn_lenOwn {c : Str} {f : FX} {ta : TE} {a : RE} (ha : SnE K ta a) : SnE K (tCB (rLenOwn (He.ga K c) (spF K f)) (tCons ta tNil)) (mOwn1 c okLen f a) := fun ρ μ w μ' h => by
  unfold mOwn1 at h
  split at h
  · rename_i x μ1 e1
    split at h
    · rename_i hi
      split at h
      · rename_i d μ2 e2
        split at h
        · rename_i hd
          cases h
          exact fun P as σ G H R Q q => ha _ _ _ _ e1 P as σ G H R _ fun v as1 G1 H1 n1 R1 r1 => by
            obtain ⟨a', dx, fs, ev, hh⟩ := isIns_rep R1 r1 hi
            subst ev
            refine ⟨a', dx, fs, rfl, hh, call_fx (ws := [x]) R1 ⟨_, [], rfl, r1, rfl⟩ e2 fun v as2 G2 H2 n2 R2 r2 => ?_⟩
            cases d <;> first | cases hd | skip
            exact ⟨_, r2, okLen_ok hd, q _ as2 G2 H2 (n1.trans n2) R2 r2⟩
        · cases h
      · cases h
    · cases h
  · cases h
def mEqOwn (c : Str) (f : FX) (a b : RE) : RE := fun ρ μ => match a ρ μ with
  | some (x, μ1) => match b ρ μ1 with
    | some (y, μ2) => if isIns c μ2 x = true ∧ isIns c μ2 y = true then callX f [x, y] μ2 else none
    | none => none
  | none => none
end
end DX
namespace DX
open PySem PySem.Spec PyProof.Rows L2 DK
section
variable {prog : Program} {w : World} {A : Around} {E : Value → Shared → Prop} {s : Shared}
end
section
variable {X : Cx} {pos : Pos}
end
section
variable {K : PySem.W.Frag} [HasW K]
def mStar1 (i j : Nat) (a : RE) : RS := fun ρ μ => match a ρ μ with
  | some (w, μ1) => match view μ1 w with
    | some (.lst (d :: ds)) => some (.nx ((ρ.set i (some (.val d))).set j (some (.val (.lst ds)))) μ1)
    | _ => none
  | none => none
def tMakeL (i : Nat) (C : Addr) (sp : Sp) (dvs : List V) (E : XK) (t : TA) : TE := fun σ H Q => σ[i]? = some (some (.ref C)) ∧ tMake C sp dvs E t σ H Q
theorem pe_makeL {X : Cx} {CX : CXT} {k i : Nat} {f C : Addr} {fd : FuncData} {ps : List Str} {sp : Sp} {dvs : List V} {ds : List Value} {E : XK} {x : Str} {p pos : Pos} {e : Expr} {es : List Expr} {t : TA}
    (M : Mk X.K C f) (F : FnOk X.prog X.w X.K X.mg X.base CX k f fd ps sp) (hr : Room (k + 1) X.A) (hN : X.N[i]? = some x) (hv : Vis X.env.scope x) (hb : Binds X.K fd ps ds) (hd : Vals dvs ds) (hx : Passes CX X E)
    (ha : PA X (e :: es) t) (hdb : (x == ("__debug__" : Str)) = false := by decide) (hcd : (x == ("__classdict__" : Str)) = false := by decide) (he : starEach (e :: es) X.env = (false, eval e X.env) :: starEach es X.env := by rfl) (hpl : (backTo pos (starEach es X.env)).any (·.1) = false := by rfl) :
    PE X (.Call (.Name x p) (e :: es) [] pos) (tMakeL i C sp dvs E t) := by
  refine ⟨fun pins s σ H Q I h => ?_⟩
  obtain ⟨hs, ht⟩ := h
  refine wpAny_Call_Name_kw (thn ((pe_var (pos := p) hN hv hdb hcd).run pins s σ H (fun v H1 => v = .ref C ∧ H1 = H) I ⟨.ref C, hs, rfl, rfl⟩) fun u s1 ⟨v, H1, I1, r1, q1⟩ => ?_)
  obtain ⟨rfl, rfl⟩ := q1
  cases r1
  refine PySem.W.callWith_K (h₀ := X.base) I.ok.mod.kin M.kp (thn (ha.run pos pins s1 σ _ _ I1 ht) fun us s2 ⟨vs, H2, I2, r, q⟩ => ⟨I2.kIn, ?_⟩) he hpl
  exact run_make M F hr hb hd hx I2 r q
theorem pe_makeL0 {X : Cx} {CX : CXT} {k i : Nat} {f C : Addr} {fd : FuncData} {ps : List Str} {sp : Sp} {dvs : List V} {ds : List Value} {E : XK} {x : Str} {p pos : Pos}
    (M : Mk X.K C f) (F : FnOk X.prog X.w X.K X.mg X.base CX k f fd ps sp) (hr : Room (k + 1) X.A) (hN : X.N[i]? = some x) (hv : Vis X.env.scope x) (hb : Binds X.K fd ps ds) (hd : Vals dvs ds) (hx : Passes CX X E)
    (hdb : (x == ("__debug__" : Str)) = false := by decide) (hcd : (x == ("__classdict__" : Str)) = false := by decide) : PE X (.Call (.Name x p) [] [] pos) (tMakeL i C sp dvs E tNil) := by
  refine ⟨fun pins s σ H Q I h => ?_⟩
  obtain ⟨hs, ht⟩ := h
  refine wpAny_Call_Name_kw (thn ((pe_var (pos := p) hN hv hdb hcd).run pins s σ H (fun v H1 => v = .ref C ∧ H1 = H) I ⟨.ref C, hs, rfl, rfl⟩) fun u s1 ⟨v, H1, I1, r1, q1⟩ => ?_)
  obtain ⟨rfl, rfl⟩ := q1
  cases r1
  exact PySem.W.callWith_K0 I1.kIn M.kp (run_make (us := []) M F hr hb hd hx I1 .nil ht)
def mMakeL (i : Nat) (c : Str) (m : RE) : RE := fun ρ μ => match ρ[i]? with
  | some (some (.val (.cls c'))) => if c' = c then m ρ μ else none
  | _ => none
theorem sn_makeL {i : Nat} {c : Str} {sp : Sp} {dvs : List V} {E : XK} {ta : TA} {m : RE} (hm : SnE K (tMake (He.ga K c) sp dvs E ta) m) : SnE K (tMakeL i (He.ga K c) sp dvs E ta) (mMakeL i c m) := fun ρ μ w μ' h => by
  unfold mMakeL at h
  split at h
  · rename_i c' hi
    split at h
    · rename_i ec
      subst ec
      exact fun P as σ G H R Q q => by
        obtain ⟨v, h1, h2⟩ := R.env i _ hi
        rw [show v = .ref (He.ga K c') from h2] at h1
        exact ⟨h1, hm _ _ _ _ h P as σ G H R Q q⟩
    · cases h
  · cases h
def mCMeth (c : Str) (f : FX) (dds : List D) (o : RE) (a : RA) : RE := fun ρ μ => match o ρ μ with
  | some (.val (.cls c'), μ1) => if c' = c then match a ρ μ1 with
    | some (ws, μ2) => callX f (.val (.cls c) :: (ws ++ dds.map W.val)) μ2
    | none => none
    else none
  | _ => none
theorem sn_cmeth {c : Str} {f : FX} {E : XK} {to : TE} {ta : TA} {o : RE} {a : RA} (ho : SnE K to o) (ha : SnA K ta a) : SnE K (ClX.tCMeth (He.ga K c) (spF K f) E to ta) (mCMeth c f [] o a) := fun ρ μ w μ' h => by
  unfold mCMeth at h
  split at h
  · rename_i c' μ1 e1
    split at h
    · rename_i ec
      subst ec
      split at h
      · rename_i ws μ2 e2
        rw [List.map_nil, List.append_nil] at h
        exact fun P as σ G H R Q q => ho _ _ _ _ e1 P as σ G H R _ fun v as1 G1 H1 n1 R1 r1 => ⟨r1, ha _ _ _ _ e2 P as1 σ G1 H1 R1 _ fun us as2 G2 H2 n2 R2 r2 =>
          call_fx (ws := .val (.cls c') :: ws) R2 ⟨_, us, rfl, (rfl : RepW K G2 as2 (.val (.cls c')) (.ref (He.ga K c'))), r2⟩ h fun v as3 G3 H3 n3 R3 r3 => q v as3 G3 H3 ((n1.trans n2).trans n3) R3 r3⟩
      · cases h
    · cases h
  · cases h
end
end DX
namespace DX
open PySem PySem.Spec PyProof.Rows L2 DK He
structure DefY where
  ad : PySem.W.Frag → Addr
  d : DefD
  clo : List Str := []
abbrev FnZ : Type := Option (Str × Str × Arguments × FuncBody × Scope × Addr × List Str × Addr)
def DefY.val (y : DefY) : FnZ := some (y.d.name, y.d.qual, y.d.params, .stmts y.d.body, y.d.scope, mainGlobals, y.clo, builtinsNs)
def recAd (K : PySem.W.Frag) (p : Addr) (kind : String) : Addr := match PySem.W.recIn K p kind with
  | some (.ref g :: _) => g
  | _ => 0
def fnY (K : PySem.W.Frag) (a : Addr) : FnZ := match K.lookup a with
  | some ⟨_, _, .func fd, _⟩ => some (fd.name, fd.qualname, fd.params, fd.body, fd.scope, fd.globals, fd.closure.map Prod.fst, fd.builtins)
  | _ => none
def DefY.ok (K : PySem.W.Frag) (y : DefY) : Bool := PySem.W.keepIn K (.ref (y.ad K)) && (match K.lookup (y.ad K) with
  | some ⟨_, _, .func fd, _⟩ => PySem.W.codeIn K fd.code y.d.qual && (dflB K fd.defaults (y.d.dvs K) && kwdB K fd.kwdefaults (y.d.kws K))
  | _ => false)
theorem DefY.funD {K : PySem.W.Frag} {y : DefY} (hcl : y.clo = []) (e : fnY K (y.ad K) = y.val) (c : y.ok K = true) : ∃ fd, FunD K y.d.name y.d.qual y.d.params y.d.body y.d.scope (y.d.dvs K) (y.d.kws K) (y.ad K) fd := by
  obtain ⟨kp, c2⟩ := ba c
  unfold fnY at e
  cases q : K.lookup (y.ad K) with
  | none =>
    rw [q] at c2
    cases c2
  | some o =>
    obtain ⟨oc, od, dt, osl⟩ := o
    rw [q] at c2 e
    cases dt with
    | func fd =>
      obtain ⟨n1, n2, n3, n4, n5, n6, n7, n8, n9, n10, n11, n12, n13, n14, n15⟩ := fd
      have e2 : (some (n1, n2, n3, n4, n5, n6, n7.map Prod.fst, n15) : FnZ) = some (y.d.name, y.d.qual, y.d.params, .stmts y.d.body, y.d.scope, mainGlobals, y.clo, builtinsNs) := e
      simp only [Option.some.injEq, Prod.mk.injEq] at e2
      obtain ⟨h1, h2, h3, h4, h5, h6, h7, h8⟩ := e2
      rw [hcl, List.map_eq_nil_iff] at h7
      subst h1 h2 h3 h4 h5 h6 h7 h8
      have c3 : (PySem.W.codeIn K n13 y.d.qual && (dflB K n8 (y.d.dvs K) && kwdB K n9 (y.d.kws K))) = true := c2
      obtain ⟨k1, k2⟩ := ba c3
      obtain ⟨k3, k4⟩ := ba k2
      exact ⟨_, ⟨oc, od, n8, n9, n10, n11, n12, n13, n14, osl, rfl, q, k1, dflB_ok k3, kwdB_ok k4⟩, kp⟩
    | _ => cases c2
abbrev AlY : Type := Bool × List FnZ × List (Option (List (Option (Str × Int))))
structure SpecY where
  fa : List Fa
  fn : List DefY
  dc : List (Str × List Str)
  xb : PySem.W.Frag → Bool
def visitE : List Addr → Nat → List Addr → Nat × List Addr
  | [], m, out => (m, out)
  | a :: as, m, out => bif Nat.beq (Nat.mod (Nat.shiftRight m a) 2) 0 then visitE as (Nat.lor m (Nat.shiftLeft 1 a)) (a :: out) else visitE as m out
def growE (g : Addr → Option Obj) : Nat → List Addr → Nat → List Addr → List Addr
  | 0, _, _, acc => acc
  | n + 1, fr, m, acc => match visitE (fr.flatMap fun a => match g a with
      | some o => He.refsD o
      | none => []) m [] with
    | (m', new) => growE g n new m' (new ++ acc)
def asE (g : Addr → Option Obj) (n : Nat) : List Addr := growE g n [mainGlobals, cStatics] (2 ^ mainGlobals + 2 ^ cStatics) [mainGlobals, cStatics]
def obsYK (S : SpecY) (K : PySem.W.Frag) : AlY := ((S.fa.all fun f => f.ok K) && ((S.fn.all fun d => d.ok K) && S.xb K), S.fn.map fun d => fnY K (d.ad K), S.dc.map fun d => dicW K (ga K d.1))
def obsY (n : Nat) (S : SpecY) (g : Addr → Option Obj) : AlY := obsYK S (frG g (asE g n).reverse)
def valY (S : SpecY) (w : World) : AlY := (true, S.fn.map fun d => d.val, S.dc.map fun d => some (keysIn w.params d.2))
def SaysY (S : SpecY) (w : World) (K : PySem.W.Frag) : Prop := obsYK S K = valY S w
def hookY (n : Nat) (S : SpecY) : PySem.W.Hook where
  α := AlY
  obs := fun s => obsY n S s.heap.get?
  val := fun w => valY S w
  says := fun w h => ∃ K : PySem.W.Frag, K.In h ∧ SaysY S w K
  of := fun _ _ e => ⟨_, frG_in, e⟩
  keeps := fun _ _ _ ⟨K, hK, c⟩ k => ⟨K, PySem.W.Frag.In.keeps hK k, c⟩
theorem obsY_eq {n : Nat} {S : SpecY} {g : Addr → Option Obj} {s : Shared} (h : ∀ a, g a = s.heap.get? a) : obsY n S g = (hookY n S).obs s := by
  have e : g = s.heap.get? := funext h
  rw [e] <;> rfl
section
variable {S : SpecY} {w : World} {K : PySem.W.Frag}
theorem SaysY.b (c : SaysY S w K) : ((S.fa.all fun f => f.ok K) && ((S.fn.all fun d => d.ok K) && S.xb K)) = true := congrArg (fun z : AlY => z.1) c
theorem SaysY.fact (c : SaysY S w K) (i : Nat) {f : Fa} (h : S.fa[i]? = some f := by rfl) : f.ok K = true := List.all_eq_true.mp (ba c.b).1 f (List.mem_of_getElem? h)
theorem SaysY.x (c : SaysY S w K) : S.xb K = true := (ba (ba c.b).2).2
theorem SaysY.seen (c : SaysY S w K) (i : Nat) {y : DefY} (h : S.fn[i]? = some y := by rfl) : fnY K (y.ad K) = y.val ∧ y.ok K = true := by
  have e : S.fn.map (fun d => fnY K (d.ad K)) = S.fn.map fun d => d.val := congrArg (fun z : AlY => z.2.1) c
  have e2 : (S.fn.map fun d => fnY K (d.ad K))[i]? = (S.fn.map fun d => d.val)[i]? := by rw [e]
  rw [List.getElem?_map, List.getElem?_map, h] at e2
  exact ⟨Option.some.inj e2, List.all_eq_true.mp (ba (ba c.b).2).1 y (List.mem_of_getElem? h)⟩
theorem SaysY.def_ (c : SaysY S w K) (i : Nat) {y : DefY} (h : S.fn[i]? = some y := by rfl) (hcl : y.clo = [] := by rfl) : ∃ fd, FunD K y.d.name y.d.qual y.d.params y.d.body y.d.scope (y.d.dvs K) (y.d.kws K) (y.ad K) fd := by
  obtain ⟨e, k⟩ := c.seen i h
  exact DefY.funD hcl e k
theorem SaysY.dict (c : SaysY S w K) (i : Nat) {d : Str × List Str} (h : S.dc[i]? = some d := by rfl) : dicW K (ga K d.1) = some (keysIn w.params d.2) := by
  have e : S.dc.map (fun d => dicW K (ga K d.1)) = S.dc.map fun d => some (keysIn w.params d.2) := congrArg (fun z : AlY => z.2.2) c
  have e2 : (S.dc.map fun d => dicW K (ga K d.1))[i]? = (S.dc.map fun d => some (keysIn w.params d.2))[i]? := by rw [e]
  rw [List.getElem?_map, List.getElem?_map, h] at e2
  exact Option.some.inj e2
end
end DX
namespace DX
open PySem PySem.Spec PyProof.Rows L2 DK
section
variable {X : Cx} {d : Addr} {es : Array DictEntry} {n : Nat}
end
section
variable {K : PySem.W.Frag} [HasW K] {w : World}
def mKGet (kvs : List (Str × D)) (a : RE) : RE := fun ρ μ => match a ρ μ with
  | some (.val (.str z), μ1) => some (.val ((kvs.lookup z).getD .non), μ1)
  | _ => none
end
theorem units2 {k : Nat} {A : Around} (r : Room k A) : A.units + 2 < cLine := by have := r.un; omega
section
open He
variable {K : PySem.W.Frag} [HasW K]
def crB (K : PySem.W.Frag) (c : Str) : Bool := PySem.W.readsIn K (ga K c) (.type "type") && eqO (PySem.W.specialIn K (.ref (ga K c)) "__getattribute__") (some (some (.builtin "type.__getattribute__")))
theorem crB_ok {c : Str} (h : crB K c = true) : ClX.CRead K (ga K c) (.type "type") := by
  obtain ⟨h1, h2⟩ := ba h
  exact ⟨h1, eqO_ok h2⟩
def cmB (K : PySem.W.Frag) (c m : Str) : Bool := (match PySem.W.findCls K (.ref (ga K c)) (.type "type") m with
  | some (.get (.builtin id) (.ref p) .none (.ref D)) => decide (id = "classmethod.__get__") && (decide (p = ma K (ga K c) m) && decide (D = ga K c))
  | _ => false) && ((match PySem.W.recIn K (ma K (ga K c) m) "classmethod" with
  | some (.ref _ :: _) => true
  | _ => false) && PySem.W.fnIn K (recAd K (ma K (ga K c) m) "classmethod"))
theorem cmB_ok {c m : Str} (h : cmB K c m = true) : ClX.CMet K (ga K c) (.type "type") m (ma K (ga K c) m) (recAd K (ma K (ga K c) m) "classmethod") := by
  obtain ⟨h1, h2⟩ := ba h
  obtain ⟨h3, h4⟩ := ba h2
  refine ⟨?_, ?_, h4⟩
  · split at h1
    · rename_i id p D e
      obtain ⟨k1, k2⟩ := ba h1
      obtain ⟨k3, k4⟩ := ba k2
      rw [e, of_decide_eq_true k1, of_decide_eq_true k3, of_decide_eq_true k4]
    · cases h1
  · split at h3
    · rename_i g rest e
      refine ⟨rest, ?_⟩
      unfold recAd
      rw [e]
    · cases h3
def fsB (K : PySem.W.Frag) (c m : Str) : Bool := eqO (PySem.W.findIn K (.ref (ga K c)) m) (some (some (.ref (ma K (ga K c) m)))) && PySem.W.isFn K (.ref (ma K (ga K c) m))
theorem fsB_ok {c m : Str} (h : fsB K c m = true) : PySem.W.findIn K (.ref (ga K c)) m = some (some (.ref (ma K (ga K c) m))) ∧ PySem.W.isFn K (.ref (ma K (ga K c) m)) = true := by
  obtain ⟨h1, h2⟩ := ba h
  exact ⟨eqO_ok h1, h2⟩
def tup0B (K : PySem.W.Frag) (a : Addr) : Bool := match K.lookup a with
  | some ⟨.type c, _, .seq its _, _⟩ => decide (c = "tuple") && its.isEmpty
  | _ => false
theorem tup0B_ok {a : Addr} (h : tup0B K a = true) (H : Hp) : SqT K H a [] := by
  unfold tup0B at h
  split at h
  · rename_i c od its n sl e
    obtain ⟨h1, h2⟩ := ba h
    have e1 := of_decide_eq_true h1
    have e2 : its = #[] := Array.isEmpty_iff.mp h2
    subst e1 e2
    exact .inr ⟨_, #[], n, e, rfl, rfl, Nat.zero_le _, .nil⟩
  · cases h
end
end DX
namespace DX.K14
open PySem PySem.Spec PyProof.Rows L2 DK
def top (i : Nat) : Stmt := PySem.Challenge.pw_deskcards_k14_terms_and_stories.main.body.getD i (.Pass ⟨0, 0, 0, 0⟩)
abbrev st_is_integer : Stmt := top 8
abbrev st_is_number : Stmt := top 9
abbrev st_is_sequence : Stmt := top 10
abbrev st_number_in : Stmt := top 11
abbrev st_Terms_init : Stmt := (stmtsOf (top 13)).getD 0 (.Pass ⟨0, 0, 0, 0⟩)
abbrev st_Terms_lets : Stmt := (stmtsOf (top 13)).getD 2 (.Pass ⟨0, 0, 0, 0⟩)
abbrev st_Terms_but : Stmt := (stmtsOf (top 13)).getD 3 (.Pass ⟨0, 0, 0, 0⟩)
abbrev st_Terms_str : Stmt := (stmtsOf (top 13)).getD 6 (.Pass ⟨0, 0, 0, 0⟩)
abbrev st_parse : Stmt := top 15
abbrev st_is_possible : Stmt := top 16
abbrev st_needs_of : Stmt := top 17
abbrev st_Story_init : Stmt := (stmtsOf (top 18)).getD 0 (.Pass ⟨0, 0, 0, 0⟩)
abbrev st_Story_read : Stmt := (stmtsOf (top 18)).getD 1 (.Pass ⟨0, 0, 0, 0⟩)
abbrev st_Story_upto : Stmt := (stmtsOf (top 18)).getD 3 (.Pass ⟨0, 0, 0, 0⟩)
abbrev st_Story_len : Stmt := (stmtsOf (top 18)).getD 5 (.Pass ⟨0, 0, 0, 0⟩)
abbrev st_law_deal : Stmt := top 20
abbrev st_law_draw : Stmt := top 21
abbrev st_law_needs : Stmt := top 22
abbrev st_law_lets : Stmt := top 23
abbrev st_law_pick : Stmt := top 24
abbrev st_law_events : Stmt := top 25
abbrev st_law_one : Stmt := top 26
abbrev st_law_less_right : Stmt := top 27
abbrev st_law : Stmt := top 28
def dfl_Terms_init : List He.Dv := [.non, .bl false, .bl false]
def dfl_Story_init : List He.Dv := [.adr (He.dflAt ("Story", some "__init__") 0)]
def dq_is_integer : DefY := ⟨fun K => He.ga K "is_integer", ⟨("is_integer", none), "is_integer", "is_integer", defArgs st_is_integer, defBody st_is_integer, defScope st_is_integer, [], []⟩, []⟩
def dq_is_number : DefY := ⟨fun K => He.ga K "is_number", ⟨("is_number", none), "is_number", "is_number", defArgs st_is_number, defBody st_is_number, defScope st_is_number, [], []⟩, []⟩
def dq_is_sequence : DefY := ⟨fun K => He.ga K "is_sequence", ⟨("is_sequence", none), "is_sequence", "is_sequence", defArgs st_is_sequence, defBody st_is_sequence, defScope st_is_sequence, [], []⟩, []⟩
def dq_number_in : DefY := ⟨fun K => He.ga K "number_in", ⟨("number_in", none), "number_in", "number_in", defArgs st_number_in, defBody st_number_in, defScope st_number_in, [], []⟩, []⟩
def dq_Terms_init : DefY := ⟨fun K => He.ma K (He.ga K "Terms") "__init__", ⟨("Terms", some "__init__"), "__init__", "Terms.__init__", defArgs st_Terms_init, defBody st_Terms_init, defScope st_Terms_init, dfl_Terms_init, []⟩, []⟩
def dq_Terms_lets : DefY := ⟨fun K => He.ma K (He.ga K "Terms") "lets", ⟨("Terms", some "lets"), "lets", "Terms.lets", defArgs st_Terms_lets, defBody st_Terms_lets, defScope st_Terms_lets, [], []⟩, []⟩
def dq_Terms_but : DefY := ⟨fun K => He.ma K (He.ga K "Terms") "but", ⟨("Terms", some "but"), "but", "Terms.but", defArgs st_Terms_but, defBody st_Terms_but, defScope st_Terms_but, [], []⟩, []⟩
def dq_Terms_str : DefY := ⟨fun K => He.ma K (He.ga K "Terms") "__str__", ⟨("Terms", some "__str__"), "__str__", "Terms.__str__", defArgs st_Terms_str, defBody st_Terms_str, defScope st_Terms_str, [], []⟩, []⟩
def dq_parse : DefY := ⟨fun K => He.ga K "parse", ⟨("parse", none), "parse", "parse", defArgs st_parse, defBody st_parse, defScope st_parse, [], []⟩, []⟩
def dq_is_possible : DefY := ⟨fun K => He.ga K "is_possible", ⟨("is_possible", none), "is_possible", "is_possible", defArgs st_is_possible, defBody st_is_possible, defScope st_is_possible, [], []⟩, []⟩
def dq_needs_of : DefY := ⟨fun K => He.ga K "needs_of", ⟨("needs_of", none), "needs_of", "needs_of", defArgs st_needs_of, defBody st_needs_of, defScope st_needs_of, [], []⟩, []⟩
def dq_Story_init : DefY := ⟨fun K => He.ma K (He.ga K "Story") "__init__", ⟨("Story", some "__init__"), "__init__", "Story.__init__", defArgs st_Story_init, defBody st_Story_init, defScope st_Story_init, dfl_Story_init, []⟩, []⟩
def dq_Story_read : DefY := ⟨fun K => recAd K (He.ma K (He.ga K "Story") "read") "classmethod", ⟨("Story", some "read"), "read", "Story.read", defArgs st_Story_read, defBody st_Story_read, defScope st_Story_read, [], []⟩, []⟩
def dq_Story_upto : DefY := ⟨fun K => He.ma K (He.ga K "Story") "upto", ⟨("Story", some "upto"), "upto", "Story.upto", defArgs st_Story_upto, defBody st_Story_upto, defScope st_Story_upto, [], []⟩, []⟩
def dq_Story_len : DefY := ⟨fun K => He.ma K (He.ga K "Story") "__len__", ⟨("Story", some "__len__"), "__len__", "Story.__len__", defArgs st_Story_len, defBody st_Story_len, defScope st_Story_len, [], []⟩, []⟩
def dq_law_deal : DefY := ⟨fun K => He.ga K "_law_deal", ⟨("_law_deal", none), "_law_deal", "_law_deal", defArgs st_law_deal, defBody st_law_deal, defScope st_law_deal, [], []⟩, []⟩
def dq_law_draw : DefY := ⟨fun K => He.ga K "_law_draw", ⟨("_law_draw", none), "_law_draw", "_law_draw", defArgs st_law_draw, defBody st_law_draw, defScope st_law_draw, [], []⟩, []⟩
def dq_law_needs : DefY := ⟨fun K => He.ga K "_law_needs", ⟨("_law_needs", none), "_law_needs", "_law_needs", defArgs st_law_needs, defBody st_law_needs, defScope st_law_needs, [], []⟩, []⟩
def dq_law_lets : DefY := ⟨fun K => He.ga K "_law_lets", ⟨("_law_lets", none), "_law_lets", "_law_lets", defArgs st_law_lets, defBody st_law_lets, defScope st_law_lets, [], []⟩, []⟩
def dq_law_pick : DefY := ⟨fun K => He.ga K "_law_pick", ⟨("_law_pick", none), "_law_pick", "_law_pick", defArgs st_law_pick, defBody st_law_pick, defScope st_law_pick, [], []⟩, []⟩
def dq_law_events : DefY := ⟨fun K => He.ga K "_law_events", ⟨("_law_events", none), "_law_events", "_law_events", defArgs st_law_events, defBody st_law_events, defScope st_law_events, [], []⟩, []⟩
def dq_law_one : DefY := ⟨fun K => He.ga K "_law_one", ⟨("_law_one", none), "_law_one", "_law_one", defArgs st_law_one, defBody st_law_one, defScope st_law_one, [], []⟩, []⟩
def dq_law_less_right : DefY := ⟨fun K => He.ga K "_law_less_right", ⟨("_law_less_right", none), "_law_less_right", "_law_less_right", defArgs st_law_less_right, defBody st_law_less_right, defScope st_law_less_right, [], []⟩, []⟩
def dq_law : DefY := ⟨fun K => He.ga K "law", ⟨("law", none), "law", "law", defArgs st_law, defBody st_law, defScope st_law, [], []⟩, []⟩
def fn : List DefY := [dq_is_integer, dq_is_number, dq_is_sequence, dq_number_in, dq_Terms_init, dq_Terms_lets, dq_Terms_but, dq_Terms_str, dq_parse, dq_is_possible, dq_needs_of, dq_Story_init, dq_Story_read, dq_Story_upto, dq_Story_len, dq_law_deal, dq_law_draw, dq_law_needs, dq_law_lets, dq_law_pick, dq_law_events, dq_law_one, dq_law_less_right, dq_law]
def fa : List He.Fa := ([.free "abs", .free "all", .free "bool", .free "enumerate", .free "int", .free "isinstance", .free "len", .free "list", .free "max", .free "range", .free "repr", .free "str", .free "tuple", .str "DIGITS" "0123456789", .glo "Story", .glo "Terms", .glo "is_integer", .glo "is_number", .glo "is_sequence", .glo "number_in", .mkr "Terms", .meth "Terms" "lets", .meth "Terms" "but", .glo "parse", .glo "is_possible", .glo "needs_of", .mkr "Story", .meth "Story" "upto", .glo "_law_deal", .glo "_law_draw"] : List He.Fa) ++ ([.glo "_law_needs", .glo "_law_lets", .glo "_law_pick", .glo "_law_events", .glo "_law_one", .glo "_law_less_right", .glo "law", .cls "Story", .cls "Terms"] : List He.Fa)
abbrev R : PySem.W.OpenRow := PySem.W.OpenLaw.row PySem.Challenge.rw_deskcards_k14_terms_and_stories
def xl0 (K : PySem.W.Frag) : List Bool := [clsB K "Story", clsB K "Terms", noB K "Story" ["events"], noB K "Story" ["needs"], noB K "Story" ["parsed"], noB K "Terms" ["elder"], noB K "Terms" ["house"], noB K "Terms" ["skips"], crB K "Story", cmB K "Story" "read", fsB K "Story" "__len__", fsB K "Terms" "__str__", tup0B K (He.dflAt ("Story", some "__init__") 0 K)]
def xb (K : PySem.W.Frag) : Bool := (xl0 K).all id
theorem xb_all {K : PySem.W.Frag} (h : xb K = true) : (xl0 K).all id = true := by
  unfold xb at h
  exact h
theorem xb_at {l : List Bool} (h : l.all id = true) (i : Nat) (b : Bool) (e : l[i]? = some b) : b = true := List.all_eq_true.mp h b (List.mem_of_getElem? e)
def sy : SpecY := ⟨fa, fn, [], xb⟩
abbrev hk : PySem.W.Hook := hookY 6 sy
def ob (s : PySem.W.SharedT) : AlY := obsY 6 sy (HandSHeadRun.getT s)
theorem ob_eq (s : PySem.W.SharedT) : ob s = hk.obs s.abs := obsY_eq (HandSHeadRun.getT_eq s)
def names0 : List PySem.Str := ["_wall", "__name__", "CardError", "InvalidTerms", "InvalidText", "InvalidEvent", "DIGITS", "is_integer", "is_number", "is_sequence", "number_in", "Terms", "parse", "is_possible", "needs_of", "Story", "_law_deal", "_law_draw", "_law_needs", "_law_lets"]
def names1 : List PySem.Str := ["_law_pick", "_law_events", "_law_one", "_law_less_right"]
def names : List PySem.Str := names0 ++ names1
theorem run_false (w : World) : HandSHeadRun.RunEq R (PySem.W.view R.prog [28]) hk ob 20000 names (w.withFollow "special-get-raises" false) := by
  intro os
  kernel_rfl
theorem run_true (w : World) : HandSHeadRun.RunEq R (PySem.W.view R.prog [28]) hk ob 20000 names (w.withFollow "special-get-raises" true) := by
  intro os
  kernel_rfl
theorem run (w : World) : HandSHeadRun.RunEq R (PySem.W.view R.prog [28]) hk ob 20000 names w := PySem.W.byRow2 "special-get-raises" run_false run_true w
end DX.K14
namespace DX
open PySem PySem.Spec PyProof.Rows L2 DK
section
variable {X : Cx} {CX : CXT} {k : Nat} {f : Addr} {fd : FuncData} {ps : List Str} {sp : Sp} {dvs : List V} {ds : List Value} {E : XK} {x : Str} {p pos : Pos} {e : Expr} {es : List Expr} {t : TA}
end
section
variable {X : Cx}
end
end DX
namespace DX
open PySem PySem.Spec L2 DK
def cc_BARRED : List Str := ["and", "do", "if", "mark", "not", "open", "shut", "then"]
def cc_LEARNING : List Str := ["next", "near", "far", "house"]
def cc_WORDS : List Str := ["same", "next", "near", "far", "last", "elder", "house"]
def dd_Story_init_1 : List D := [.tup []]
def m_is_integer : RS :=
  (mRet (mAndV (mUn (isTF "int") (mVar 0)) (mNotV (mUn (isTF "bool") (mVar 0)))))
def f_is_integer : FX := bodyF true 1 1 m_is_integer
def m_is_sequence : RS :=
  (mRet (mUn isSeqF (mVar 0)))
def f_is_sequence : FX := bodyF true 1 1 m_is_sequence
def m_is_name : RS :=
  (mSeq (mIfS (mOr (mNot (mTest (mUn (isTF "str") (mVar 0)))) (mNot (mTest (mChain leF leF (mC (.int 1)) (mUn lenF (mVar 0)) (mC (.int 4)))))) (mRet (mC (.bl false))) mNext)
      (mRet (mAndV (mUn allF (mLc (kStr (mVar 0)) (hName 1) mYes (mOp (inF false) (mVar 1) (mC (.str "abcdefghijklmnopqrstuvwxyz"))) [1])) (mOp (inF true) (mVar 0) (mC (.tup (cc_BARRED.map D.str)))))))
def f_is_name : FX := bodyF true 1 2 m_is_name
def m_is_test : RS :=
  (mSeq (mIfS (mNot (mTest (mUn (isTF "str") (mVar 0)))) (mRet (mC (.bl false))) mNext)
      (mSeq (mAsg (mOp splitF (mVar 0) (mC (.str " "))) (hName 1))
      (mSeq (mIfS (mTest (mOp (eqF false) (mIx (mVar 1) (mC (.int 0))) (mC (.str "not")))) (mAsg (mSl (mVar 1) (mPart (mC (.int 1))) mNoPart) (hName 1)) mNext)
      (mRet (mAndV (mOp (eqF false) (mUn lenF (mVar 1)) (mC (.int 2))) (mAndV (mOp (eqF false) (mIx (mVar 1) (mC (.int 0))) (mC (.str "marked"))) (mCall f_is_name [] (mCons (mIx (mVar 1) (mC (.int 1))) mNil))))))))
def f_is_test : FX := bodyF true 1 2 m_is_test
def m_is_deed : RS :=
  (mSeq (mIfS (mNot (mTest (mUn (isTF "str") (mVar 0)))) (mRet (mC (.bl false))) mNext)
      (mSeq (mAsg (mOp splitF (mVar 0) (mC (.str " "))) (hName 1))
      (mRet (mOrV (mOp (eqF false) (mVar 1) (mLst (mCons (mC (.str "learn")) mNil))) (mAndV (mOp (eqF false) (mUn lenF (mVar 1)) (mC (.int 2))) (mAndV (mOp (inF false) (mIx (mVar 1) (mC (.int 0))) (mTup (mCons (mC (.str "mark")) (mCons (mC (.str "clear")) mNil)))) (mCall f_is_name [] (mCons (mIx (mVar 1) (mC (.int 1))) mNil))))))))
def f_is_deed : FX := bodyF true 1 2 m_is_deed
def m_number_in : RS :=
  (mSeq (mIfS (mOr (mNot (mTest (mChain leF leF (mC (.int 1)) (mUn lenF (mVar 0)) (mVar 1)))) (mNot (mTest (mUn allF (mLc (kStr (mVar 0)) (hName 2) mYes (mOp (inF false) (mVar 2) (mC (.str "0123456789"))) [2]))))) (mRet (mC .non)) mNext)
      (mRet (mIf (mOr (mTest (mOp (eqF false) (mVar 0) (mC (.str "0")))) (mTest (mOp (eqF true) (mIx (mVar 0) (mC (.int 0))) (mC (.str "0"))))) (mUn intF2 (mVar 0)) (mC .non))))
def f_number_in : FX := bodyF true 2 3 m_number_in
def m_parts_between : RS :=
  (mRet (mIf (mTest (mOp (eqF false) (mSl (mVar 0) mNoPart (mPart (mC (.int 1)))) (mLst (mCons (mVar 1) mNil)))) (mOp splitF (mJoin (mC (.str " ")) (mSl (mVar 0) (mPart (mC (.int 1))) mNoPart)) (mJoined (jCons (mC (.str " ")) (jCons (mUn fmtF (mVar 2)) (jCons (mC (.str " ")) jNil))))) (mLst mNil)))
def f_parts_between : FX := bodyF true 3 3 m_parts_between
def m_is_possible : RS :=
  (mSeq (mIfS (mTest (mIsN false (mVar 0))) (mRet (mC (.bl false))) mNext)
      (mRet (mOrV (mOp (eqF false) (mIx (mVar 0) (mC (.int 0))) (mC (.str "give"))) (mAndV (mOp gtF (mVar 1) (mC (.int 0))) (mOrV (mOp (eqF false) (mIx (mVar 0) (mC (.int 0))) (mC (.str "house"))) (mChain leF leF (mC (.int 1)) (mIx (mVar 0) (mC (.int 1))) (mVar 1)))))))
def f_is_possible : FX := bodyF true 2 2 m_is_possible
def m_is_number : RS :=
  (mRet (mAndV (mCall f_is_integer [] (mCons (mVar 0) mNil)) (mOp geF (mVar 0) (mC (.int 0)))))
def f_is_number : FX := bodyF true 1 1 m_is_number
def m_parse : RS :=
  (mSeq (mAsg (mIf (mTest (mUn (isTF "str") (mVar 0))) (mOp splitF (mVar 0) (mC (.str " "))) (mLst mNil)) (hName 1))
      (mSeq (mIfS (mTest (mOp inF2 (mVar 1) (mTup (mCons (mLst (mCons (mC (.str "give")) mNil)) (mCons (mLst (mCons (mC (.str "house")) mNil)) mNil))))) (mRet (mTup (mCons (mIx (mVar 1) (mC (.int 0))) mNil))) mNext)
      (mSeq (mAsg (mIf (mAnd (mTest (mOp (eqF false) (mUn lenF (mVar 1)) (mC (.int 2)))) (mTest (mOp (eqF false) (mIx (mVar 1) (mC (.int 0))) (mC (.str "try"))))) (mCall f_number_in [] (mCons (mIx (mVar 1) (mC (.int 1))) (mCons (mC (.int 2)) mNil))) (mC .non)) (hName 2))
      (mRet (mIf (mTest (mIsN false (mVar 2))) (mC .non) (mTup (mCons (mC (.str "try")) (mCons (mVar 2) mNil))))))))
def f_parse : FX := bodyF true 1 3 m_parse
def m_Terms_init : RS :=
  (mSeq (mIfS (mAnd (mTest (mIsN true (mVar 1))) (mNot (mTest (mCall f_is_number [] (mCons (mVar 1) mNil))))) mNever mNext)
      (mSeq (mIfS (mNot (mTest (mUn (isTF "bool") (mVar 2)))) mNever mNext)
      (mSeq (mIfS (mNot (mTest (mUn (isTF "bool") (mVar 3)))) mNever mNext)
      (mSeq (mFldS "Terms" "skips" (mVar 0) (mVar 1))
      (mSeq (mFldS "Terms" "elder" (mVar 0) (mVar 2))
      (mFldS "Terms" "house" (mVar 0) (mVar 3)))))))
def f_Terms_init : FX := bodyF true 4 4 m_Terms_init
def m_needs_of_1 : RS :=
  (mIfS (mTest (mOp (eqF false) (mIx (mVar 5) (mC (.int 0))) (mC (.str "give")))) (mSeq (mAsg (mOp maxF (mVar 3) (mOp minusF (mVar 1) (mVar 2))) (hName 3))
      (mAug 1 (mC (.int 1)))) (mIfS (mTest (mOp (eqF false) (mIx (mVar 5) (mC (.int 0))) (mC (.str "try")))) (mSeq (mAsg (mOp maxF (mVar 2) (mUn intF (mIx (mVar 5) (mC (.int 1))))) (hName 2))
      (mAsg (mOrV (mVar 4) (mOp (eqF true) (mIx (mVar 5) (mC (.int 1))) (mVar 1))) (hName 4))) mNext))
def m_needs_of : RS :=
  (mSeq (mParN [1, 2, 3, 4] (mCons (mC (.int 0)) (mCons (mC (.int 0)) (mCons (mC (.int 0)) (mCons (mC (.bl false)) mNil)))))
      (mSeq (mFor (kSeq (mVar 0)) (hName 5) m_needs_of_1)
      (mRet (mMake "Terms" f_Terms_init [] (mCons (mVar 3) (mCons (mVar 4) (mCons (mOp inF2 (mTup (mCons (mC (.str "house")) mNil)) (mVar 0)) mNil)))))))
def f_needs_of : FX := bodyF true 1 6 m_needs_of
def m_Story_init_1 : RS :=
  (mSeq (mAsg (mCall f_parse [] (mCons (mVar 5) mNil)) (hName 6))
      (mSeq (mIfS (mNot (mTest (mCall f_is_possible [] (mCons (mVar 6) (mCons (mVar 3) mNil))))) mNever mNext)
      (mSeq (mAug 3 (mUn intF (mOp (eqF false) (mIx (mVar 6) (mC (.int 0))) (mC (.str "give")))))
      (mDrop (mAppend (mVar 2) (mCons (mVar 6) mNil))))))
def m_Story_init : RS :=
  (mSeq (mIfS (mNot (mTest (mCall f_is_sequence [] (mCons (mVar 1) mNil)))) mNever mNext)
      (mSeq (mPar 2 3 (mCons (mLstM mNil) (mCons (mC (.int 0)) mNil)))
      (mSeq (mFor (kEnum (mCons (mVar 1) mNil)) (hTup 2 (hCons (hName 4) (hCons (hName 5) hNil))) m_Story_init_1)
      (mSeq (mFldS "Story" "events" (mVar 0) (mUn tupF (mVar 1)))
      (mSeq (mFldS "Story" "parsed" (mVar 0) (mUn tupF (mVar 2)))
      (mFldS "Story" "needs" (mVar 0) (mCall f_needs_of [] (mCons (mFld "Story" "parsed" (mVar 0)) mNil))))))))
def f_Story_init : FX := bodyF true 2 7 m_Story_init
def m_Story_read : RS :=
  (mSeq (mIfS (mTest (mOp (eqF false) (mVar 1) (mC (.str "-")))) (mRet (mMakeL 0 "Story" (mMake "Story" f_Story_init dd_Story_init_1 mNil))) mNext)
      (mSeq ((mAsg (mMakeL 0 "Story" (mMake "Story" f_Story_init [] (mCons (mOp splitF (mVar 1) (mC (.str "; "))) mNil))) (hName 2)))
      (mRet (mVar 2))))
def f_Story_read : FX := bodyF true 2 4 m_Story_read
def m_Story_len : RS :=
  (mRet (mUn lenF (mFld "Story" "events" (mVar 0))))
def f_Story_len : FX := bodyF true 1 1 m_Story_len
def m_Story_upto : RS :=
  (mRet (mMake "Story" f_Story_init [] (mCons (mSl (mFld "Story" "events" (mVar 0)) mNoPart (mPart (mVar 1))) mNil)))
def f_Story_upto : FX := bodyF true 2 2 m_Story_upto
end DX
namespace DX
open PySem PySem.Spec L2 DK
variable {ρ : Env'} {μ : Mu}
def Out.then (o : Out) (b : RS) : Option Out := match o with
  | .nx ρ μ => b ρ μ
  | o => some o
theorem then_nx {b : RS} : Out.then (.nx ρ μ) b = b ρ μ := rfl
theorem then_rt {w : W} {b : RS} : Out.then (.rt w μ) b = some (.rt w μ) := rfl
theorem then_ct {b : RS} : Out.then (.ct ρ μ) b = some (.ct ρ μ) := rfl
theorem then_bk {b : RS} : Out.then (.bk ρ μ) b = some (.bk ρ μ) := rfl
theorem q_seq {a b : RS} : mSeq a b ρ μ = (a ρ μ).bind fun o => Out.then o b := by
  unfold mSeq
  cases a ρ μ with
  | none => rfl
  | some o => cases o <;> rfl
theorem ite_bind {α β : Type} {p : Prop} [Decidable p] {x y : Option α} {f : α → Option β} : (if p then x else y).bind f = if p then x.bind f else y.bind f := by split <;> rfl
theorem q_ifS {t : RB} {a b : RS} : mIfS t a b ρ μ = (t ρ μ).bind fun p => if p.1 = true then a ρ p.2 else b ρ p.2 := by
  unfold mIfS
  cases t ρ μ with
  | none => rfl
  | some p => obtain ⟨k, μ1⟩ := p; cases k <;> rfl
theorem q_if {t : RB} {a b : RE} : mIf t a b ρ μ = (t ρ μ).bind fun p => if p.1 = true then a ρ p.2 else b ρ p.2 := by
  unfold mIf
  cases t ρ μ with
  | none => rfl
  | some p => obtain ⟨k, μ1⟩ := p; cases k <;> rfl
theorem q_and {a b : RB} : mAnd a b ρ μ = (a ρ μ).bind fun p => if p.1 = true then b ρ p.2 else some (false, p.2) := by
  unfold mAnd
  cases a ρ μ with
  | none => rfl
  | some p => obtain ⟨k, μ1⟩ := p; cases k <;> rfl
theorem q_or {a b : RB} : mOr a b ρ μ = (a ρ μ).bind fun p => if p.1 = true then some (true, p.2) else b ρ p.2 := by
  unfold mOr
  cases a ρ μ with
  | none => rfl
  | some p => obtain ⟨k, μ1⟩ := p; cases k <;> rfl
theorem q_not {a : RB} : mNot a ρ μ = (a ρ μ).bind fun p => some (!p.1, p.2) := by
  unfold mNot
  cases a ρ μ <;> rfl
theorem q_andV {a b : RE} : mAndV a b ρ μ = (mTest a ρ μ).bind fun p => if p.1 = true then b ρ p.2 else some (.val (.bl false), p.2) := by
  unfold mAndV
  cases mTest a ρ μ with
  | none => rfl
  | some p => obtain ⟨k, μ1⟩ := p; cases k <;> rfl
theorem q_orV {a b : RE} : mOrV a b ρ μ = (mTest a ρ μ).bind fun p => if p.1 = true then some (.val (.bl true), p.2) else b ρ p.2 := by
  unfold mOrV
  cases mTest a ρ μ with
  | none => rfl
  | some p => obtain ⟨k, μ1⟩ := p; cases k <;> rfl
theorem q_notV {a : RE} : mNotV a ρ μ = (mTest a ρ μ).bind fun p => some (.val (.bl (!p.1)), p.2) := by
  unfold mNotV
  cases mTest a ρ μ <;> rfl
theorem q_test {a : RE} : mTest a ρ μ = (a ρ μ).bind fun p => (isBl p.1).bind fun b => some (b, p.2) := by
  unfold mTest
  cases a ρ μ with
  | none => rfl
  | some p => obtain ⟨w, μ1⟩ := p; dsimp only [Option.bind]; cases isBl w <;> rfl
theorem q_op {f : D → D → Option D} {a b : RE} : mOp f a b ρ μ = (a ρ μ).bind fun p => (b ρ p.2).bind fun q => (view q.2 p.1).bind fun d => (view q.2 q.1).bind fun e => (f d e).bind fun r => some (.val r, q.2) := by
  unfold mOp
  cases a ρ μ with
  | none => rfl
  | some p =>
    obtain ⟨w, μ1⟩ := p
    dsimp only [Option.bind]
    cases b ρ μ1 with
    | none => rfl
    | some q =>
      obtain ⟨v, μ2⟩ := q
      dsimp only
      cases view μ2 w with
      | none => cases view μ2 v <;> rfl
      | some d =>
        cases view μ2 v with
        | none => rfl
        | some e => dsimp only; cases f d e <;> rfl
theorem q_un {f : D → Option D} {a : RE} : mUn f a ρ μ = (a ρ μ).bind fun p => (view p.2 p.1).bind fun d => (f d).bind fun r => some (.val r, p.2) := by
  unfold mUn
  cases a ρ μ with
  | none => rfl
  | some p =>
    obtain ⟨w, μ1⟩ := p
    dsimp only [Option.bind]
    cases view μ1 w with
    | none => rfl
    | some d => dsimp only; cases f d <;> rfl
theorem q_asg {a : RE} {g : RG} : mAsg a g ρ μ = (a ρ μ).bind fun p => (g p.1 ρ).bind fun ρ1 => some (.nx ρ1 p.2) := by
  unfold mAsg
  cases a ρ μ with
  | none => rfl
  | some p => obtain ⟨w, μ1⟩ := p; dsimp only [Option.bind]; cases g w ρ <;> rfl
theorem q_ret {a : RE} : mRet a ρ μ = (a ρ μ).bind fun p => some (.rt p.1 p.2) := by
  unfold mRet
  cases a ρ μ <;> rfl
theorem q_drop {a : RE} : mDrop a ρ μ = (a ρ μ).bind fun p => some (.nx ρ p.2) := by
  unfold mDrop
  cases a ρ μ <;> rfl
theorem q_cons {a : RE} {r : RA} : mCons a r ρ μ = (a ρ μ).bind fun p => (r ρ p.2).bind fun q => some (p.1 :: q.1, q.2) := by
  unfold mCons
  cases a ρ μ with
  | none => rfl
  | some p => obtain ⟨w, μ1⟩ := p; dsimp only [Option.bind]; cases r ρ μ1 <;> rfl
theorem q_dat {a : RA} : dat a ρ μ = (a ρ μ).bind fun p => frzL p.2 p.1 := by
  unfold dat
  cases a ρ μ <;> rfl
theorem q_dat1 {a : RE} : dat1 a ρ μ = (a ρ μ).bind fun p => frz1 p.2 p.1 := by
  unfold dat1
  cases a ρ μ <;> rfl
theorem q_tup {a : RA} : mTup a ρ μ = (dat a ρ μ).bind fun p => if p.1.length ≤ LB then some (.val (.tup p.1), p.2) else none := by
  unfold mTup
  cases dat a ρ μ <;> rfl
theorem q_lst {a : RA} : mLst a ρ μ = (dat a ρ μ).bind fun p => if p.1.length ≤ LB then some (.val (.lst p.1), p.2) else none := by
  unfold mLst
  cases dat a ρ μ <;> rfl
theorem q_lstM {a : RA} : mLstM a ρ μ = (dat a ρ μ).bind fun p => if p.1.length ≤ LB then some (.loc p.2.length, p.2 ++ [.lst p.1]) else none := by
  unfold mLstM
  cases dat a ρ μ <;> rfl
theorem q_call {f : FX} {dds : List D} {a : RA} : mCall f dds a ρ μ = (a ρ μ).bind fun p => callX f (p.1 ++ dds.map W.val) p.2 := by
  unfold mCall
  cases a ρ μ <;> rfl
theorem q_make {c : Str} {f : FX} {dds : List D} {a : RA} : mMake c f dds a ρ μ = (a ρ μ).bind fun p => makeX c f (p.1 ++ dds.map W.val) p.2 := by
  unfold mMake
  cases a ρ μ <;> rfl
theorem q_meth {c m : Str} {f : FX} {dds : List D} {o : RE} {a : RA} : mMeth c m f dds o a ρ μ = (o ρ μ).bind fun p => if recvOk c m p.2 p.1 = true then (a ρ p.2).bind fun q => callX f (p.1 :: (q.1 ++ dds.map W.val)) q.2 else none := by
  unfold mMeth
  cases o ρ μ with
  | none => rfl
  | some p =>
    obtain ⟨w, μ1⟩ := p
    dsimp only [Option.bind]
    split
    · cases a ρ μ1 <;> rfl
    · rfl
theorem q_for {i : RI} {g : RG} {b : RS} : mFor i g b ρ μ = (i ρ μ).bind fun p => loopR g b p.2.1 p.1 ρ p.2.2 := by
  unfold mFor
  cases i ρ μ <;> rfl
theorem q_lc {i : RI} {g : RG} {t : RB} {e : RE} {vs : List Nat} : mLc i g t e vs ρ μ = (i ρ μ).bind fun p => if p.1.length ≤ LB then (lcR g t e p.2.1 (wipeE ρ vs) p.1 p.2.2).bind fun q => some (.val (.lst q.1), q.2) else none := by
  unfold mLc
  cases i ρ μ with
  | none => rfl
  | some p =>
    dsimp only [Option.bind]
    split
    · cases lcR g t e p.2.1 (wipeE ρ vs) p.1 p.2.2 <;> rfl
    · rfl
theorem q_seqI {a : RE} : kSeq a ρ μ = (a ρ μ).bind fun p => (seqOf p.2 p.1).bind fun xs => some (xs, guardOf p.1 xs, p.2) := by
  unfold kSeq
  cases a ρ μ with
  | none => rfl
  | some p => obtain ⟨w, μ1⟩ := p; dsimp only [Option.bind]; cases seqOf μ1 w <;> rfl
theorem q_sl {a : RE} {l u : RO} : mSl a l u ρ μ = (a ρ μ).bind fun p => (l ρ p.2).bind fun lo => (u ρ lo.2).bind fun hi => (view hi.2 p.1).bind fun d => (slF lo.1 hi.1 d).bind fun r => some (.val r, hi.2) := by
  unfold mSl
  cases a ρ μ with
  | none => rfl
  | some p =>
    dsimp only [Option.bind]
    cases l ρ p.2 with
    | none => rfl
    | some lo =>
      dsimp only
      cases u ρ lo.2 with
      | none => rfl
      | some hi =>
        dsimp only
        cases view hi.2 p.1 with
        | none => rfl
        | some d => dsimp only; cases slF lo.1 hi.1 d <;> rfl
end DX
namespace DX
open PySem PySem.Spec L2 DK
variable {ρ : Env'} {μ : Mu}
theorem loop_cons {g : RG} {b : RS} {c : Option (Nat × List D)} {x : D} {xs : List D} : loopR g b c (x :: xs) ρ μ = (g (.val x) ρ).bind fun ρ1 => (b ρ1 μ).bind fun o => match o with
      | .nx ρ2 μ2 => if standB c μ2 = true then loopR g b c xs ρ2 μ2 else none
      | .ct ρ2 μ2 => if standB c μ2 = true then loopR g b c xs ρ2 μ2 else none
      | .bk ρ2 μ2 => some (.nx ρ2 μ2)
      | .rt w μ2 => some (.rt w μ2) := by
  rw [loopR]
  cases g (.val x) ρ with
  | none => rfl
  | some ρ1 =>
    dsimp only [Option.bind]
    cases b ρ1 μ with
    | none => rfl
    | some o => cases o <;> rfl
theorem loop_nil {g : RG} {b : RS} {c : Option (Nat × List D)} : loopR g b c [] ρ μ = some (.nx ρ μ) := rfl
theorem loop_find {α : Type} {g : RG} {b : RS} {c : Option (Nat × List D)} {f : α → D} {p : α → Bool} {w : α → W} {Inv : Env' → Prop} (hc : standB c μ = true) : ∀ {l : List α} {ρ : Env'}, (∀ x ρ, x ∈ l → Inv ρ → ∃ ρ1, g (.val (f x)) ρ = some ρ1 ∧ (p x = true → b ρ1 μ = some (.rt (w x) μ)) ∧ (p x = false → ∃ ρ2, Inv ρ2 ∧ (b ρ1 μ = some (.nx ρ2 μ) ∨ b ρ1 μ = some (.ct ρ2 μ)))) → Inv ρ →
    (∀ x, l.find? p = some x → loopR g b c (l.map f) ρ μ = some (.rt (w x) μ)) ∧ (l.find? p = none → ∃ ρ2, Inv ρ2 ∧ loopR g b c (l.map f) ρ μ = some (.nx ρ2 μ))
  | [], ρ, _, h0 => ⟨fun x e => by simp at e, fun _ => ⟨ρ, h0, rfl⟩⟩
  | x :: l, ρ, hs, h0 => by
    obtain ⟨ρ1, hg, ht, hf⟩ := hs x ρ (by simp) h0
    cases e : p x with
    | true =>
      rw [List.find?_cons_of_pos (by simpa using e)]
      refine ⟨fun y ey => ?_, fun z => by cases z⟩
      cases ey
      rw [List.map_cons, loop_cons, hg]
      dsimp only [Option.bind]
      rw [ht e]
    | false =>
      obtain ⟨ρ2, h2, hb⟩ := hf e
      have ih := loop_find (l := l) (ρ := ρ2) hc (fun y ρ hy => hs y ρ (List.mem_cons_of_mem _ hy)) h2
      rw [List.find?_cons_of_neg (by rw [e]; exact Bool.false_ne_true), List.map_cons, loop_cons, hg]
      dsimp only [Option.bind]
      rcases hb with hb | hb <;> (rw [hb]; dsimp only; rw [if_pos hc]; exact ih)
theorem loop_inv {α : Type} {g : RG} {b : RS} {c : Option (Nat × List D)} {f : α → D} {I : Nat → Env' → Mu → Prop} : ∀ {l : List α} {k : Nat} {ρ : Env'} {μ : Mu}, (∀ n x ρ μ, l[n]? = some x → I (k + n) ρ μ → ∃ ρ1 ρ2 μ2, g (.val (f x)) ρ = some ρ1 ∧ (b ρ1 μ = some (.nx ρ2 μ2) ∨ b ρ1 μ = some (.ct ρ2 μ2)) ∧ standB c μ2 = true ∧ I (k + n + 1) ρ2 μ2) → I k ρ μ → ∃ ρ2 μ2, loopR g b c (l.map f) ρ μ = some (.nx ρ2 μ2) ∧ I (k + l.length) ρ2 μ2
  | [], k, ρ, μ, _, h0 => ⟨ρ, μ, rfl, h0⟩
  | x :: l, k, ρ, μ, hs, h0 => by
    obtain ⟨ρ1, ρ2, μ2, hg, hb, hc, h1⟩ := hs 0 x ρ μ rfl h0
    obtain ⟨ρ3, μ3, e3, h3⟩ := loop_inv (l := l) (k := k + 1) (ρ := ρ2) (μ := μ2) (f := f) (g := g) (b := b) (c := c) (I := I) (fun n y ρ μ hy hI => by
      have := hs (n + 1) y ρ μ (by simpa using hy) (by rw [show k + (n + 1) = k + 1 + n by omega]; exact hI)
      obtain ⟨a1, a2, a3, q1, q2, q3, q4⟩ := this
      exact ⟨a1, a2, a3, q1, q2, q3, by rw [show k + 1 + n + 1 = k + (n + 1) + 1 by omega]; exact q4⟩) h1
    refine ⟨ρ3, μ3, ?_, by rw [List.length_cons, show k + (l.length + 1) = k + 1 + l.length by omega]; exact h3⟩
    rw [List.map_cons, loop_cons, hg]
    dsimp only [Option.bind]
    rcases hb with hb | hb <;> (rw [hb]; dsimp only; rw [if_pos hc]; exact e3)
theorem lc_map {α : Type} {g : RG} {t : RB} {e : RE} {c : Option (Nat × List D)} {f h : α → D} {p : α → Bool} (hc : standB c μ = true) : ∀ {l : List α}, (∀ x ∈ l, ∃ ρ1, g (.val (f x)) ρ = some ρ1 ∧ t ρ1 μ = some (p x, μ) ∧ (p x = true → dat1 e ρ1 μ = some (h x, μ))) → lcR g t e c ρ (l.map f) μ = some ((l.filter p).map h, μ)
  | [], _ => rfl
  | x :: l, hs => by
    obtain ⟨ρ1, hg, ht, he⟩ := hs x (by simp)
    have ih := lc_map (l := l) hc (fun y hy => hs y (List.mem_cons_of_mem _ hy))
    rw [List.map_cons, lcR, hg]
    dsimp only
    rw [ht]
    cases e : p x with
    | true =>
      dsimp only
      rw [he e]
      dsimp only
      rw [if_pos hc, ih, List.filter_cons_of_pos e]
      rfl
    | false =>
      dsimp only
      rw [if_pos hc, ih, List.filter_cons_of_neg (by rw [e]; exact Bool.false_ne_true)]
theorem lc_map1 {α : Type} {g : RG} {e : RE} {c : Option (Nat × List D)} {f h : α → D} (hc : standB c μ = true) {l : List α} (hs : ∀ x ∈ l, ∃ ρ1, g (.val (f x)) ρ = some ρ1 ∧ dat1 e ρ1 μ = some (h x, μ)) : lcR g mYes e c ρ (l.map f) μ = some (l.map h, μ) := by
  have := lc_map (p := fun _ => true) (t := mYes) (e := e) (g := g) (f := f) (h := h) (ρ := ρ) hc (l := l) (fun x hx => by
    obtain ⟨ρ1, h1, h2⟩ := hs x hx
    exact ⟨ρ1, h1, rfl, fun _ => h2⟩)
  rw [List.filter_eq_self.mpr (fun _ _ => rfl)] at this
  exact this
theorem inF_strsT {neg : Bool} {s : Str} {ss : List Str} : inF neg (.str s) (.tup (ss.map D.str)) = some (.bl (neg ^^ decide (s ∈ ss))) := by
  have h1 : (ss.map D.str).all flatD = true := by simp [flatD]
  have h2 : (ss.map D.str).map dV = ss.map V.str := by simp [dV]
  unfold inF
  dsimp only
  rw [if_pos ⟨rfl, h1⟩, h2]
  exact congrArg (fun b => some (D.bl (neg ^^ b))) inV_strs
theorem inF_strsL {neg : Bool} {s : Str} {ss : List Str} : inF neg (.str s) (.lst (ss.map D.str)) = some (.bl (neg ^^ decide (s ∈ ss))) := by
  have h1 : (ss.map D.str).all flatD = true := by simp [flatD]
  have h2 : (ss.map D.str).map dV = ss.map V.str := by simp [dV]
  unfold inF
  dsimp only
  rw [if_pos ⟨rfl, h1⟩, h2]
  exact congrArg (fun b => some (D.bl (neg ^^ b))) inV_strs
theorem inF_seqS {neg : Bool} {s : Str} {ss : List Str} {m : D} (h : seqD m = some (ss.map D.str)) : inF neg (.str s) m = some (.bl (neg ^^ decide (s ∈ ss))) := by
  cases m with
  | tup ys => cases h; exact inF_strsT
  | lst ys => cases h; exact inF_strsL
  | _ => cases h
theorem splitF_sp {s : Str} : splitF (.str s) (.str " ") = some (.lst ((wds s).map D.str)) := by
  unfold splitF
  dsimp only
  rw [if_pos ⟨sp_ne, sp_k⟩]
  rfl
theorem seqOf_D {μ : Mu} {m : D} {xs : List D} (h : seqD m = some xs) : seqOf μ (.val m) = some xs := by
  cases m with
  | tup ys => cases h; rfl
  | lst ys => cases h; rfl
  | _ => cases h
theorem frz1_val {d : D} : frz1 μ (.val d) = some (d, μ) := rfl
theorem dat1_val {e : RE} {d : D} {μ1 : Mu} (h : e ρ μ = some (.val d, μ1)) : dat1 e ρ μ = some (d, μ1) := by
  unfold dat1
  rw [h]
  rfl
theorem body_rt {fz : Bool} {k n : Nat} {m : RS} {ws : List W} {w : W} {μ1 : Mu} {r : Option (W × Mu)} (hk : ws.length = k) (h : m (start n ws) μ = some (.rt w μ1)) (he : exitF fz μ.length w μ1 = r) : bodyF fz k n m ws μ = r := by
  unfold bodyF
  rw [if_pos hk, h]
  exact he
theorem seq_nx {a b : RS} {ρ1 : Env'} {μ1 : Mu} {r : Option Out} (h : a ρ μ = some (.nx ρ1 μ1)) (k : b ρ1 μ1 = r) : mSeq a b ρ μ = r := by
  unfold mSeq
  rw [h]
  exact k
theorem seq_rt {a b : RS} {w : W} {μ1 : Mu} (h : a ρ μ = some (.rt w μ1)) : mSeq a b ρ μ = some (.rt w μ1) := by
  unfold mSeq
  rw [h]
theorem seq_ct {a b : RS} {ρ1 : Env'} {μ1 : Mu} (h : a ρ μ = some (.ct ρ1 μ1)) : mSeq a b ρ μ = some (.ct ρ1 μ1) := by
  unfold mSeq
  rw [h]
theorem if_t {t : RB} {a b : RS} {μ1 : Mu} {r : Option Out} {k : Bool} (h : t ρ μ = some (k, μ1)) (hk : k = true) (q : a ρ μ1 = r) : mIfS t a b ρ μ = r := by
  unfold mIfS
  rw [h, hk]
  exact q
theorem if_f {t : RB} {a b : RS} {μ1 : Mu} {r : Option Out} {k : Bool} (h : t ρ μ = some (k, μ1)) (hk : k = false) (q : b ρ μ1 = r) : mIfS t a b ρ μ = r := by
  unfold mIfS
  rw [h, hk]
  exact q
theorem for_of {i : RI} {g : RG} {b : RS} {xs : List D} {c : Option (Nat × List D)} {μ1 : Mu} {r : Option Out} (h : i ρ μ = some (xs, c, μ1)) (k : loopR g b c xs ρ μ1 = r) : mFor i g b ρ μ = r := by
  unfold mFor
  rw [h]
  exact k
theorem ret_of {a : RE} {w : W} {μ1 : Mu} (h : a ρ μ = some (w, μ1)) : mRet a ρ μ = some (.rt w μ1) := by
  unfold mRet
  rw [h]
theorem asg_of {a : RE} {i : Nat} {w : W} {μ1 : Mu} (h : a ρ μ = some (w, μ1)) : mAsg a (hName i) ρ μ = some (.nx (ρ.set i (some w)) μ1) := by
  unfold mAsg
  rw [h]
  rfl
theorem test_of {a : RE} {k : Bool} {μ1 : Mu} (h : a ρ μ = some (.val (.bl k), μ1)) : mTest a ρ μ = some (k, μ1) := by
  unfold mTest
  rw [h]
  rfl
theorem op_of {f : D → D → Option D} {a b : RE} {x y r : D} {μ1 μ2 : Mu} (h1 : a ρ μ = some (.val x, μ1)) (h2 : b ρ μ1 = some (.val y, μ2)) (h : f x y = some r) : mOp f a b ρ μ = some (.val r, μ2) := by
  rw [q_op, h1]
  dsimp only [Option.bind]
  rw [h2]
  dsimp only [view]
  rw [h]
theorem un_of {f : D → Option D} {a : RE} {x r : D} {μ1 : Mu} (h1 : a ρ μ = some (.val x, μ1)) (h : f x = some r) : mUn f a ρ μ = some (.val r, μ1) := by
  rw [q_un, h1]
  dsimp only [Option.bind, view]
  rw [h]
theorem seqI_of {a : RE} {m : D} {xs : List D} {μ1 : Mu} (h : a ρ μ = some (.val m, μ1)) (k : seqD m = some xs) : kSeq a ρ μ = some (xs, none, μ1) := by
  unfold kSeq
  rw [h]
  dsimp only
  rw [seqOf_D k]
  rfl
theorem lc_of {i : RI} {g : RG} {t : RB} {e : RE} {vs : List Nat} {xs ys : List D} {c : Option (Nat × List D)} {μ1 μ2 : Mu} (h : i ρ μ = some (xs, c, μ1)) (hz : xs.length ≤ LB) (k : lcR g t e c (wipeE ρ vs) xs μ1 = some (ys, μ2)) : mLc i g t e vs ρ μ = some (.val (.lst ys), μ2) := by
  unfold mLc
  rw [h]
  dsimp only
  rw [if_pos hz, k]
theorem call_of {f : FX} {a : RA} {ws : List W} {w : W} {μ1 μ2 : Mu} (h : a ρ μ = some (ws, μ1)) (k : callX f ws μ1 = some (w, μ2)) : mCall f [] a ρ μ = some (w, μ2) := by
  unfold mCall
  rw [h]
  dsimp only
  rw [List.map_nil, List.append_nil]
  exact k
end DX
namespace DX
open PySem PySem.Spec L2 DK
def m_law_deal_1 : RS :=
  (mAsg (mOp mdF (mUn intF (mOp plusF (mOp timesF (mVar 4) (mC (.int 16807))) (mOp mdF (mUn intF (mVar 2)) (mC (.int 2147483629))))) (mC (.int 2147483647))) (hName 4))
def m_law_deal : RS :=
  (mSeq (mAsg (mLc (kSeq (mSl (mVar 0) (mPart (mVar 1)) (mPart (mC (.int 60))))) (hName 2) mYes (mUn absF (mVar 2)) [2]) (hName 3))
      (mSeq (mAsg (mOp plusF (mC (.int 36195017)) (mOp timesF (mC (.int 43)) (mVar 1))) (hName 4))
      (mSeq (mFor (kSeq (mVar 3)) (hName 2) m_law_deal_1)
      (mRet (mLsW (mCons (mRevM (mLc (kSeq (mVar 3)) (hName 2) (mTest (mOp geF (mVar 2) (mOp pwF (mC (.int 10)) (mC (.int 18))))) (mVar 2) [2])) (mCons (mVar 4) mNil)))))))
def f_law_deal : FX := bodyF false 2 5 m_law_deal
def m_law_draw_1 : RS :=
  (mDrop (mPop (mIx (mVar 0) (mC (.int 0)))))
def m_law_draw : RS :=
  (mSeq (mWhile (mAnd (mTest (mOp (eqF true) (mIx (mVar 0) (mC (.int 0))) (mLst mNil))) (mTest (mOp (eqF false) (mIx (mIx (mVar 0) (mC (.int 0))) (mUn negF (mC (.int 1)))) (mC (.int 0))))) m_law_draw_1)
      (mSeq (mIfS (mTest (mOp (eqF true) (mIx (mVar 0) (mC (.int 0))) (mLst mNil))) (mSeq (mAsg (mPop (mIx (mVar 0) (mC (.int 0)))) (hName 2))
      (mSeq (mDrop (mAppend (mIx (mVar 0) (mC (.int 0))) (mCons (mOp fdF (mVar 2) (mVar 1)) mNil)))
      (mRet (mOp mdF (mUn intF (mVar 2)) (mVar 1))))) mNext)
      (mSeq (mSetI (mOp mdF (mUn intF (mOp plusF (mOp timesF (mIx (mVar 0) (mC (.int 1))) (mC (.int 48271))) (mC (.int 11)))) (mC (.int 2147483647))) (mVar 0) (mC (.int 1)))
      (mRet (mOp mdF (mUn intF (mOp fdF (mIx (mVar 0) (mC (.int 1))) (mC (.int 8)))) (mVar 1))))))
def f_law_draw : FX := bodyF true 2 3 m_law_draw
def m_law_pick : RS :=
  (mRet (mIx (mVar 1) (mCall f_law_draw [] (mCons (mVar 0) (mCons (mUn lenF (mVar 1)) mNil)))))
def f_law_pick : FX := bodyF true 2 2 m_law_pick
theorem locTop_vals : ∀ ds : List D, locTop (ds.map W.val) = 0
  | [] => rfl
  | d :: ds => by rw [List.map_cons, locTop]; exact locTop_vals ds
theorem callX_front {f : FX} {ws : List W} {μ0 rest : Mu} {w : W} {μ1 : Mu} (ht : locTop ws = μ0.length) (hb : μ0.all (MO.below μ0.length) = true) (h : f ws μ0 = some (w, μ1)) (hl : μ1.length = μ0.length) : callX f ws (μ0 ++ rest) = some (w, μ1 ++ rest) := by
  have e : preN ws (μ0 ++ rest) = μ0.length := by
    unfold preN
    rw [ht, List.take_left, if_pos]
    exact ⟨by rw [List.length_append]; omega, hb⟩
  unfold callX
  rw [e, List.take_left, h]
  dsimp only
  rw [if_pos hl, List.drop_left]
theorem callX_pure {f : FX} {ws : List W} {μ : Mu} {w : W} (ht : locTop ws = 0) (h : f ws [] = some (w, [])) : callX f ws μ = some (w, μ) := callX_front (μ0 := []) (rest := μ) ht rfl h rfl
def dst (d : Dl) : Mu := [.lst (d.1.map D.int), .lsW [.loc 0, .val (.int d.2)]]
theorem callX_dst {f : FX} {ws : List W} {rest : Mu} {w : W} {d d' : Dl} (ht : locTop ws = 2) (h : f ws (dst d) = some (w, dst d')) : callX f ws (dst d ++ rest) = some (w, dst d' ++ rest) := callX_front (μ0 := dst d) ht rfl h rfl
theorem eqF_ints {neg : Bool} {a b : List Int} : eqF neg (.lst (a.map D.int)) (.lst (b.map D.int)) = some (.bl (neg ^^ decide (a = b))) := by
  have e : eqP (.lst (a.map D.int)) (.lst (b.map D.int)) = decide (a = b) := by
    show PyData.eqvAll (toPyL (a.map D.int)) (toPyL (b.map D.int)) = _
    induction a generalizing b with
    | nil => cases b <;> simp [toPyL, toPy, PyData.eqvAll]
    | cons x a ih =>
      cases b with
      | nil => simp [toPyL, toPy, PyData.eqvAll]
      | cons y b =>
        simp only [List.map_cons, toPyL, toPy, PyData.eqvAll, PyData.eqv, ih]
        by_cases h : x = y <;> simp [h]
  unfold eqF
  dsimp only
  rw [if_pos ⟨pyOkL_ints, pyOkL_ints, depth_ints, depth_ints⟩, e]
theorem eqF_nil {neg : Bool} {a : List Int} : eqF neg (.lst (a.map D.int)) (.lst []) = some (.bl (neg ^^ decide (a = []))) := eqF_ints (b := [])
theorem nil_or_app {α : Type} (l : List α) : l = [] ∨ ∃ r x, l = r ++ [x] := by
  rcases List.eq_nil_or_concat l with h | ⟨r, x, h⟩
  · exact .inl h
  · exact .inr ⟨r, x, by rw [h, List.concat_eq_append]⟩
theorem whileR_succ {t : RB} {b : RS} {n : Nat} {ρ : Env'} {μ : Mu} : whileR t b (n + 1) ρ μ = match t ρ μ with
    | some (false, μ1) => some (.nx ρ μ1)
    | some (true, μ1) => match b ρ μ1 with
      | some (.nx ρ2 μ2) => whileR t b n ρ2 μ2
      | some (.ct ρ2 μ2) => whileR t b n ρ2 μ2
      | some (.bk ρ2 μ2) => some (.nx ρ2 μ2)
      | some (.rt w μ2) => some (.rt w μ2)
      | none => none
    | none => none := rfl
def tDraw : RB := (mAnd (mTest (mOp (eqF true) (mIx (mVar 0) (mC (.int 0))) (mLst mNil))) (mTest (mOp (eqF false) (mIx (mIx (mVar 0) (mC (.int 0))) (mUn negF (mC (.int 1)))) (mC (.int 0)))))
theorem big_at {ρ : Env'} {d : Dl} (h : ρ[0]? = some (some (.loc 1))) : mIx (mVar 0) (mC (.int 0)) ρ (dst d) = some (.loc 0, dst d) := by
  unfold mIx mVar mC
  rw [h]
  rfl
theorem bigNe {ρ : Env'} {d : Dl} (h : ρ[0]? = some (some (.loc 1))) : mTest (mOp (eqF true) (mIx (mVar 0) (mC (.int 0))) (mLst mNil)) ρ (dst d) = some (!decide (d.1 = []), dst d) := by
  unfold mTest mOp
  rw [big_at h]
  have e : mLst mNil ρ (dst d) = some (.val (.lst []), dst d) := rfl
  dsimp only
  rw [e]
  dsimp only
  have v : view (dst d) (.loc 0) = some (.lst (d.1.map D.int)) := rfl
  rw [v]
  dsimp only [view]
  rw [eqF_nil]
  dsimp only [isBl]
  rw [Bool.true_xor]
theorem last_at {l : List Int} {x : Int} : atI ((l ++ [x]).map D.int) (-1) = some (.int x) := at_map (DK.at_last (l := l) (x := x))
theorem lastZ {ρ : Env'} {l : List Int} {x m : Int} (h : ρ[0]? = some (some (.loc 1))) : mTest (mOp (eqF false) (mIx (mIx (mVar 0) (mC (.int 0))) (mUn negF (mC (.int 1)))) (mC (.int 0))) ρ (dst (l ++ [x], m)) = some (decide (x = 0), dst (l ++ [x], m)) := by
  have e1 : mIx (mIx (mVar 0) (mC (.int 0))) (mUn negF (mC (.int 1))) ρ (dst (l ++ [x], m)) = some (.val (.int x), dst (l ++ [x], m)) := by
    unfold mIx
    have := big_at (ρ := ρ) (d := (l ++ [x], m)) h
    unfold mIx at this
    rw [this]
    show (match ixF (.lst ((l ++ [x]).map D.int)) (.int (-1)) with
      | some r => some (W.val r, dst (l ++ [x], m))
      | none => none) = _
    rw [show ixF (.lst ((l ++ [x]).map D.int)) (.int (-1)) = some (.int x) from last_at]
  exact test_of (op_of e1 rfl (by simp only [eqF, Bool.false_xor]))
theorem pop_at {ρ : Env'} {l : List Int} {x m : Int} (h : ρ[0]? = some (some (.loc 1))) : mPop (mIx (mVar 0) (mC (.int 0))) ρ (dst (l ++ [x], m)) = some (.val (.int x), dst (l, m)) := by
  unfold mPop
  rw [big_at h]
  show (match ((l ++ [x]).map D.int).getLast? with
    | some d => some (W.val d, (dst (l ++ [x], m)).set 0 (.lst ((l ++ [x]).map D.int).dropLast))
    | none => none) = _
  rw [List.map_append, List.map_singleton, List.getLast?_concat, List.dropLast_concat]
  rfl
theorem while_draw {ρ : Env'} {m : Int} (h : ρ[0]? = some (some (.loc 1))) : ∀ (n : Nat) (big : List Int), big.length < n → whileR tDraw m_law_draw_1 n ρ (dst (big, m)) = some (.nx ρ (dst (dropZ big, m)))
  | 0, _, hn => by omega
  | n + 1, big, hn => by
    rw [whileR_succ]
    rcases nil_or_app big with rfl | ⟨l, x, rfl⟩
    · have : tDraw ρ (dst ([], m)) = some (false, dst ([], m)) := by
        unfold tDraw
        rw [q_and, bigNe h]
        rfl
      rw [this]
      rfl
    · have hl : l.length < n := by
        rw [List.length_append, List.length_singleton] at hn
        omega
      have : tDraw ρ (dst (l ++ [x], m)) = some (decide (x = 0), dst (l ++ [x], m)) := by
        unfold tDraw
        rw [q_and, bigNe h]
        simp only [Option.bind_some]
        rw [lastZ h]
        simp
      rw [this]
      by_cases hx : x = 0
      · subst hx
        rw [decide_eq_true rfl]
        dsimp only
        have hb : m_law_draw_1 ρ (dst (l ++ [0], m)) = some (.nx ρ (dst (l, m))) := by
          unfold m_law_draw_1 mDrop
          rw [pop_at h]
        rw [hb]
        dsimp only
        rw [while_draw h n l hl, dropZ_zero]
      · rw [decide_eq_false hx]
        dsimp only
        rw [dropZ_nz hx]
theorem e_draw {d : Dl} {many : Int} (hz : d.1.length ≤ LB - 1) (h0 : 0 < many) (h1 : many < 1073741824) : f_law_draw [.loc 1, .val (.int many)] (dst d) = some (.val (.int (drawM many d).1), dst (drawM many d).2) := by
  obtain ⟨big, m⟩ := d
  have hw : mWhile tDraw m_law_draw_1 [some (.loc 1), some (.val (.int many)), none] (dst (big, m)) = some (.nx [some (.loc 1), some (.val (.int many)), none] (dst (dropZ big, m))) := while_draw rfl fuel big (by
    have : LB = 100000 := rfl
    have : fuel = 100000 := rfl
    simp only at hz
    omega)
  have key : m_law_draw [some (.loc 1), some (.val (.int many)), none] (dst (big, m)) = some (.rt (.val (.int (drawM many (big, m)).1)) (dst (drawM many (big, m)).2)) := by
    refine seq_nx hw ?_
    rcases nil_or_app (dropZ big) with e | ⟨l, x, e⟩
    · have ed : drawM many (big, m) = (((m * 48271 + 11) % 2147483647 / 8) % many, ([], (m * 48271 + 11) % 2147483647)) := by
        unfold drawM
        simp only [e]
        rfl
      rw [ed, e]
      refine seq_nx (if_f (bigNe rfl) (by simp) rfl) ?_
      have em : ∀ {ρ : Env'} {d : Dl}, ρ[0]? = some (some (.loc 1)) → mIx (mVar 0) (mC (.int 1)) ρ (dst d) = some (.val (.int d.2), dst d) := fun {ρ d} h => by
        unfold mIx mVar mC
        rw [h]
        rfl
      refine seq_nx (ρ1 := [some (.loc 1), some (.val (.int many)), none]) (μ1 := dst ([], (m * 48271 + 11) % 2147483647)) ?_ ?_
      · unfold mSetI
        have e2 : mOp mdF (mUn intF (mOp plusF (mOp timesF (mIx (mVar 0) (mC (.int 1))) (mC (.int 48271))) (mC (.int 11)))) (mC (.int 2147483647)) [some (.loc 1), some (.val (.int many)), none] (dst ([], m)) = some (.val (.int ((m * 48271 + 11) % 2147483647)), dst ([], m)) := by
          have t1 : timesF (.int m) (.int 48271) = some (.int (m * 48271)) := by
            show (if _ then _ else _) = _
            rw [if_pos (.inr ⟨by omega, by omega⟩)]
          exact op_of (x := .int (m * 48271 + 11)) (un_of (x := .int (m * 48271 + 11)) (op_of (x := .int (m * 48271)) (y := .int 11) (op_of (x := .int m) (em rfl) rfl t1) rfl rfl) rfl) rfl rfl
        rw [e2]
        rfl
      · refine ret_of (op_of (un_of (op_of (em rfl) rfl rfl) rfl) rfl ?_)
        show (if _ then _ else _) = _
        rw [if_pos h0]
    · have ed : drawM many (big, m) = (x % many, (l ++ [x / many], m)) := by
        unfold drawM
        simp only [e, List.getLast?_concat, List.dropLast_concat]
      rw [ed, e]
      refine seq_rt (if_t (bigNe rfl) (by simp) ?_)
      refine seq_nx (asg_of (pop_at rfl)) ?_
      refine seq_nx (ρ1 := [some (.loc 1), some (.val (.int many)), some (.val (.int x))]) (μ1 := dst (l ++ [x / many], m)) ?_ ?_
      · show mDrop (mAppend (mIx (mVar 0) (mC (.int 0))) (mCons (mOp fdF (mVar 2) (mVar 1)) mNil)) [some (.loc 1), some (.val (.int many)), some (.val (.int x))] (dst (l, m)) = _
        unfold mDrop mAppend
        rw [big_at rfl]
        have ev : view (dst (l, m)) (.loc 0) = some (.lst (l.map D.int)) := rfl
        have ef : dat (mCons (mOp fdF (mVar 2) (mVar 1)) mNil) [some (.loc 1), some (.val (.int many)), some (.val (.int x))] (dst (l, m)) = some ([.int (x / many)], dst (l, m)) := by
          rw [q_dat, q_cons, op_of (x := .int x) (y := .int many) (r := .int (x / many)) (μ1 := dst (l, m)) (μ2 := dst (l, m)) rfl rfl (by show (if _ then _ else _) = _; rw [if_pos ⟨h0, h1⟩])]
          rfl
        dsimp only
        rw [ev, ef]
        show (match (if (l.map D.int).length < LB then some (W.val .non, (dst (l, m)).set 0 (.lst (l.map D.int ++ [.int (x / many)]))) else none) with
          | some (_, μ1) => some (Out.nx _ μ1)
          | none => none) = _
        have hlen : (l.map D.int).length < LB := by
          rw [List.length_map]
          have h3 := dropZ_len (l := big)
          rw [e, List.length_append, List.length_singleton] at h3
          have : LB = 100000 := rfl
          simp only at hz
          omega
        rw [if_pos hlen]
        show some (Out.nx _ [MO.lst (l.map D.int ++ [.int (x / many)]), _]) = some (Out.nx _ [MO.lst ((l ++ [x / many]).map D.int), _])
        rw [List.map_append, List.map_singleton]
      · refine ret_of (op_of (un_of rfl rfl) rfl ?_)
        show (if _ then _ else _) = _
        rw [if_pos h0]
  exact body_rt rfl key rfl
def bDeal (p q : Int) : RS := (mAsg (mOp mdF (mUn intF (mOp plusF (mOp timesF (mVar 4) (mC (.int 16807))) (mOp mdF (mUn intF (mVar 2)) (mC (.int p))))) (mC (.int q))) (hName 4))
def gDeal (a b p q : Int) : RS :=
  (mSeq (mAsg (mLc (kSeq (mSl (mVar 0) (mPart (mVar 1)) (mPart (mC (.int 60))))) (hName 2) mYes (mUn absF (mVar 2)) [2]) (hName 3))
      (mSeq (mAsg (mOp plusF (mC (.int a)) (mOp timesF (mC (.int b)) (mVar 1))) (hName 4))
      (mSeq (mFor (kSeq (mVar 3)) (hName 2) (bDeal p q))
      (mRet (mLsW (mCons (mRevM (mLc (kSeq (mVar 3)) (hName 2) (mTest (mOp geF (mVar 2) (mOp pwF (mC (.int 10)) (mC (.int 18))))) (mVar 2) [2])) (mCons (mVar 4) mNil)))))))
theorem timesF_l {i j : Int} (h : -(2 ^ 64) < i ∧ i < 2 ^ 64) : timesF (.int i) (.int j) = some (.int (i * j)) := by
  show (if _ then _ else _) = _
  rw [if_pos (.inl h)]
theorem timesF_r {i j : Int} (h : -(2 ^ 64) < j ∧ j < 2 ^ 64) : timesF (.int i) (.int j) = some (.int (i * j)) := by
  show (if _ then _ else _) = _
  rw [if_pos (.inr h)]
theorem mdF_pos {i j : Int} (h : 0 < j) : mdF (.int i) (.int j) = some (.int (i % j)) := by
  show (if _ then _ else _) = _
  rw [if_pos h]
theorem e_gdeal {a b p q base : Int} {ns : List Int} (hb : -(2 ^ 64) < b ∧ b < 2 ^ 64) (hp : 0 < p) (hq : 0 < q) (hz : ns.length ≤ 1000) : ∃ d : Dl, bodyF false 2 5 (gDeal a b p q) [.val (.scr ns), .val (.int base)] [] = some (.loc 1, dst d) ∧ d.1.length ≤ ns.length := by
  have hlb : LB = 100000 := rfl
  have hcl := cutI_len (xs := ns) (lo := some base) (hi := some 60)
  have ecut : DK.cutD (ns.map D.int) (some base) (some 60) = (cutI ns (some base) (some 60)).map D.int := cutD_map
  generalize hcs : cutI ns (some base) (some 60) = cs at *
  have s1 : mAsg (mLc (kSeq (mSl (mVar 0) (mPart (mVar 1)) (mPart (mC (.int 60))))) (hName 2) mYes (mUn absF (mVar 2)) [2]) (hName 3) [some (.val (.scr ns)), some (.val (.int base)), none, none, none] [] = some (.nx [some (.val (.scr ns)), some (.val (.int base)), none, some (.val (.lst ((cs.map absI).map D.int))), none] []) := by
    have e1 : mSl (mVar 0) (mPart (mVar 1)) (mPart (mC (.int 60))) [some (.val (.scr ns)), some (.val (.int base)), none, none, none] [] = some (.val (.lst (cs.map D.int)), []) := by
      unfold mSl
      show (match (if ns.length ≤ LB then some (D.lst (DK.cutD (ns.map D.int) (some base) (some 60))) else none) with
        | some r => some (W.val r, [])
        | none => none) = _
      rw [if_pos (by omega), ecut]
    refine asg_of (lc_of (xs := cs.map D.int) (c := none) (seqI_of e1 rfl) (by rw [List.length_map]; omega) ?_)
    rw [List.map_map]
    exact lc_map1 rfl fun x hx => ⟨_, rfl, rfl⟩
  have s2 : mAsg (mOp plusF (mC (.int a)) (mOp timesF (mC (.int b)) (mVar 1))) (hName 4) [some (.val (.scr ns)), some (.val (.int base)), none, some (.val (.lst ((cs.map absI).map D.int))), none] [] = some (.nx [some (.val (.scr ns)), some (.val (.int base)), none, some (.val (.lst ((cs.map absI).map D.int))), some (.val (.int (a + b * base)))] []) :=
    asg_of (op_of rfl (op_of rfl rfl (timesF_l hb)) rfl)
  obtain ⟨ρ2, μ2, hl, y, m, e1, e2⟩ := loop_inv (l := cs.map absI) (k := 0) (c := none) (f := D.int) (g := hName 2) (b := bDeal p q) (I := fun _ ρ μ => ∃ y m, ρ = [some (.val (.scr ns)), some (.val (.int base)), y, some (.val (.lst ((cs.map absI).map D.int))), some (.val (.int m))] ∧ μ = [])
    (ρ := [some (.val (.scr ns)), some (.val (.int base)), none, some (.val (.lst ((cs.map absI).map D.int))), some (.val (.int (a + b * base)))]) (μ := [])
    (fun n x ρ μ hx ⟨y, m, e1, e2⟩ => by
      subst e1 e2
      refine ⟨_, [some (.val (.scr ns)), some (.val (.int base)), some (.val (.int x)), some (.val (.lst ((cs.map absI).map D.int))), some (.val (.int ((m * 16807 + x % p) % q)))], [], rfl, .inl ?_, rfl, _, _, rfl, rfl⟩
      exact asg_of (op_of (x := .int (m * 16807 + x % p)) (un_of (x := .int (m * 16807 + x % p)) (op_of (x := .int (m * 16807)) (y := .int (x % p)) (op_of (x := .int m) rfl rfl (timesF_r ⟨by omega, by omega⟩)) (op_of (x := .int x) (un_of (x := .int x) rfl rfl) rfl (mdF_pos hp)) rfl) rfl) rfl (mdF_pos hq))) ⟨none, _, rfl, rfl⟩
  subst e1 e2
  have s3 : mFor (kSeq (mVar 3)) (hName 2) (bDeal p q) [some (.val (.scr ns)), some (.val (.int base)), none, some (.val (.lst ((cs.map absI).map D.int))), some (.val (.int (a + b * base)))] [] = some (.nx [some (.val (.scr ns)), some (.val (.int base)), y, some (.val (.lst ((cs.map absI).map D.int))), some (.val (.int m))] []) := for_of (seqI_of rfl rfl) hl
  have s4 : mLc (kSeq (mVar 3)) (hName 2) (mTest (mOp geF (mVar 2) (mOp pwF (mC (.int 10)) (mC (.int 18))))) (mVar 2) [2] [some (.val (.scr ns)), some (.val (.int base)), y, some (.val (.lst ((cs.map absI).map D.int))), some (.val (.int m))] [] = some (.val (.lst (((cs.map absI).filter fun c => decide (10 ^ 18 ≤ c)).map D.int)), []) :=
    lc_of (c := none) (seqI_of rfl rfl) (by rw [List.length_map, List.length_map]; omega) (lc_map (p := fun c => decide (10 ^ 18 ≤ c)) rfl fun x hx => ⟨_, rfl, test_of (op_of (x := .int x) (y := .int (10 ^ 18)) rfl (op_of rfl rfl rfl) rfl), fun _ => rfl⟩)
  refine ⟨(((cs.map absI).filter fun c => decide (10 ^ 18 ≤ c)).reverse, m), ?_, ?_⟩
  · refine body_rt (w := .loc 1) (μ1 := dst (((cs.map absI).filter fun c => decide (10 ^ 18 ≤ c)).reverse, m)) rfl (seq_nx s1 (seq_nx s2 (seq_nx s3 (ret_of ?_)))) rfl
    unfold mLsW
    have e1 : mRevM (mLc (kSeq (mVar 3)) (hName 2) (mTest (mOp geF (mVar 2) (mOp pwF (mC (.int 10)) (mC (.int 18))))) (mVar 2) [2]) [some (.val (.scr ns)), some (.val (.int base)), y, some (.val (.lst ((cs.map absI).map D.int))), some (.val (.int m))] [] = some (.loc 0, [.lst (((cs.map absI).filter fun c => decide (10 ^ 18 ≤ c)).map D.int).reverse]) := by
      unfold mRevM
      rw [dat1_val s4]
      rfl
    rw [q_cons, e1]
    show some (W.loc 1, [MO.lst (((cs.map absI).filter fun c => decide (10 ^ 18 ≤ c)).map D.int).reverse, MO.lsW [W.loc 0, W.val (D.int m)]]) = _
    unfold dst
    rw [List.map_reverse]
  · rw [List.length_reverse]
    have := List.length_filter_le (fun c => decide (10 ^ 18 ≤ c)) (cs.map absI)
    rw [List.length_map] at this
    omega
end DX
namespace DX
open PySem PySem.Spec L2 DK
variable {ρ : Env'} {μ : Mu}
theorem view_val {d : D} : view μ (.val d) = some d := rfl
def viewM : Option MO → Option D
  | some (.lst xs) => some (.lst xs)
  | some (.frz xs) => some (.lst xs)
  | _ => none
theorem view_loc {j : Nat} : view μ (.loc j) = viewM μ[j]? := by
  unfold view viewM
  try dsimp only
  all_goals (cases μ[j]? with
  | none => rfl
  | some m => cases m <;> rfl)
theorem viewM_lst {xs : List D} : viewM (some (.lst xs)) = some (.lst xs) := rfl
theorem viewM_frz {xs : List D} : viewM (some (.frz xs)) = some (.lst xs) := rfl
theorem isBl_bl {b : Bool} : isBl (.val (.bl b)) = some b := rfl
def varW (μ : Mu) : Option (Option W) → Option (W × Mu)
  | some (some w) => some (w, μ)
  | _ => none
theorem q_var {i : Nat} : mVar i ρ μ = varW μ ρ[i]? := by
  unfold mVar varW
  cases ρ[i]? with
  | none => rfl
  | some o => cases o <;> rfl
theorem varW_some {w : W} : varW μ (some (some w)) = some (w, μ) := rfl
theorem q_c {d : D} : mC d ρ μ = some (.val d, μ) := rfl
theorem q_nil : mNil ρ μ = some ([], μ) := rfl
theorem q_next : mNext ρ μ = some (.nx ρ μ) := rfl
theorem q_cont : mCont ρ μ = some (.ct ρ μ) := rfl
theorem q_break : mBreak ρ μ = some (.bk ρ μ) := rfl
theorem q_retN : mRetN ρ μ = some (.rt (.val .non) μ) := rfl
theorem q_yes : mYes ρ μ = some (true, μ) := rfl
theorem q_noPart : mNoPart ρ μ = some (none, μ) := rfl
def partW : W × Mu → Option (Option Int × Mu)
  | (.val (.int n), μ1) => some (some n, μ1)
  | _ => none
theorem q_partB {a : RE} : mPart a ρ μ = (a ρ μ).bind partW := by
  unfold mPart
  cases a ρ μ with
  | none => rfl
  | some p =>
    obtain ⟨w, μ1⟩ := p
    cases w with
    | loc j => rfl
    | val d => cases d <;> rfl
theorem partW_int {n : Int} : partW (.val (.int n), μ) = some (some n, μ) := rfl
theorem name_set {i : Nat} {w : W} : hName i w ρ = some (ρ.set i (some w)) := rfl
def isNW (neg : Bool) : W → Bool
  | .val d => neg ^^ isNon d
  | .loc _ => neg
theorem q_isN {neg : Bool} {a : RE} : mIsN neg a ρ μ = (a ρ μ).bind fun p => some (.val (.bl (isNW neg p.1)), p.2) := by
  unfold mIsN
  cases a ρ μ with
  | none => rfl
  | some p =>
    obtain ⟨w, μ1⟩ := p
    cases w <;> rfl
def ixW (μ : Mu) (x y : W) : Option (W × Mu) := match (match x with | .loc j => μ[j]? | _ => none), y with
  | some (.lsW ws), .val (.int n) => match atI ws n with
    | some w => some (w, μ)
    | none => none
  | _, _ => match view μ x, view μ y with
    | some d, some e => match ixF d e with
      | some r => some (.val r, μ)
      | none => none
    | _, _ => none
theorem q_ixB {a b : RE} : mIx a b ρ μ = (a ρ μ).bind fun p => (b ρ p.2).bind fun q => ixW q.2 p.1 q.1 := by
  unfold mIx
  cases a ρ μ with
  | none => rfl
  | some p =>
    dsimp only [Option.bind]
    cases b ρ p.2 with
    | none => rfl
    | some q => rfl
theorem ixW_val {d e : D} : ixW μ (.val d) (.val e) = (ixF d e).bind fun r => some (.val r, μ) := by
  unfold ixW
  dsimp only [view]
  cases ixF d e <;> rfl
theorem ixF_l {xs : List D} {i : Int} : ixF (.lst xs) (.int i) = atI xs i := rfl
theorem ixF_t {xs : List D} {i : Int} : ixF (.tup xs) (.int i) = atI xs i := rfl
def fldW (c f : Str) (μ : Mu) : W → Option (W × Mu)
  | .val (.obj c' ns ds) => if c' = c then match ds[fpos f ns]? with
    | some d => some (.val d, μ)
    | none => none
    else none
  | .loc j => match μ[j]? with
    | some (.ins c' fs) => if c' = c then match fs.lookup f with
      | some w => some (w, μ)
      | none => none
      else none
    | _ => none
  | _ => none
theorem q_fld {c f : Str} {o : RE} : mFld c f o ρ μ = (o ρ μ).bind fun p => fldW c f p.2 p.1 := by
  unfold mFld
  cases o ρ μ with
  | none => rfl
  | some p =>
    obtain ⟨w, μ1⟩ := p
    cases w with
    | loc j => rfl
    | val d => cases d <;> rfl
theorem fld_row_word {r : RowM} : fldW "Row" "word" μ (.val r.d) = some (.val (.str r.word), μ) := by
  unfold fldW RowM.d
  rfl
theorem fld_row_tests {r : RowM} : fldW "Row" "tests" μ (.val r.d) = some (.val (.tup (r.tests.map D.str)), μ) := rfl
theorem fld_row_deeds {r : RowM} : fldW "Row" "deeds" μ (.val r.d) = some (.val (.tup (r.deeds.map D.str)), μ) := rfl
theorem fld_row_opens {r : RowM} : fldW "Row" "opens" μ (.val r.d) = some (.val (.bl r.opens), μ) := rfl
theorem fld_tool_window {T : ToolM} : fldW "Tool" "window" μ (.val T.d) = some (.val (.int T.window), μ) := rfl
theorem fld_tool_rows {T : ToolM} : fldW "Tool" "rows" μ (.val T.d) = some (.val (.tup (T.rows.map RowM.d)), μ) := rfl
theorem fld_tool_marks {T : ToolM} : fldW "Tool" "marks" μ (.val T.d) = some (.val (.tup ((namesM T.rows).map D.str)), μ) := rfl
theorem recv_row {m : Str} {r : RowM} : recvOk "Row" m μ (.val r.d) = !rowNs.contains m := rfl
theorem recv_tool {m : Str} {T : ToolM} : recvOk "Tool" m μ (.val T.d) = !toolNs.contains m := rfl
def bodyE (fz : Bool) (n : Nat) : Out → Option (W × Mu)
  | .rt w μ1 => exitF fz n w μ1
  | .nx _ μ1 => exitF fz n (.val .non) μ1
  | _ => none
theorem q_body {fz : Bool} {k n : Nat} {m : RS} {ws : List W} : bodyF fz k n m ws μ = if ws.length = k then (m (start n ws) μ).bind (bodyE fz μ.length) else none := by
  unfold bodyF
  cases m (start n ws) μ with
  | none => rfl
  | some o => cases o <;> rfl
theorem bodyE_rt {fz : Bool} {n : Nat} {w : W} : bodyE fz n (.rt w μ) = exitF fz n w μ := rfl
theorem bodyE_nx {fz : Bool} {n : Nat} : bodyE fz n (.nx ρ μ) = exitF fz n (.val .non) μ := rfl
theorem exit_any {fz : Bool} {d : D} : exitF fz 0 (.val d) μ = some (.val d, []) := by
  cases fz <;> simp [exitF, frzRet, W.below]
theorem exit_dst {fz : Bool} {v : D} {xs : List D} {m : D} : exitF fz 2 (.val v) (.lst xs :: .lsW [.loc 0, .val m] :: μ) = some (.val v, [.lst xs, .lsW [.loc 0, .val m]]) := by
  cases fz <;> simp [exitF, frzRet, W.below, MO.below]
theorem negF_int {i : Int} : negF (.int i) = some (.int (-i)) := rfl
theorem plusF_int {i j : Int} : plusF (.int i) (.int j) = some (.int (i + j)) := rfl
theorem minusF_int {i j : Int} : minusF (.int i) (.int j) = some (.int (i - j)) := rfl
theorem ltF_int {i j : Int} : ltF (.int i) (.int j) = some (.bl (decide (i < j))) := rfl
theorem leF_int {i j : Int} : leF (.int i) (.int j) = some (.bl (decide (i ≤ j))) := rfl
theorem gtF_int {i j : Int} : gtF (.int i) (.int j) = some (.bl (decide (j < i))) := rfl
theorem geF_int {i j : Int} : geF (.int i) (.int j) = some (.bl (decide (j ≤ i))) := rfl
theorem eqF_int {n : Bool} {i j : Int} : eqF n (.int i) (.int j) = some (.bl (n ^^ decide (i = j))) := rfl
theorem eqF_str {n : Bool} {i j : Str} : eqF n (.str i) (.str j) = some (.bl (n ^^ decide (i = j))) := rfl
theorem eqF_bl {n : Bool} {i j : Bool} : eqF n (.bl i) (.bl j) = some (.bl (n ^^ decide (i = j))) := rfl
theorem intF_int {i : Int} : intF (.int i) = some (.int i) := rfl
theorem maxF_int {i j : Int} : maxF (.int i) (.int j) = some (.int (max i j)) := rfl
theorem minF_int {i j : Int} : minF (.int i) (.int j) = some (.int (min i j)) := rfl
theorem lenF_l {xs : List D} : lenF (.lst xs) = some (.int xs.length) := rfl
theorem lenF_t {xs : List D} : lenF (.tup xs) = some (.int xs.length) := rfl
theorem lenF_s {s : Str} : lenF (.str s) = some (.int s.length) := rfl
theorem tupF_l {xs : List D} : tupF (.lst xs) = some (.tup xs) := rfl
theorem tupF_t {xs : List D} : tupF (.tup xs) = some (.tup xs) := rfl
theorem lstF_l {xs : List D} : lstF (.lst xs) = some (.lst xs) := rfl
theorem lstF_t {xs : List D} : lstF (.tup xs) = some (.lst xs) := rfl
theorem strF_s {s : Str} : strF (.str s) = some (.str s) := rfl
theorem seqOf_t {xs : List D} : seqOf μ (.val (.tup xs)) = some xs := rfl
theorem seqOf_l {xs : List D} : seqOf μ (.val (.lst xs)) = some xs := rfl
theorem guard_val {d : D} {xs : List D} : guardOf (.val d) xs = none := rfl
theorem guard_loc {j : Nat} {xs : List D} : guardOf (.loc j) xs = some (j, xs) := rfl
theorem isNW_val {neg : Bool} {d : D} : isNW neg (.val d) = (neg ^^ isNon d) := rfl
theorem isNW_loc {neg : Bool} {j : Nat} : isNW neg (.loc j) = neg := rfl
def enumW : List W × Mu → Option (List D × Option (Nat × List D) × Mu)
  | ([w], μ1) => (seqOf μ1 w).bind fun xs => some (enumD 0 xs, guardOf w xs, μ1)
  | _ => none
theorem q_enum {r : RA} : kEnum r ρ μ = (r ρ μ).bind enumW := by
  unfold kEnum
  cases r ρ μ with
  | none => rfl
  | some p =>
    obtain ⟨ws, μ1⟩ := p
    match ws with
    | [] => rfl
    | [w] => dsimp only [Option.bind, enumW]; cases seqOf μ1 w <;> rfl
    | _ :: _ :: _ => rfl
theorem enumW_1 {w : W} : enumW ([w], μ) = (seqOf μ w).bind fun xs => some (enumD 0 xs, guardOf w xs, μ) := rfl
def parW (i j : Nat) (ρ : Env') : List W × Mu → Option Out
  | ([v, w], μ1) => some (.nx ((ρ.set i (some v)).set j (some w)) μ1)
  | _ => none
theorem q_par {i j : Nat} {r : RA} : mPar i j r ρ μ = (r ρ μ).bind (parW i j ρ) := by
  unfold mPar
  cases r ρ μ with
  | none => rfl
  | some p =>
    obtain ⟨ws, μ1⟩ := p
    match ws with
    | [] => rfl
    | [w] => rfl
    | [v, w] => rfl
    | _ :: _ :: _ :: _ => rfl
theorem parW_2 {i j : Nat} {v w : W} : parW i j ρ ([v, w], μ) = some (.nx ((ρ.set i (some v)).set j (some w)) μ) := rfl
theorem tup_set {n : Nat} {r : RGs} {ds : List D} : hTup n r (.val (.tup ds)) ρ = if ds.length = n then r ds ρ else none := rfl
theorem cons_set {g : RG} {r : RGs} {d : D} {t : List D} : hCons g r (d :: t) ρ = (g (.val d) ρ).bind fun ρ1 => r t ρ1 := by
  show (match g (.val d) ρ with
    | some ρ1 => r t ρ1
    | none => none) = _
  cases g (.val d) ρ <;> rfl
theorem nil_set : hNil [] ρ = some ρ := rfl
theorem frzL_nil : frzL μ [] = some ([], μ) := rfl
theorem frzL_cons {w : W} {ws : List W} : frzL μ (w :: ws) = (frz1 μ w).bind fun p => (frzL p.2 ws).bind fun q => some (p.1 :: q.1, q.2) := by
  show (match frz1 μ w with
    | some (d, μ1) => match frzL μ1 ws with
      | some (ds, μ2) => some (d :: ds, μ2)
      | none => none
    | none => none) = _
  cases frz1 μ w with
  | none => rfl
  | some p =>
    dsimp only [Option.bind]
    cases frzL p.2 ws <;> rfl
def frzM (μ : Mu) (j : Nat) : Option MO → Option (D × Mu)
  | some (.lst xs) => some (.lst xs, μ.set j (.frz xs))
  | some (.frz xs) => some (.lst xs, μ)
  | _ => none
theorem frz1_loc {j : Nat} : frz1 μ (.loc j) = frzM μ j μ[j]? := by
  unfold frz1 frzM
  try dsimp only
  all_goals (cases μ[j]? with
  | none => rfl
  | some m => cases m <;> rfl)
theorem frzM_lst {j : Nat} {xs : List D} : frzM μ j (some (.lst xs)) = some (.lst xs, μ.set j (.frz xs)) := rfl
theorem frzM_frz {j : Nat} {xs : List D} : frzM μ j (some (.frz xs)) = some (.lst xs, μ) := rfl
theorem map_inj {α β : Type} {f : α → β} (hf : ∀ a b, f a = f b → a = b) : ∀ {l m : List α}, l.map f = m.map f → l = m
  | [], [], _ => rfl
  | [], _ :: _, h => by simp at h
  | _ :: _, [], h => by simp at h
  | a :: l, b :: m, h => by
    simp only [List.map_cons, List.cons.injEq] at h
    rw [hf a b h.1, map_inj hf h.2]
theorem ofS {a b : String} : (Str.ofString a = Str.ofString b) = (a = b) := by
  apply propext
  constructor
  · intro h
    rw [Str.ofString_eq_toList, Str.ofString_eq_toList] at h
    have h2 : a.toList.map Char.toNat = b.toList.map Char.toNat := by
      have := congrArg (fun s : Str => s.cps.toList) h
      simpa using this
    have h3 := map_inj (fun x y e => Char.ext (UInt32.toNat_inj.mp e)) h2
    exact String.toList_inj.mp h3
  · intro h
    rw [h]
def fldSW (c f : Str) (ρ : Env') (w : W) (μ : Mu) : W → Option Out
  | .loc j => match μ[j]? with
    | some (.ins c' fs) => if c' = c ∧ fs.length < 100 ∧ w.below μ.length = true then some (.nx ρ (μ.set j (.ins c (putW f w fs)))) else none
    | _ => none
  | _ => none
theorem q_fldS {c f : Str} {o e : RE} : mFldS c f o e ρ μ = (e ρ μ).bind fun p => (o ρ p.2).bind fun q => fldSW c f ρ p.1 q.2 q.1 := by
  unfold mFldS
  cases e ρ μ with
  | none => rfl
  | some p =>
    dsimp only [Option.bind]
    cases o ρ p.2 with
    | none => rfl
    | some q =>
      obtain ⟨w, μ2⟩ := q
      cases w <;> rfl
theorem makeX_pure {c : Str} {f : FX} {ds : List D} {fs : List (Str × W)} {ns : List Str} {vs : List D} (h : f (.loc 0 :: ds.map W.val) [.ins c []] = some (.val .non, [.ins c fs])) (hv : valsOf fs = some (ns, vs)) : makeX c f (ds.map W.val) μ = some (.val (.obj c ns vs), μ) := by
  have e : preN (ds.map W.val) μ = 0 := by
    unfold preN
    rw [locTop_vals]
    simp
  unfold makeX
  rw [e]
  simp only [List.take_zero, List.nil_append, List.drop_zero]
  rw [h]
  dsimp only
  simp only [List.drop_zero, List.take_zero, List.all_nil, List.length_nil, and_self, and_true, if_true, List.nil_append]
  rw [hv]
theorem isNon_int {i : Int} : DK.isNon (.int i) = false := rfl
theorem isNon_non : DK.isNon .non = true := rfl
theorem isNon_bl {b : Bool} : DK.isNon (.bl b) = false := rfl
theorem isNon_str {b : Str} : DK.isNon (.str b) = false := rfl
theorem isNon_tup {b : List D} : DK.isNon (.tup b) = false := rfl
theorem isNon_lst {b : List D} : DK.isNon (.lst b) = false := rfl
theorem q_lcM {i : RI} {g : RG} {t : RB} {e : RE} {vs : List Nat} : mLcM i g t e vs ρ μ = (i ρ μ).bind fun p => if p.1.length ≤ LB then (lcR g t e p.2.1 (wipeE ρ vs) p.1 p.2.2).bind fun q => some (.loc q.2.length, q.2 ++ [.lst q.1]) else none := by
  unfold mLcM
  cases i ρ μ with
  | none => rfl
  | some p =>
    obtain ⟨xs, c, μ1⟩ := p
    dsimp only [Option.bind]
    split
    · cases lcR g t e c (wipeE ρ vs) xs μ1 <;> rfl
    · rfl
def setIW (ρ : Env') (μ : Mu) : W → W → W → Option Out
  | w, .loc j, .val (.int n) => match μ[j]? with
    | some (.lst xs) => match ixN xs.length n with
      | some k => match w with
        | .val d => some (.nx ρ (μ.set j (.lst (xs.set k d))))
        | _ => none
      | none => none
    | some (.lsW ws) => match ixN ws.length n with
      | some k => if w.below μ.length = true then some (.nx ρ (μ.set j (.lsW (ws.set k w)))) else none
      | none => none
    | _ => none
  | _, _, _ => none
theorem q_setI {e a b : RE} : mSetI e a b ρ μ = (e ρ μ).bind fun p => (a ρ p.2).bind fun q => (b ρ q.2).bind fun s => setIW ρ s.2 p.1 q.1 s.1 := by
  unfold mSetI
  cases e ρ μ with
  | none => rfl
  | some p =>
    dsimp only [Option.bind]
    cases a ρ p.2 with
    | none => rfl
    | some q =>
      obtain ⟨w, μ2⟩ := q
      cases w with
      | val d =>
        dsimp only
        cases b ρ μ2 <;> rfl
      | loc j =>
        dsimp only
        cases b ρ μ2 with
        | none => rfl
        | some s =>
          obtain ⟨v, μ3⟩ := s
          cases v with
          | loc i => rfl
          | val d => cases d <;> rfl
def addW (μ : Mu) (x y : W) : Option (W × Mu) := match view μ x, view μ y with
  | some (.lst d), some (.lst e) => if d.length + e.length ≤ LB then some (.loc μ.length, μ ++ [.lst (d ++ e)]) else none
  | _, _ => none
theorem q_addM {a b : RE} : mAddM a b ρ μ = (a ρ μ).bind fun p => (b ρ p.2).bind fun q => addW q.2 p.1 q.1 := by
  unfold mAddM
  cases a ρ μ with
  | none => rfl
  | some p =>
    dsimp only [Option.bind]
    cases b ρ p.2 with
    | none => rfl
    | some q => rfl
theorem addW_val {a b : List D} : addW μ (.val (.lst a)) (.val (.lst b)) = if a.length + b.length ≤ LB then some (.loc μ.length, μ ++ [.lst (a ++ b)]) else none := rfl
def seqM : Option MO → Option (List D)
  | some (.lst xs) => some xs
  | some (.frz xs) => some xs
  | _ => none
theorem seqOf_loc {j : Nat} : seqOf μ (.loc j) = seqM μ[j]? := by
  unfold seqOf
  rw [view_loc]
  unfold viewM seqM
  cases μ[j]? with
  | none => rfl
  | some m => cases m <;> rfl
theorem seqM_lst {xs : List D} : seqM (some (.lst xs)) = some xs := rfl
theorem seqM_frz {xs : List D} : seqM (some (.frz xs)) = some xs := rfl
def ixM (μ : Mu) : Option MO → Int → Option (W × Mu)
  | some (.lsW ws), n => (atI ws n).bind fun w => some (w, μ)
  | some (.lst xs), n => (atI xs n).bind fun r => some (.val r, μ)
  | some (.frz xs), n => (atI xs n).bind fun r => some (.val r, μ)
  | _, _ => none
theorem ixW_loc {j : Nat} {n : Int} : ixW μ (.loc j) (.val (.int n)) = ixM μ μ[j]? n := by
  unfold ixW
  rw [view_loc]
  dsimp only
  unfold ixM
  cases μ[j]? with
  | none => rfl
  | some m =>
    cases m with
    | lsW ws => dsimp only; cases atI ws n <;> rfl
    | lst xs => dsimp only [viewM, view, ixF]; cases atI xs n <;> rfl
    | frz xs => dsimp only [viewM, view, ixF]; cases atI xs n <;> rfl
    | _ => rfl
theorem ixM_lsW {ws : List W} {n : Int} : ixM μ (some (.lsW ws)) n = (atI ws n).bind fun w => some (w, μ) := rfl
theorem ixM_lst {ws : List D} {n : Int} : ixM μ (some (.lst ws)) n = (atI ws n).bind fun w => some (.val w, μ) := rfl
theorem ixM_frz {ws : List D} {n : Int} : ixM μ (some (.frz ws)) n = (atI ws n).bind fun w => some (.val w, μ) := rfl
def setIM (ρ : Env') (μ : Mu) (j : Nat) (d : D) (n : Int) : Option MO → Option Out
  | some (.lst xs) => (ixN xs.length n).bind fun k => some (.nx ρ (μ.set j (.lst (xs.set k d))))
  | some (.lsW ws) => (ixN ws.length n).bind fun k => some (.nx ρ (μ.set j (.lsW (ws.set k (.val d)))))
  | _ => none
theorem setIW_loc {j : Nat} {d : D} {n : Int} : setIW ρ μ (.val d) (.loc j) (.val (.int n)) = setIM ρ μ j d n μ[j]? := by
  unfold setIW setIM
  dsimp only
  cases μ[j]? with
  | none => rfl
  | some m =>
    cases m with
    | lsW ws =>
      dsimp only
      cases ixN ws.length n with
      | none => rfl
      | some k => rfl
    | lst xs => dsimp only; cases ixN xs.length n <;> rfl
    | _ => rfl
theorem setIM_lst {j : Nat} {d : D} {n : Int} {xs : List D} : setIM ρ μ j d n (some (.lst xs)) = (ixN xs.length n).bind fun k => some (.nx ρ (μ.set j (.lst (xs.set k d)))) := rfl
def exitV (n : Nat) (w : W) (μ : Mu) : Option (W × Mu) := if n ≤ μ.length then
    if (μ.take n).all (MO.below n) = true then some (w, μ.take n)
    else if μ.all (MO.below μ.length) = true then some (w, μ) else none
  else none
theorem exit_val {fz : Bool} {n : Nat} {d : D} : exitF fz n (.val d) μ = exitV n (.val d) μ := by
  unfold exitF exitV frzRet
  cases fz <;> simp [W.below]
def exitM (n j : Nat) (μ : Mu) : Option MO → Option (W × Mu)
  | some (.lst xs) => exitV n (.val (.lst xs)) (μ.set j (.frz xs))
  | some (.frz xs) => exitV n (.val (.lst xs)) μ
  | _ => exitF true n (.loc j) μ
theorem exit_loc {n j : Nat} : exitF true n (.loc j) μ = if j < n then exitF false n (.loc j) μ else exitM n j μ μ[j]? := by
  by_cases h : j < n
  · rw [if_pos h]
    simp [exitF, frzRet, h]
  · rw [if_neg h]
    unfold exitM exitV
    cases e : μ[j]? with
    | none => rfl
    | some m => cases m <;> first | rfl | simp [exitF, frzRet, frz1, W.below, e, h]
theorem exitV_if {n : Nat} {w : W} : exitV n w μ = if n ≤ μ.length then
    if (μ.take n).all (MO.below n) = true then some (w, μ.take n)
    else if μ.all (MO.below μ.length) = true then some (w, μ) else none
  else none := rfl
theorem exitM_lst {n j : Nat} {xs : List D} : exitM n j μ (some (.lst xs)) = exitV n (.val (.lst xs)) (μ.set j (.frz xs)) := rfl
theorem exitM_frz {n j : Nat} {xs : List D} : exitM n j μ (some (.frz xs)) = exitV n (.val (.lst xs)) μ := rfl
theorem below_lst {n : Nat} {xs : List D} : MO.below n (.lst xs) = true := rfl
theorem below_frz {n : Nat} {xs : List D} : MO.below n (.frz xs) = true := rfl
theorem below_dK {n : Nat} {xs : List (Key × D)} : MO.below n (.dK xs) = true := rfl
theorem below_scr {n : Nat} {xs : List Int} : MO.below n (.scr xs) = true := rfl
theorem below_lsW {n : Nat} {ws : List W} : MO.below n (.lsW ws) = ws.all (W.below n) := rfl
theorem below_ins {n : Nat} {c : Str} {fs : List (Str × W)} : MO.below n (.ins c fs) = fs.all fun p => p.2.below n := rfl
theorem below_dW {n : Nat} {fs : List (Str × W)} : MO.below n (.dW fs) = fs.all fun p => p.2.below n := rfl
theorem wbelow_val {n : Nat} {d : D} : W.below n (.val d) = true := rfl
theorem wbelow_loc {n j : Nat} : W.below n (.loc j) = decide (j < n) := rfl
def appW (μ0 : Mu) (j : Nat) : List D × Mu → Option (W × Mu)
  | ([d], μ2) => match μ2[j]? with
    | some (.lst xs) => if xs.length < LB then some (.val .non, μ2.set j (.lst (xs ++ [d]))) else none
    | _ => none
  | _ => none
def appA (r : RA) (ρ : Env') : W × Mu → Option (W × Mu)
  | (.loc j, μ1) => (view μ1 (.loc j)).bind fun _ => (dat r ρ μ1).bind (appW μ1 j)
  | _ => none
theorem q_append {a : RE} {r : RA} : mAppend a r ρ μ = (a ρ μ).bind (appA r ρ) := by
  unfold mAppend
  cases a ρ μ with
  | none => rfl
  | some p =>
    obtain ⟨w, μ1⟩ := p
    cases w with
    | val d => rfl
    | loc j =>
      dsimp only [Option.bind, appA]
      cases view μ1 (.loc j) with
      | none => rfl
      | some v =>
        dsimp only
        cases dat r ρ μ1 with
        | none => rfl
        | some q =>
          obtain ⟨ds, μ2⟩ := q
          match ds with
          | [] => rfl
          | [d] => rfl
          | _ :: _ :: _ => rfl
theorem appA_loc {r : RA} {j : Nat} : appA r ρ (.loc j, μ) = (viewM μ[j]?).bind fun _ => (dat r ρ μ).bind (appW μ j) := by
  show (view μ (.loc j)).bind _ = _
  rw [view_loc]
def appM (μ : Mu) (j : Nat) (d : D) : Option MO → Option (W × Mu)
  | some (.lst xs) => if xs.length < LB then some (.val .non, μ.set j (.lst (xs ++ [d]))) else none
  | _ => none
theorem appW_1 {μ0 : Mu} {j : Nat} {d : D} : appW μ0 j ([d], μ) = appM μ j d μ[j]? := by
  show (match μ[j]? with
    | some (.lst xs) => if xs.length < LB then some (W.val .non, μ.set j (.lst (xs ++ [d]))) else none
    | _ => none) = _
  unfold appM
  cases μ[j]? with
  | none => rfl
  | some m => cases m <;> rfl
theorem appM_lst {j : Nat} {d : D} {xs : List D} : appM μ j d (some (.lst xs)) = if xs.length < LB then some (.val .non, μ.set j (.lst (xs ++ [d]))) else none := rfl
def lstM (μ : Mu) : D → Option (W × Mu)
  | .lst xs => some (.loc μ.length, μ ++ [.lst xs])
  | _ => none
theorem q_lstOfM {a : RE} : mLstOfM a ρ μ = (a ρ μ).bind fun p => (view p.2 p.1).bind fun d => (lstF d).bind (lstM p.2) := by
  unfold mLstOfM
  cases a ρ μ with
  | none => rfl
  | some p =>
    obtain ⟨x, μ1⟩ := p
    dsimp only [Option.bind]
    cases view μ1 x with
    | none => rfl
    | some d =>
      dsimp only
      cases lstF d with
      | none => rfl
      | some e => cases e <;> rfl
theorem lstM_lst {xs : List D} : lstM μ (.lst xs) = some (.loc μ.length, μ ++ [.lst xs]) := rfl
def rngW : List D × Mu → Option (List D × Option (Nat × List D) × Mu)
  | ([.int n], μ1) => if rngB n = true then some (rangeD 0 n.toNat, none, μ1) else none
  | _ => none
theorem q_rng1 {r : RA} : kRng1 r ρ μ = (dat r ρ μ).bind rngW := by
  unfold kRng1
  cases dat r ρ μ with
  | none => rfl
  | some p =>
    obtain ⟨ds, μ1⟩ := p
    match ds with
    | [] => rfl
    | [d] => cases d <;> rfl
    | a :: _ :: _ => cases a <;> rfl
theorem rngW_int {n : Int} : rngW ([.int n], μ) = if rngB n = true then some (rangeD 0 n.toNat, none, μ) else none := rfl
theorem rng_ok {k : Int} (h0 : 0 ≤ k) (h1 : k < 1000000) : rngW ([.int k], μ) = some (rangeD 0 k.toNat, none, μ) := by
  rw [rngW_int, if_pos]
  exact Nat.ble_eq_true_of_le (by omega)
mutual
theorem beqD_refl : ∀ a : D, beqD a a = true
  | .non => rfl
  | .bl a => by simp [beqD]
  | .int a => by simp [beqD]
  | .str a => by simp [beqD]
  | .tup a => by rw [beqD]; exact beqL_refl a
  | .lst a => by rw [beqD]; exact beqL_refl a
  | .obj c ns a => by
    rw [beqD, beqL_refl a]
    simp
  | .ty a => by simp [beqD]
  | .cls a => by simp [beqD]
  | .scr a => by simp [beqD]
theorem beqL_refl : ∀ a : List D, beqL a a = true
  | [] => rfl
  | a :: as => by rw [beqL, beqD_refl a, beqL_refl as]; rfl
end
def standM (xs : List D) : Option MO → Bool
  | some (.lst ys) => beqL ys xs
  | some (.frz ys) => beqL ys xs
  | _ => false
theorem standB_none : standB none μ = true := rfl
theorem standB_some {j : Nat} {xs : List D} : standB (some (j, xs)) μ = standM xs μ[j]? := by
  unfold standB standM
  try dsimp only
  all_goals (cases μ[j]? with
  | none => rfl
  | some m => cases m <;> rfl)
theorem standM_lst {xs : List D} : standM xs (some (.lst xs)) = true := beqL_refl xs
theorem standM_frz {xs : List D} : standM xs (some (.frz xs)) = true := beqL_refl xs
def joinA (b : RE) (ρ : Env') : W × Mu → Option (W × Mu)
  | (.val (.str y), μ1) => (b ρ μ1).bind fun q => (seqOf q.2 q.1).bind fun xs => (sOf xs).bind fun ps => if (ps.map (·.length)).sum + ps.length * y.length ≤ SB then some (.val (.str (Txt.join y ps)), q.2) else none
  | _ => none
theorem q_join {a b : RE} : mJoin a b ρ μ = (a ρ μ).bind (joinA b ρ) := by
  unfold mJoin
  cases a ρ μ with
  | none => rfl
  | some p =>
    obtain ⟨w, μ1⟩ := p
    cases w with
    | loc j => rfl
    | val d =>
      cases d with
      | str y =>
        dsimp only [Option.bind, joinA]
        cases b ρ μ1 with
        | none => rfl
        | some q =>
          dsimp only
          cases seqOf q.2 q.1 with
          | none => rfl
          | some xs =>
            dsimp only
            cases sOf xs <;> rfl
      | _ => rfl
theorem joinA_str {b : RE} {y : Str} : joinA b ρ (.val (.str y), μ) = (b ρ μ).bind fun q => (seqOf q.2 q.1).bind fun xs => (sOf xs).bind fun ps => if (ps.map (·.length)).sum + ps.length * y.length ≤ SB then some (.val (.str (Txt.join y ps)), q.2) else none := rfl
theorem q_joined {r : RJ} : mJoined r ρ μ = (r Str.empty ρ μ).bind fun p => some (.val (.str p.1), p.2) := by
  unfold mJoined
  cases r Str.empty ρ μ <;> rfl
theorem q_jNil {acc : Str} : jNil acc ρ μ = some (acc, μ) := rfl
def jW (r : RJ) (acc : Str) (ρ : Env') : W × Mu → Option (Str × Mu)
  | (.val (.str y), μ1) => if (acc ++ y).length ≤ SB ∧ sOkB y = true then r (acc ++ y) ρ μ1 else none
  | _ => none
theorem q_jCons {a : RE} {r : RJ} {acc : Str} : jCons a r acc ρ μ = (a ρ μ).bind (jW r acc ρ) := by
  unfold jCons
  cases a ρ μ with
  | none => rfl
  | some p =>
    obtain ⟨w, μ1⟩ := p
    cases w with
    | loc j => rfl
    | val d => cases d <;> rfl
theorem jW_str {r : RJ} {acc y : Str} : jW r acc ρ (.val (.str y), μ) = if (acc ++ y).length ≤ SB ∧ sOkB y = true then r (acc ++ y) ρ μ else none := rfl
theorem q_star {a : RE} {r : RA} : mStar a r ρ μ = (a ρ μ).bind fun p => (seqOf p.2 p.1).bind fun xs => (r ρ p.2).bind fun q => some (xs.map W.val ++ q.1, q.2) := by
  unfold mStar
  cases a ρ μ with
  | none => rfl
  | some p =>
    dsimp only [Option.bind]
    cases seqOf p.2 p.1 with
    | none => rfl
    | some xs =>
      dsimp only
      cases r ρ p.2 <;> rfl
def ownW (ok : D → Bool) : W × Mu → Option (W × Mu)
  | (.val d, μ2) => if ok d = true then some (.val d, μ2) else none
  | _ => none
theorem q_own1 {c : Str} {ok : D → Bool} {f : FX} {a : RE} : mOwn1 c ok f a ρ μ = (a ρ μ).bind fun p => if isIns c p.2 p.1 = true then (callX f [p.1] p.2).bind (ownW ok) else none := by
  unfold mOwn1
  cases a ρ μ with
  | none => rfl
  | some p =>
    dsimp only [Option.bind]
    split
    · cases callX f [p.1] p.2 with
      | none => rfl
      | some q =>
        obtain ⟨w, μ2⟩ := q
        cases w <;> rfl
    · rfl
theorem ownW_val {ok : D → Bool} {d : D} : ownW ok (.val d, μ) = if ok d = true then some (.val d, μ) else none := rfl
theorem okStr_str {s : Str} : okStr (.str s) = true := rfl
theorem isIns_row {r : RowM} : isIns "Row" μ (.val r.d) = true := by
  show decide (("Row" : Str) = "Row") = true
  simp
theorem isIns_tool {T : ToolM} : isIns "Tool" μ (.val T.d) = true := by
  show decide (("Tool" : Str) = "Tool") = true
  simp
def kgetW (kvs : List (Str × D)) : W × Mu → Option (W × Mu)
  | (.val (.str z), μ1) => some (.val ((kvs.lookup z).getD .non), μ1)
  | _ => none
theorem q_kget {kvs : List (Str × D)} {a : RE} : mKGet kvs a ρ μ = (a ρ μ).bind (kgetW kvs) := by
  unfold mKGet
  cases a ρ μ with
  | none => rfl
  | some p =>
    obtain ⟨w, μ1⟩ := p
    cases w with
    | loc j => rfl
    | val d => cases d <;> rfl
theorem kgetW_str {kvs : List (Str × D)} {z : Str} : kgetW kvs (.val (.str z), μ) = some (.val ((kvs.lookup z).getD .non), μ) := rfl
def indexW (s : Str) (μ : Mu) : D → Option (W × Mu)
  | .lst xs => (sOf xs).bind fun ss => if s ∈ ss then some (.val (.int (ss.idxOf s : Nat)), μ) else none
  | _ => none
theorem q_indexC {a : RE} {s : Str} : mIndex a (mC (.str s)) ρ μ = (a ρ μ).bind fun p => (view p.2 p.1).bind (indexW s p.2) := by
  unfold mIndex
  cases a ρ μ with
  | none => rfl
  | some p =>
    have e : pv1 (mC (.str s)) ρ = some (.str s) := rfl
    dsimp only [Option.bind]
    rw [e]
    dsimp only
    cases view p.2 p.1 with
    | none => rfl
    | some d =>
      cases d with
      | lst xs => dsimp only [indexW]; cases sOf xs <;> rfl
      | _ => rfl
theorem indexW_lst {s : Str} {ss : List Str} : indexW s μ (.lst (ss.map D.str)) = if s ∈ ss then some (.val (.int (ss.idxOf s : Nat)), μ) else none := by
  show (sOf (ss.map D.str)).bind _ = _
  rw [sOf_map]
  rfl
def mkL (c : Str) (m : RE) (ρ : Env') (μ : Mu) : Option (Option W) → Option (W × Mu)
  | some (some (.val (.cls c'))) => if c' = c then m ρ μ else none
  | _ => none
theorem q_makeL {i : Nat} {c : Str} {m : RE} : mMakeL i c m ρ μ = mkL c m ρ μ ρ[i]? := by
  unfold mMakeL mkL
  cases ρ[i]? with
  | none => rfl
  | some o =>
    cases o with
    | none => rfl
    | some w =>
      cases w with
      | loc j => rfl
      | val d => cases d <;> rfl
theorem mkL_cls {c : Str} {m : RE} : mkL c m ρ μ (some (some (.val (.cls c)))) = m ρ μ := by
  show (if c = c then m ρ μ else none) = _
  rw [if_pos rfl]
def cmW (c : Str) (f : FX) (dds : List D) (a : RA) (ρ : Env') : W × Mu → Option (W × Mu)
  | (.val (.cls c'), μ1) => if c' = c then (a ρ μ1).bind fun p => callX f (.val (.cls c) :: (p.1 ++ dds.map W.val)) p.2 else none
  | _ => none
theorem q_cmeth {c : Str} {f : FX} {dds : List D} {o : RE} {a : RA} : mCMeth c f dds o a ρ μ = (o ρ μ).bind (cmW c f dds a ρ) := by
  unfold mCMeth
  cases o ρ μ with
  | none => rfl
  | some p =>
    obtain ⟨w, μ1⟩ := p
    cases w with
    | loc j => rfl
    | val d =>
      cases d with
      | cls c' =>
        dsimp only [Option.bind, cmW]
        split
        · cases a ρ μ1 <;> rfl
        · rfl
      | _ => rfl
theorem cmW_cls {c : Str} {f : FX} {dds : List D} {a : RA} : cmW c f dds a ρ (.val (.cls c), μ) = (a ρ μ).bind fun p => callX f (.val (.cls c) :: (p.1 ++ dds.map W.val)) p.2 := by
  show (if c = c then _ else none) = _
  rw [if_pos rfl]
def star1W (i j : Nat) (ρ : Env') (μ : Mu) : D → Option Out
  | .lst (d :: ds) => some (.nx ((ρ.set i (some (.val d))).set j (some (.val (.lst ds)))) μ)
  | _ => none
theorem q_star1 {i j : Nat} {a : RE} : mStar1 i j a ρ μ = (a ρ μ).bind fun p => (view p.2 p.1).bind (star1W i j ρ p.2) := by
  unfold mStar1
  cases a ρ μ with
  | none => rfl
  | some p =>
    dsimp only [Option.bind]
    cases view p.2 p.1 with
    | none => rfl
    | some d =>
      cases d with
      | lst xs => cases xs <;> rfl
      | _ => rfl
theorem star1W_cons {i j : Nat} {d : D} {ds : List D} : star1W i j ρ μ (.lst (d :: ds)) = some (.nx ((ρ.set i (some (.val d))).set j (some (.val (.lst ds)))) μ) := rfl
def chainE (μ : Mu) : D → Option (W × Mu)
  | .bl l => some (.val (.bl l), μ)
  | _ => none
def chainW (g : D → D → Option D) (c : RE) (ρ : Env') (y : D) (μ : Mu) : D → Option (W × Mu)
  | .bl b => if b = true then (dat1 c ρ μ).bind fun s => (g y s.1).bind (chainE s.2) else some (.val (.bl false), μ)
  | _ => none
theorem q_chain {f g : D → D → Option D} {a b c : RE} : mChain f g a b c ρ μ = (dat1 a ρ μ).bind fun p => (dat1 b ρ p.2).bind fun q => (f p.1 q.1).bind (chainW g c ρ q.1 q.2) := by
  unfold mChain
  cases dat1 a ρ μ with
  | none => rfl
  | some p =>
    dsimp only [Option.bind]
    cases dat1 b ρ p.2 with
    | none => rfl
    | some q =>
      dsimp only
      cases f p.1 q.1 with
      | none => rfl
      | some r =>
        cases r with
        | bl k =>
          cases k with
          | false => rfl
          | true =>
            dsimp only [chainW]
            rw [if_pos rfl]
            cases dat1 c ρ q.2 with
            | none => rfl
            | some s =>
              dsimp only [Option.bind]
              cases g q.1 s.1 with
              | none => rfl
              | some t => cases t <;> rfl
        | _ => rfl
theorem chainW_bl {g : D → D → Option D} {c : RE} {y : D} {b : Bool} : chainW g c ρ y μ (.bl b) = if b = true then (dat1 c ρ μ).bind fun s => (g y s.1).bind (chainE s.2) else some (.val (.bl false), μ) := rfl
theorem chainE_bl {b : Bool} : chainE μ (.bl b) = some (.val (.bl b), μ) := rfl
theorem q_eqOwn {c : Str} {f : FX} {a b : RE} : mEqOwn c f a b ρ μ = (a ρ μ).bind fun p => (b ρ p.2).bind fun q => if isIns c q.2 p.1 = true ∧ isIns c q.2 q.1 = true then callX f [p.1, q.1] q.2 else none := by
  unfold mEqOwn
  cases a ρ μ with
  | none => rfl
  | some p =>
    dsimp only [Option.bind]
    cases b ρ p.2 <;> rfl
theorem fmtF_s {s : Str} : fmtF (.str s) = some (.str s) := rfl
def augM (i : Nat) (ρ : Env') : Option (Option W) → W × Mu → Option Out
  | some (some (.val (.int m))), (.val (.int n), μ1) => some (.nx (ρ.set i (some (.val (.int (m + n))))) μ1)
  | _, _ => none
theorem q_aug {i : Nat} {a : RE} : mAug i a ρ μ = (a ρ μ).bind (augM i ρ ρ[i]?) := by
  unfold mAug
  cases a ρ μ with
  | none =>
    cases ρ[i]? with
    | none => rfl
    | some o =>
      cases o with
      | none => rfl
      | some w =>
        cases w with
        | loc j => rfl
        | val d => cases d <;> rfl
  | some p =>
    obtain ⟨w, μ1⟩ := p
    cases ρ[i]? with
    | none => rfl
    | some o =>
      cases o with
      | none => rfl
      | some v =>
        cases v with
        | loc j => rfl
        | val d =>
          cases d with
          | int m =>
            cases w with
            | loc j => rfl
            | val e => cases e <;> rfl
          | _ => rfl
theorem augM_int {i : Nat} {m n : Int} : augM i ρ (some (some (.val (.int m)))) (.val (.int n), μ) = some (.nx (ρ.set i (some (.val (.int (m + n))))) μ) := rfl
theorem q_parN {is : List Nat} {r : RA} : mParN is r ρ μ = (r ρ μ).bind fun p => if is.length = p.1.length ∧ p.1.length ≤ LB then some (.nx (setAll is p.1 ρ) p.2) else none := by
  unfold mParN
  cases r ρ μ <;> rfl
theorem setAll_cons {i : Nat} {is : List Nat} {w : W} {ws : List W} : setAll (i :: is) (w :: ws) ρ = setAll is ws (ρ.set i (some w)) := rfl
theorem setAll_nil {ws : List W} : setAll [] ws ρ = ρ := by cases ws <;> rfl
theorem q_never : mNever ρ μ = none := rfl
theorem intF_bl {b : Bool} : intF (.bl b) = some (.int (if b = true then 1 else 0)) := by cases b <;> rfl
def extM (μ : Mu) (j : Nat) (ys : List D) : Option MO → Option (W × Mu)
  | some (.lst xs) => if xs.length + ys.length ≤ LB then some (.val .non, μ.set j (.lst (xs ++ ys))) else none
  | _ => none
def extD (μ : Mu) (j : Nat) : D → Option (W × Mu)
  | .lst ys => extM μ j ys μ[j]?
  | _ => none
def extW (j : Nat) : List W × Mu → Option (W × Mu)
  | ([w], μ2) => (view μ2 w).bind (extD μ2 j)
  | _ => none
def extA (r : RA) (ρ : Env') : W × Mu → Option (W × Mu)
  | (.loc j, μ1) => (view μ1 (.loc j)).bind fun _ => (r ρ μ1).bind (extW j)
  | _ => none
theorem q_extend {a : RE} {r : RA} : mExtend a r ρ μ = (a ρ μ).bind (extA r ρ) := by
  unfold mExtend
  cases a ρ μ with
  | none => rfl
  | some p =>
    obtain ⟨w, μ1⟩ := p
    cases w with
    | val d => rfl
    | loc j =>
      dsimp only [Option.bind, extA]
      cases view μ1 (.loc j) with
      | none => rfl
      | some v =>
        dsimp only
        cases r ρ μ1 with
        | none => rfl
        | some q =>
          obtain ⟨ws, μ2⟩ := q
          match ws with
          | [] => rfl
          | [w] =>
            dsimp only [Option.bind, extW]
            cases e : view μ2 w with
            | none =>
              dsimp only
              cases μ2[j]? with
              | none => rfl
              | some m => cases m <;> rfl
            | some d =>
              dsimp only
              cases d with
              | lst ys =>
                dsimp only [extD]
                unfold extM
                cases μ2[j]? with
                | none => rfl
                | some m => cases m <;> rfl
              | _ =>
                dsimp only [extD]
                cases μ2[j]? with
                | none => rfl
                | some m => cases m <;> rfl
          | _ :: _ :: _ => rfl
theorem extA_loc {r : RA} {j : Nat} : extA r ρ (.loc j, μ) = (viewM μ[j]?).bind fun _ => (r ρ μ).bind (extW j) := by
  show (view μ (.loc j)).bind _ = _
  rw [view_loc]
theorem extW_1 {j : Nat} {w : W} : extW j ([w], μ) = (view μ w).bind (extD μ j) := rfl
theorem extD_lst {j : Nat} {ys : List D} : extD μ j (.lst ys) = extM μ j ys μ[j]? := rfl
theorem extM_lst {j : Nat} {xs ys : List D} : extM μ j ys (some (.lst xs)) = if xs.length + ys.length ≤ LB then some (.val .non, μ.set j (.lst (xs ++ ys))) else none := rfl
theorem q_asgT {a : RE} {g : RT} : mAsgT a g ρ μ = (a ρ μ).bind fun p => (g p.1 ρ p.2).bind fun q => some (.nx q.1 q.2) := by
  unfold mAsgT
  cases a ρ μ with
  | none => rfl
  | some p =>
    dsimp only [Option.bind]
    cases g p.1 ρ p.2 <;> rfl
theorem uTup_tup {n : Nat} {r : RTs} {ds : List D} : uTup n r (.val (.tup ds)) ρ μ = if ds.length = n then r ds ρ μ else none := rfl
theorem uCons_cons {g : RT} {r : RTs} {d : D} {t : List D} : uCons g r (d :: t) ρ μ = (g (.val d) ρ μ).bind fun p => r t p.1 p.2 := by
  show (match g (.val d) ρ μ with
    | some (ρ1, μ1) => r t ρ1 μ1
    | none => none) = _
  cases g (.val d) ρ μ <;> rfl
theorem uNil_nil : uNil [] ρ μ = some (ρ, μ) := rfl
theorem uName_eq {i : Nat} {w : W} : uName i w ρ μ = some (ρ.set i (some w), μ) := rfl
def ufM (c f : Str) (ρ : Env') (μ : Mu) (j : Nat) (w : W) : Option MO → Option (Env' × Mu)
  | some (.ins c' fs) => if c' = c ∧ fs.length < 100 ∧ w.below μ.length = true then some (ρ, μ.set j (.ins c (putW f w fs))) else none
  | _ => none
def ufW (c f : Str) (ρ : Env') (w : W) : W × Mu → Option (Env' × Mu)
  | (.loc j, μ1) => ufM c f ρ μ1 j w μ1[j]?
  | _ => none
theorem uFld_eq {c f : Str} {o : RE} {w : W} : uFld c f o w ρ μ = (o ρ μ).bind (ufW c f ρ w) := by
  unfold uFld
  cases o ρ μ with
  | none => rfl
  | some p =>
    obtain ⟨v, μ1⟩ := p
    cases v with
    | val d => rfl
    | loc j =>
      dsimp only [Option.bind, ufW]
      unfold ufM
      cases μ1[j]? with
      | none => rfl
      | some m => cases m <;> rfl
theorem ufW_loc {c f : Str} {j : Nat} {w : W} : ufW c f ρ w (.loc j, μ) = ufM c f ρ μ j w μ[j]? := rfl
theorem ufM_ins {c f : Str} {j : Nat} {d : D} {fs : List (Str × W)} : ufM c f ρ μ j (.val d) (some (.ins c fs)) = if fs.length < 100 then some (ρ, μ.set j (.ins c (putW f (.val d) fs))) else none := by
  show (if c = c ∧ fs.length < 100 ∧ W.below μ.length (.val d) = true then _ else none) = _
  by_cases h : fs.length < 100
  · rw [if_pos h, if_pos ⟨rfl, h, rfl⟩]
  · rw [if_neg h, if_neg fun z => h z.2.1]
def fldSM (c f : Str) (ρ : Env') (μ : Mu) (j : Nat) (w : W) : Option MO → Option Out
  | some (.ins c' fs) => if c' = c ∧ fs.length < 100 ∧ w.below μ.length = true then some (.nx ρ (μ.set j (.ins c (putW f w fs)))) else none
  | _ => none
theorem fldSW_loc {c f : Str} {j : Nat} {w : W} : fldSW c f ρ w μ (.loc j) = fldSM c f ρ μ j w μ[j]? := by
  unfold fldSW fldSM
  try dsimp only
  all_goals (cases μ[j]? with
  | none => rfl
  | some m => cases m <;> rfl)
theorem fldSM_ins {c f : Str} {j : Nat} {d : D} {fs : List (Str × W)} : fldSM c f ρ μ j (.val d) (some (.ins c fs)) = if fs.length < 100 then some (.nx ρ (μ.set j (.ins c (putW f (.val d) fs)))) else none := by
  show (if c = c ∧ fs.length < 100 ∧ W.below μ.length (.val d) = true then _ else none) = _
  by_cases h : fs.length < 100
  · rw [if_pos h, if_pos ⟨rfl, h, rfl⟩]
  · rw [if_neg h, if_neg fun z => h z.2.1]
def fldM (c f : Str) (μ : Mu) : Option MO → Option (W × Mu)
  | some (.ins c' fs) => if c' = c then (fs.lookup f).bind fun w => some (w, μ) else none
  | _ => none
theorem fldW_loc {c f : Str} {j : Nat} : fldW c f μ (.loc j) = fldM c f μ μ[j]? := by
  show (match μ[j]? with
    | some (.ins c' fs) => if c' = c then match fs.lookup f with
      | some w => some (w, μ)
      | none => none
      else none
    | _ => none) = _
  unfold fldM
  cases μ[j]? with
  | none => rfl
  | some m =>
    cases m with
    | ins c' fs =>
      dsimp only
      split
      · cases fs.lookup f <;> rfl
      · rfl
    | _ => rfl
theorem fldM_ins {c f : Str} {fs : List (Str × W)} : fldM c f μ (some (.ins c fs)) = (fs.lookup f).bind fun w => some (w, μ) := by
  show (if c = c then _ else none) = _
  rw [if_pos rfl]
theorem look_cons {α : Type} {s g : Str} {w : α} {r : List (Str × α)} : List.lookup s ((g, w) :: r) = if s = g then some w else List.lookup s r := by
  rw [List.lookup_cons]
  by_cases h : s = g
  · rw [if_pos h, h, beq_self_eq_true]
  · rw [if_neg h, beq_false_of_ne h]
theorem putW_cons {f g : Str} {w x : W} {r : List (Str × W)} : putW f w ((g, x) :: r) = if g = f then (g, w) :: r else (g, x) :: putW f w r := rfl
theorem putW_nil {f : Str} {w : W} : putW f w [] = [(f, w)] := rfl
theorem at0 {α : Type} {a : α} {l : List α} : atI (a :: l) 0 = some a := L2.atI_nat (j := 0) rfl
theorem at1 {α : Type} {a b : α} {l : List α} : atI (a :: b :: l) 1 = some b := L2.atI_nat (j := 1) rfl
theorem at2 {α : Type} {a b c : α} {l : List α} : atI (a :: b :: c :: l) 2 = some c := L2.atI_nat (j := 2) rfl
theorem at3 {α : Type} {a b c d : α} {l : List α} : atI (a :: b :: c :: d :: l) 3 = some d := L2.atI_nat (j := 3) rfl
end DX
namespace DX
open PySem PySem.Spec L2 DK
def m_law_deeds_1 : RS :=
  (mSeq (mIfS (mTest (mOp (eqF false) (mVar 6) (mC (.str "learn")))) (mSeq (mAsg (mVar 4) (hName 2))
      (mCont)) mNext)
      (mSeq (mAsg (mIx (mOp splitF (mVar 6) (mC (.str " "))) (mC (.int 1))) (hName 7))
      (mAsg (mOp plusF (mLc (kSeq (mVar 5)) (hName 8) (mTest (mOp (eqF true) (mVar 8) (mVar 7))) (mVar 8) [8]) (mIf (mTest (mOp (eqF false) (mSl (mVar 6) mNoPart (mPart (mC (.int 4)))) (mC (.str "mark")))) (mLst (mCons (mVar 7) mNil)) (mLst mNil))) (hName 5))))
def m_law_deeds : RS :=
  (mSeq (mAsg (mUn lstF (mVar 3)) (hName 5))
      (mSeq (mFor (kSeq (mIf (mTest (mIsN true (mVar 1))) (mIx (mIx (mIx (mVar 0) (mC (.int 1))) (mVar 1)) (mC (.int 2))) (mLst mNil))) (hName 6) m_law_deeds_1)
      (mRet (mTup (mCons (mVar 2) (mCons (mUn tupF (mUn sortF (mLc (kSeq (mVar 5)) (hName 8) mYes (mUn strF (mVar 8)) [8]))) mNil))))))
def f_law_deeds : FX := bodyF true 5 9 m_law_deeds
def m_law_word : RS :=
  (mSeq (mAsg (mOp minusF (mVar 2) (mVar 1)) (hName 3))
      (mSeq (mIfS (mTest (mOp ltF (mVar 3) (mC (.int 2)))) (mRet (mIf (mTest (mOp ltF (mVar 3) (mOp minusF (mC (.int 0)) (mC (.int 1))))) (mC (.str "elder")) (mIf (mTest (mOp ltF (mVar 3) (mC (.int 0)))) (mC (.str "last")) (mIf (mTest (mOp (eqF false) (mVar 3) (mC (.int 1)))) (mC (.str "next")) (mC (.str "same")))))) mNext)
      (mRet (mIf (mTest (mOp leF (mVar 3) (mIx (mVar 0) (mC (.int 0))))) (mC (.str "near")) (mC (.str "far"))))))
def f_law_word : FX := bodyF true 3 4 m_law_word
def m_law_row_done_1 : RS :=
  (mSeq (mAsg (mLc (kSeq (mIx (mVar 4) (mC (.int 1)))) (hName 5) (mTest (mOp (eqF false) (mOp (eqF false) (mSl (mVar 5) mNoPart (mPart (mC (.int 4)))) (mC (.str "not "))) (mOp (inF false) (mIx (mOp splitF (mVar 5) (mC (.str " "))) (mUn negF (mC (.int 1)))) (mVar 2)))) (mVar 5) [5]) (hName 6))
      (mIfS (mAnd (mTest (mOp (eqF false) (mIx (mVar 4) (mC (.int 0))) (mVar 1))) (mTest (mOp (eqF false) (mVar 6) (mLst mNil)))) (mRet (mVar 3)) mNext))
def m_law_row_done : RS :=
  (mSeq (mFor (kEnum (mCons (mIx (mVar 0) (mC (.int 1))) mNil)) (hTup 2 (hCons (hName 3) (hCons (hName 4) hNil))) m_law_row_done_1)
      (mRet (mC .non)))
def f_law_row_done : FX := bodyF true 3 7 m_law_row_done
def m_law_answer : RS :=
  (mSeq (mAsg (mCall f_law_row_done [] (mCons (mVar 0) (mCons (mCall f_law_word [] (mCons (mVar 0) (mCons (mVar 1) (mCons (mVar 3) mNil)))) (mCons (mVar 2) mNil)))) (hName 4))
      (mSeq (mAsg (mCall f_law_deeds [] (mCons (mVar 0) (mCons (mVar 4) (mCons (mVar 1) (mCons (mVar 2) (mCons (mVar 3) mNil)))))) (hTup 2 (hCons (hName 5) (hCons (hName 6) hNil))))
      (mRet (mTup (mCons (mAndV (mIsN true (mVar 4)) (mIx (mIx (mIx (mVar 0) (mC (.int 1))) (mVar 4)) (mC (.int 3)))) (mCons (mVar 5) (mCons (mVar 6) (mCons (mVar 4) mNil))))))))
def f_law_answer : FX := bodyF true 4 7 m_law_answer
def m_law_events_p1 : RS :=
  mPar 3 4 (mCons (mLstM mNil) (mCons (mC (.int 0)) mNil))
def m_law_events_p2 : RS :=
  mAsg (mCall f_law_draw [] (mCons (mVar 0) (mCons (mC (.int 6)) mNil))) (hName 6)
def m_law_events_p3 : RS :=
  mDrop (mAppend (mVar 3) (mCons (mC (.str "give")) mNil))
def m_law_events_p4 : RS :=
  mAsg (mOp plusF (mVar 4) (mC (.int 1))) (hName 4)
def m_law_events_p5 : RS :=
  mDrop (mAppend (mVar 3) (mCons (mC (.str "house")) mNil))
def m_law_events_p6 : RS :=
  mDrop (mAppend (mVar 3) (mCons (mOp plusF (mC (.str "try ")) (mUn strF (mIf (mTest (mOp (eqF false) (mVar 6) (mC (.int 2)))) (mVar 4) (mOp plusF (mC (.int 1)) (mCall f_law_draw [] (mCons (mVar 0) (mCons (mVar 4) mNil))))))) mNil))
def m_law_events_p7 : RS :=
  mIfS (mTest (mOp (eqF false) (mVar 6) (mC (.int 5)))) (m_law_events_p5) (m_law_events_p6)
def m_law_events_p8 : RS :=
  mIfS (mOr (mTest (mOp (eqF false) (mVar 4) (mC (.int 0)))) (mAnd (mTest (mOp ltF (mVar 6) (mC (.int 2)))) (mTest (mOp ltF (mVar 4) (mVar 2))))) (mSeq (m_law_events_p3)
      (m_law_events_p4)) (m_law_events_p7)
def m_law_events_1 : RS :=
  (mSeq (m_law_events_p2)
      (m_law_events_p8))
def m_law_events_p9 : RS :=
  mFor (kRng1 (mCons (mVar 1) mNil)) (hName 5) m_law_events_1
def m_law_events_p10 : RS :=
  mRet (mVar 3)
def m_law_events : RS :=
  (mSeq (m_law_events_p1)
      (mSeq (m_law_events_p9)
      (m_law_events_p10)))
def f_law_events : FX := bodyF true 3 7 m_law_events
end DX
namespace DX
open PySem PySem.Spec L2 DK
local macro_rules
  | `(tactic| push_cast [$ts,*]) => `(tactic| simp only [q_seq, q_ifS, q_if, q_and, q_or, q_not, q_andV, q_orV, q_notV, q_test, q_op, q_un, q_asg, q_ret, q_drop, q_cons, q_dat, q_dat1, q_tup, q_lst, q_call, q_meth, q_for, q_lc, q_seqI, q_sl, q_var, q_c, q_nil, q_next, q_cont, q_break, q_retN, q_yes, q_noPart, q_partB, q_isN, q_ixB, q_fld, q_enum, q_par, q_body, varW_some, view_val, view_loc, viewM_lst, viewM_frz, isBl_bl, partW_int, name_set, ixW_val, ixF_l, ixF_t, fld_row_word, fld_row_tests, fld_row_deeds, fld_row_opens, fld_tool_window, fld_tool_rows, fld_tool_marks, recv_row, recv_tool, bodyE_rt, bodyE_nx, exit_any, exit_dst, negF_int, plusF_int, minusF_int, ltF_int, leF_int, gtF_int, geF_int, eqF_int, eqF_str, eqF_bl, intF_int, maxF_int, minF_int, lenF_l, lenF_t, lenF_s, tupF_l, tupF_t, lstF_l, lstF_t, strF_s, seqOf_t, seqOf_l, guard_val, guard_loc, isNW_val, isNW_loc, enumW_1, parW_2, tup_set, cons_set, nil_set, frzL_nil, frzL_cons, frz1_val, frz1_loc, frzM_lst, frzM_frz, ofS, ite_bind, Option.bind_some, then_nx, then_rt, then_ct, then_bk, start, List.length_cons, List.length_nil, List.map_cons, List.map_nil, List.replicate, List.cons_append, List.nil_append, List.append_nil, List.getElem?_cons_succ, List.getElem?_cons_zero, List.set_cons_succ, List.set_cons_zero, Nat.sub_self, Nat.reduceSub, Nat.reduceAdd, Nat.reduceEqDiff, if_true, if_false, reduceIte, decide_eq_true_eq, decide_true, decide_false, Bool.false_xor, Bool.true_xor, Nat.zero_add, eq_self, String.reduceEq, Bool.false_eq_true, wipeE, List.foldl_cons, List.foldl_nil, Bool.not_true, Bool.not_false, inF_strsT, inF_strsL, q_fldS, q_make, isNon_int, isNon_non, isNon_bl, isNon_str, isNon_tup, isNon_lst, q_lcM, q_setI, q_addM, addW_val, seqOf_loc, seqM_lst, seqM_frz, ixW_loc, ixM_lsW, ixM_lst, ixM_frz, setIW_loc, setIM_lst, exit_val, exit_loc, exitV_if, List.take_succ_cons, List.take_zero, List.take_nil, List.all_cons, List.all_nil, Bool.and_true, Bool.true_and, Bool.and_self, Nat.reduceLT, Nat.reduceLeDiff, Nat.zero_le, Nat.lt_add_one, exitM_lst, exitM_frz, below_lst, below_frz, below_dK, below_scr, below_lsW, below_ins, below_dW, wbelow_val, wbelow_loc, q_append, appA_loc, appW_1, appM_lst, q_lstOfM, lstM_lst, q_lstM, q_rng1, standB_none, standB_some, standM_lst, standM_frz, q_join, joinA_str, q_joined, q_jNil, q_jCons, jW_str, q_star, q_own1, ownW_val, okStr_str, isIns_row, isIns_tool, q_kget, kgetW_str, q_indexC, indexW_lst, q_makeL, mkL_cls, q_cmeth, cmW_cls, q_star1, star1W_cons, q_chain, chainW_bl, chainE_bl, q_eqOwn, fmtF_s, and_self, q_aug, augM_int, q_parN, setAll_cons, setAll_nil, q_never, intF_bl, q_extend, extA_loc, extW_1, extD_lst, extM_lst, q_asgT, uTup_tup, uCons_cons, uNil_nil, uName_eq, uFld_eq, ufW_loc, ufM_ins, fldSW_loc, fldSM_ins, fldW_loc, fldM_ins, look_cons, putW_nil, putW_cons, $ts,*])
variable {μ : Mu}
structure Txt where
  ts : List Str
  ds : List Str
def Txt.okB (X : Txt) : Bool := (X.ts.all fun s => match f_is_test [.val (.str s)] [] with
    | some (.val (.bl true), []) => true
    | _ => false) && X.ds.all fun s => match f_is_deed [.val (.str s)] [] with
    | some (.val (.bl true), []) => true
    | _ => false
theorem e_is_seq {m : D} {xs : List D} (h : seqD m = some xs) : callX f_is_sequence [.val m] μ = some (.val (.bl true), μ) := by
  refine callX_pure rfl ?_
  cases m with
  | tup ys => rfl
  | lst ys => rfl
  | _ => cases h
theorem seqOf_of {m : D} {xs : List D} (h : seqD m = some xs) : seqOf μ (.val m) = some xs := seqOf_D h
theorem tupF_of {m : D} {xs : List D} (h : seqD m = some xs) : tupF m = some (.tup xs) := by
  cases m with
  | tup ys => cases h; rfl
  | lst ys => cases h; rfl
  | _ => cases h
structure RowOk (X : Txt) (r : RowM) : Prop where
  w : r.word ∈ cc_WORDS
  ts : ∀ s ∈ r.tests, s ∈ X.ts
  zt : r.tests.length ≤ 1000
  ds : ∀ s ∈ r.deeds, s ∈ X.ds
  zd : r.deeds.length ≤ 1000
  l : r.deeds = [] ∨ r.word ∈ cc_LEARNING ∧ ("learn" : Str) ∈ r.deeds
  o : r.opens = true ∨ r.word ≠ "house"
theorem atL_wds {s : Str} : atI ((wds s).map D.str) (-1) = some (.str (lst (wds s))) := at_map (at_lst (wds_ne s))
theorem at1_of {l : List Str} {x : Str} (h : l[1]? = some x) : atI (l.map D.str) 1 = some (.str x) := by
  match l, h with
  | a :: b :: t, h =>
    have : b = x := by simpa using h
    subst this
    exact at_map (atI_nat (k := 1) rfl)
def deedOk (s : Str) : Bool := (decide (fst (wds s) ≠ "mark") && decide (fst (wds s) ≠ "clear")) || (match (wds s)[1]? with
  | some x => sOkB x
  | none => false)
theorem addK_lenF : ∀ {ms ks : List Str}, (ms.foldl addK ks).length ≤ ks.length + ms.length
  | [], ks => by simp
  | m :: ms, ks => by
    have := addK_lenF (ms := ms) (ks := addK ks m)
    have h := addK_len (ks := ks) (s := m)
    rw [List.foldl_cons, List.length_cons]
    omega
theorem deedM_lenF : ∀ {ms ks : List Str}, (ms.foldl deedM ks).length ≤ ks.length + ms.length
  | [], ks => by simp
  | m :: ms, ks => by
    have := deedM_lenF (ms := ms) (ks := deedM ks m)
    have h := deedM_len (ks := ks) (s := m)
    rw [List.foldl_cons, List.length_cons]
    omega
theorem sortF_map {l : List Str} (h : l.length < 64) : sortF (.lst (l.map D.str)) = some (.lst ((srt l).map D.str)) := by
  unfold sortF
  dsimp only
  rw [sOf_map]
  dsimp only
  rw [if_pos h]
structure ToolOk (X : Txt) (T : ToolM) : Prop where
  win : 1 ≤ T.window
  txt : (textsM T.rows).length < 64
  len : T.rows.length ≤ 1000
  row : ∀ r ∈ T.rows, r.tests.length + r.deeds.length < 32
  ok : ∀ r ∈ T.rows, RowOk X r
theorem e_strs {ρ : Env'} {i : Nat} {marks : List Str} (hi : i < ρ.length) : lcR (hName i) mYes (mUn strF (mVar i)) none ρ (marks.map D.str) [] = some (marks.map D.str, []) := lc_map1 (h := D.str) rfl (fun s hs => ⟨_, rfl, by
  push_cast [eq_self]
  rw [List.getElem?_set_self hi]
  push_cast [eq_self]⟩)
structure TxtOk (X : Txt) : Prop where
  ok : X.okB = true
  de : ∀ s ∈ X.ds, deedOk s = true
theorem addK_mems : ∀ {ms ks : List Str} {s : Str}, s ∈ ms.foldl addK ks → s ∈ ks ∨ s ∈ ms
  | [], ks, s, h => .inl h
  | m :: ms, ks, s, h => by
    rcases addK_mems (ms := ms) (ks := addK ks m) h with h | h
    · rcases addK_mem h with h | h
      · exact .inl h
      · exact .inr (by rw [h]; simp)
    · exact .inr (List.mem_cons_of_mem _ h)
theorem deedM_mems : ∀ {ds ks : List Str} {s : Str}, s ∈ ds.foldl deedM ks → s ∈ ks ∨ ∃ d ∈ ds, s = (wds d).getD 1 ""
  | [], ks, s, h => .inl h
  | d :: ds, ks, s, h => by
    rcases deedM_mems (ds := ds) (ks := deedM ks d) h with h | ⟨e, he, h⟩
    · unfold deedM at h
      split at h
      · rcases addK_mem h with h | h
        · exact .inl h
        · exact .inr ⟨d, by simp, h⟩
      · split at h
        · exact .inl (List.mem_filter.mp h).1
        · exact .inl h
    · exact .inr ⟨e, List.mem_cons_of_mem _ he, h⟩
theorem behind_mem {ds ms : List Str} {s : Str} (h : s ∈ behindM ds ms) : s ∈ ms ∨ ∃ d ∈ ds, s = (wds d).getD 1 "" := by
  unfold behindM at h
  rcases deedM_mems ((srt_perm _).mem_iff.mp h) with h | h
  · rcases addK_mems h with h | h
    · cases h
    · exact .inl h
  · exact .inr h
theorem behind_len {ds ms : List Str} : (behindM ds ms).length ≤ ms.length + ds.length := by
  unfold behindM
  rw [(srt_perm _).length_eq]
  have h1 := deedM_lenF (ms := ds) (ks := ms.foldl addK [])
  have h2 := addK_lenF (ms := ms) (ks := [])
  rw [List.length_nil] at h2
  omega
theorem addK_nd : ∀ {ms ks : List Str}, (ks ++ ms).Nodup → ms.foldl addK ks = ks ++ ms
  | [], ks, _ => by simp
  | m :: ms, ks, h => by
    have hm : m ∉ ks := fun z => by
      rw [List.nodup_append] at h
      exact h.2.2 m z m (by simp) rfl
    rw [List.foldl_cons, addK, if_neg hm, addK_nd (by rw [List.append_assoc]; exact h), List.append_assoc]
    rfl
end DX
namespace DX
open PySem PySem.Spec L2 DK
local macro_rules
  | `(tactic| push_cast [$ts,*]) => `(tactic| simp only [q_seq, q_ifS, q_if, q_and, q_or, q_not, q_andV, q_orV, q_notV, q_test, q_op, q_un, q_asg, q_ret, q_drop, q_cons, q_dat, q_dat1, q_tup, q_lst, q_call, q_meth, q_for, q_lc, q_seqI, q_sl, q_var, q_c, q_nil, q_next, q_cont, q_break, q_retN, q_yes, q_noPart, q_partB, q_isN, q_ixB, q_fld, q_enum, q_par, q_body, varW_some, view_val, view_loc, viewM_lst, viewM_frz, isBl_bl, partW_int, name_set, ixW_val, ixF_l, ixF_t, fld_row_word, fld_row_tests, fld_row_deeds, fld_row_opens, fld_tool_window, fld_tool_rows, fld_tool_marks, recv_row, recv_tool, bodyE_rt, bodyE_nx, exit_any, exit_dst, negF_int, plusF_int, minusF_int, ltF_int, leF_int, gtF_int, geF_int, eqF_int, eqF_str, eqF_bl, intF_int, maxF_int, minF_int, lenF_l, lenF_t, lenF_s, tupF_l, tupF_t, lstF_l, lstF_t, strF_s, seqOf_t, seqOf_l, guard_val, guard_loc, isNW_val, isNW_loc, enumW_1, parW_2, tup_set, cons_set, nil_set, frzL_nil, frzL_cons, frz1_val, frz1_loc, frzM_lst, frzM_frz, ofS, ite_bind, Option.bind_some, then_nx, then_rt, then_ct, then_bk, start, List.length_cons, List.length_nil, List.map_cons, List.map_nil, List.replicate, List.cons_append, List.nil_append, List.append_nil, List.getElem?_cons_succ, List.getElem?_cons_zero, List.set_cons_succ, List.set_cons_zero, Nat.sub_self, Nat.reduceSub, Nat.reduceAdd, Nat.reduceEqDiff, if_true, if_false, reduceIte, decide_eq_true_eq, decide_true, decide_false, Bool.false_xor, Bool.true_xor, Nat.zero_add, eq_self, String.reduceEq, Bool.false_eq_true, wipeE, List.foldl_cons, List.foldl_nil, Bool.not_true, Bool.not_false, inF_strsT, inF_strsL, q_fldS, q_make, isNon_int, isNon_non, isNon_bl, isNon_str, isNon_tup, isNon_lst, q_lcM, q_setI, q_addM, addW_val, seqOf_loc, seqM_lst, seqM_frz, ixW_loc, ixM_lsW, ixM_lst, ixM_frz, setIW_loc, setIM_lst, exit_val, exit_loc, exitV_if, List.take_succ_cons, List.take_zero, List.take_nil, List.all_cons, List.all_nil, Bool.and_true, Bool.true_and, Bool.and_self, Nat.reduceLT, Nat.reduceLeDiff, Nat.zero_le, Nat.lt_add_one, exitM_lst, exitM_frz, below_lst, below_frz, below_dK, below_scr, below_lsW, below_ins, below_dW, wbelow_val, wbelow_loc, q_append, appA_loc, appW_1, appM_lst, q_lstOfM, lstM_lst, q_lstM, q_rng1, standB_none, standB_some, standM_lst, standM_frz, q_join, joinA_str, q_joined, q_jNil, q_jCons, jW_str, q_star, q_own1, ownW_val, okStr_str, isIns_row, isIns_tool, q_kget, kgetW_str, q_indexC, indexW_lst, q_makeL, mkL_cls, q_cmeth, cmW_cls, q_star1, star1W_cons, q_chain, chainW_bl, chainE_bl, q_eqOwn, fmtF_s, and_self, q_aug, augM_int, q_parN, setAll_cons, setAll_nil, q_never, intF_bl, q_extend, extA_loc, extW_1, extD_lst, extM_lst, q_asgT, uTup_tup, uCons_cons, uNil_nil, uName_eq, uFld_eq, ufW_loc, ufM_ins, fldSW_loc, fldSM_ins, fldW_loc, fldM_ins, look_cons, putW_nil, putW_cons, $ts,*])
variable {μ : Mu}
def rowT (r : RowM) : D := .tup [.str r.word, .lst (r.tests.map D.str), .lst (r.deeds.map D.str), .bl r.opens]
def toolT (T : ToolM) : D := .tup [.int T.window, .lst (T.rows.map rowT)]
theorem ix_tool {T : ToolM} {i : Int} : ixF (toolT T) (.int i) = atI [.int T.window, .lst (T.rows.map rowT)] i := rfl
theorem ix_row {r : RowM} {i : Int} : ixF (rowT r) (.int i) = atI [.str r.word, .lst (r.tests.map D.str), .lst (r.deeds.map D.str), .bl r.opens] i := rfl
theorem e_lword {T : ToolM} {n c : Int} : callX f_law_word [.val (toolT T), .val (.int n), .val (.int c)] μ = some (.val (.str (wordM T.window (c - n))), μ) := by
  refine callX_pure rfl ?_
  unfold f_law_word m_law_word wordM
  push_cast [ix_tool, at0]
  repeat' split
  all_goals first | rfl | omega
theorem eqF_strsL {neg : Bool} {a b : List Str} : eqF neg (.lst (a.map D.str)) (.lst (b.map D.str)) = some (.bl (neg ^^ decide (a = b))) := by
  have e : eqP (.lst (a.map D.str)) (.lst (b.map D.str)) = decide (a = b) := by
    show PyData.eqvAll (toPyL (a.map D.str)) (toPyL (b.map D.str)) = _
    induction a generalizing b with
    | nil => cases b <;> simp [toPyL, toPy, PyData.eqvAll]
    | cons x a ih =>
      cases b with
      | nil => simp [toPyL, toPy, PyData.eqvAll]
      | cons y b =>
        simp only [List.map_cons, toPyL, toPy, PyData.eqvAll, PyData.eqv, ih]
        by_cases h : x = y <;> simp [h]
  unfold eqF
  dsimp only
  rw [if_pos ⟨pyOkL_strs, pyOkL_strs, depth_strs, depth_strs⟩, e]
theorem eqF_nilS {neg : Bool} {a : List Str} : eqF neg (.lst (a.map D.str)) (.lst []) = some (.bl (neg ^^ decide (a = []))) := eqF_strsL (b := [])
def testOk (t : Str) : Bool := decide (decide (cutS t none (some 4) = "not ") = decide (fst (wds t) = "not"))
theorem slF_s {lo hi : Option Int} {s : Str} : slF lo hi (.str s) = some (.str (cutS s lo hi)) := rfl
theorem enumR_t : ∀ (n : Nat) (rs : List RowM), enumD n (rs.map rowT) = (enumR n rs).map fun p => D.tup [.int (p.1 : Nat), rowT p.2]
  | _, [] => rfl
  | n, x :: xs => by rw [List.map_cons, enumD, enumR, List.map_cons, enumR_t]
theorem filter_fits {marks : List Str} {ts : List Str} (h : ∀ t ∈ ts, testOk t = true) : decide (ts.filter (fun t => decide (decide (cutS t none (some 4) = "not ") = decide (lst (wds t) ∈ marks))) = []) = fitsM ts marks := by
  have e : ts.filter (fun t => decide (decide (cutS t none (some 4) = "not ") = decide (lst (wds t) ∈ marks))) = ts.filter (fits1 marks) := by
    refine List.filter_congr fun t ht => ?_
    have := of_decide_eq_true (h t ht)
    unfold fits1
    rw [this]
    rw [decide_eq_decide]
    exact eq_comm
  rw [e]
  unfold fitsM
  cases q : ts.any (fits1 marks) with
  | true =>
    obtain ⟨x, h1, h2⟩ := List.any_eq_true.mp q
    refine decide_eq_false fun z => ?_
    have := List.mem_filter.mpr ⟨h1, h2⟩
    rw [z] at this
    cases this
  | false =>
    refine decide_eq_true (List.filter_eq_nil_iff.mpr fun x hx hp => ?_)
    exact absurd (List.any_eq_true.mpr ⟨x, hx, hp⟩) (by rw [q]; exact Bool.false_ne_true)
theorem e_lrow_done {T : ToolM} {w : Str} {m : D} {marks : List Str} (hm : seqD m = some (marks.map D.str)) (ht : ∀ r ∈ T.rows, r.tests.length ≤ 1000 ∧ ∀ t ∈ r.tests, testOk t = true) : callX f_law_row_done [.val (toolT T), .val (.str w), .val m] μ = some (.val (atD (rowForM T.rows w marks)), μ) := by
  refine callX_pure rfl ?_
  have hlb : LB = 100000 := rfl
  unfold f_law_row_done m_law_row_done
  push_cast [ix_tool, at1]
  rw [enumR_t]
  have step : ∀ (x : Nat × RowM) (ρ : Env'), x ∈ enumR 0 T.rows → (∃ a b c d, ρ = [some (.val (toolT T)), some (.val (.str w)), some (.val m), a, b, c, d]) → ∃ ρ1, hTup 2 (hCons (hName 3) (hCons (hName 4) hNil)) (.val (D.tup [.int (x.1 : Nat), rowT x.2])) ρ = some ρ1 ∧ (fitP w marks x = true → m_law_row_done_1 ρ1 [] = some (.rt (.val (.int (x.1 : Nat))) [])) ∧ (fitP w marks x = false → ∃ ρ2, (∃ a b c d, ρ2 = [some (.val (toolT T)), some (.val (.str w)), some (.val m), a, b, c, d]) ∧ (m_law_row_done_1 ρ1 [] = some (.nx ρ2 []) ∨ m_law_row_done_1 ρ1 [] = some (.ct ρ2 []))) := by
    rintro x ρ hx ⟨a, b, c, d, rfl⟩
    have hmem : x.2 ∈ T.rows := List.mem_of_getElem? (enumR_at hx).2
    obtain ⟨hz, hts⟩ := ht _ hmem
    have hl : (x.2.tests.map D.str).length ≤ LB := by rw [List.length_map]; omega
    have key : ∃ y, m_law_row_done_1 [some (.val (toolT T)), some (.val (.str w)), some (.val m), some (.val (.int (x.1 : Nat))), some (.val (rowT x.2)), c, d] [] = if fitP w marks x = true then some (.rt (.val (.int (x.1 : Nat))) []) else some (.nx [some (.val (toolT T)), some (.val (.str w)), some (.val m), some (.val (.int (x.1 : Nat))), some (.val (rowT x.2)), c, y] []) := by
      refine ⟨some (.val (.lst ((x.2.tests.filter fun t => decide (decide (cutS t none (some 4) = "not ") = decide (lst (wds t) ∈ marks))).map D.str))), ?_⟩
      unfold m_law_row_done_1 fitP
      push_cast [ix_row, at1, hl]
      rw [lc_map (h := D.str) (p := fun t => decide (decide (cutS t none (some 4) = "not ") = decide (lst (wds t) ∈ marks))) rfl (fun t htt => ⟨_, rfl, by
        push_cast [slF_s, splitF_sp, atL_wds, inF_seqS hm], fun _ => by push_cast [eq_self]⟩)]
      rw [← filter_fits hts]
      push_cast [ix_row, at0, eqF_nilS, Bool.and_eq_true]
      by_cases h1 : x.2.word = w
      · simp [h1]
      · simp [h1]
    obtain ⟨y, key⟩ := key
    refine ⟨_, rfl, ?_, ?_⟩
    · intro h
      exact key.trans (if_pos h)
    · intro h
      exact ⟨_, ⟨_, _, _, _, rfl⟩, .inl (key.trans (if_neg (by rw [h]; exact Bool.false_ne_true)))⟩
  obtain ⟨h1, h2⟩ := loop_find (μ := []) (c := none) rfl (f := fun p : Nat × RowM => D.tup [.int (p.1 : Nat), rowT p.2]) (w := fun x => .val (.int (x.1 : Nat))) step ⟨none, none, none, none, rfl⟩
  unfold rowForM
  cases e : (enumR 0 T.rows).find? (fitP w marks) with
  | some x =>
    push_cast [h1 x e]
    rfl
  | none =>
    obtain ⟨ρ2, _, h3⟩ := h2 e
    push_cast [h3]
    rfl
def keptM (ks : List Str) (deed : Str) : List Str := if deed = "learn" then ks else ks.filter (fun m => !decide (m = (wds deed).getD 1 "")) ++ (if cutS deed none (some 4) = "mark" then [(wds deed).getD 1 ""] else [])
def deedOk2 (s : Str) : Bool := if s = "learn" then decide (fst (wds s) ≠ "mark") && decide (fst (wds s) ≠ "clear") else decide ((wds s).length = 2) && (if cutS s none (some 4) = "mark" then decide (fst (wds s) = "mark") else decide (fst (wds s) = "clear"))
theorem kept_perm {ks ls : List Str} {s : Str} (h : deedOk2 s = true) (p : ks.Perm ls) (nk : ks.Nodup) : (keptM ks s).Perm (deedM ls s) ∧ (keptM ks s).Nodup := by
  unfold deedOk2 at h
  unfold keptM deedM
  by_cases h1 : s = "learn"
  · rw [if_pos h1] at h ⊢
    simp only [Bool.and_eq_true, decide_eq_true_eq] at h
    rw [if_neg h.1, if_neg h.2]
    exact ⟨p, nk⟩
  · rw [if_neg h1] at h ⊢
    generalize (wds s).getD 1 "" = x
    have nf : (ks.filter fun m => !decide (m = x)).Nodup := nk.filter _
    by_cases h2 : cutS s none (some 4) = "mark"
    · rw [if_pos h2] at h ⊢
      simp only [Bool.and_eq_true, decide_eq_true_eq] at h
      rw [if_pos h.2]
      have nx : x ∉ ks.filter fun m => !decide (m = x) := by simp
      have nd : ((ks.filter fun m => !decide (m = x)) ++ [x]).Nodup := by
        rw [List.nodup_append]
        refine ⟨nf, by simp, ?_⟩
        intro a ha b hb
        rw [List.mem_singleton] at hb
        subst hb
        rintro rfl
        exact nx ha
      refine ⟨?_, nd⟩
      have nl : (addK ls x).Nodup := by
        unfold addK
        split
        · exact p.nodup_iff.mp nk
        · rename_i q
          rw [List.nodup_append]
          refine ⟨p.nodup_iff.mp nk, by simp, ?_⟩
          intro a ha b hb
          rw [List.mem_singleton] at hb
          subst hb
          rintro rfl
          exact q ha
      rw [List.perm_ext_iff_of_nodup nd nl]
      intro a
      have hm := p.mem_iff (a := a)
      unfold addK
      by_cases hx : x ∈ ls
      · rw [if_pos hx]
        simp only [List.mem_append, List.mem_filter, List.mem_singleton]
        by_cases ha : a = x
        · subst ha; simp [hx]
        · simp [ha, hm]
      · rw [if_neg hx]
        simp only [List.mem_append, List.mem_filter, List.mem_singleton]
        by_cases ha : a = x
        · subst ha; simp
        · simp [ha, hm]
    · rw [if_neg h2] at h ⊢
      simp only [Bool.and_eq_true, decide_eq_true_eq] at h
      have h3 : fst (wds s) ≠ "mark" := by rw [h.2]; simp [ofS]
      rw [if_neg h3, if_pos h.2, List.append_nil]
      exact ⟨p.filter _, nf⟩
theorem kept_all {ds : List Str} : ∀ {ks ls : List Str}, (∀ s ∈ ds, deedOk2 s = true) → ks.Perm ls → ks.Nodup → (ds.foldl keptM ks).Perm (ds.foldl deedM ls) := by
  induction ds with
  | nil => exact fun _ p _ => p
  | cons d ds ih =>
    intro ks ls h p nk
    obtain ⟨p2, n2⟩ := kept_perm (h d (by simp)) p nk
    exact ih (fun s hs => h s (List.mem_cons_of_mem _ hs)) p2 n2
theorem kept_behind {ds ms : List Str} (h : ∀ s ∈ ds, deedOk2 s = true) (n : ms.Nodup) : srt (ds.foldl keptM ms) = behindM ds ms := by
  unfold behindM
  rw [addK_nd (ks := []) (by simpa using n), List.nil_append]
  exact srt_uniq (srt_srt _) (srt_srt _) ((srt_perm _).trans ((kept_all h (List.Perm.refl _) n).trans (srt_perm _).symm))
theorem plusF_l {a b : List D} : plusF (.lst a) (.lst b) = if a.length + b.length ≤ LB then some (.lst (a ++ b)) else none := rfl
theorem wd1 {s : Str} (h : (wds s).length = 2) : (wds s)[1]? = some ((wds s).getD 1 "") := by
  rw [List.getD_eq_getElem?_getD]
  have : 1 < (wds s).length := by omega
  rw [List.getElem?_eq_getElem this]
  rfl
theorem keptM_len {ks : List Str} {s : Str} : (keptM ks s).length ≤ ks.length + 1 := by
  unfold keptM
  generalize (wds s).getD 1 "" = x
  split
  · omega
  · have := List.length_filter_le (fun m => !decide (m = x)) ks
    rw [List.length_append]
    split
    · rw [List.length_singleton]; omega
    · rw [List.length_nil]; omega
theorem e_ldeed {a b m c n x7 x8 : Option W} {k : Str} {ks : List Str} {cd : W} (hk : deedOk2 k = true) (hz : ks.length < 1000) : ∃ y7 y8, m_law_deeds_1 [a, b, n, m, some cd, some (.val (.lst (ks.map D.str))), some (.val (.str k)), x7, x8] [] = (if k = "learn" then some (.ct [a, b, some cd, m, some cd, some (.val (.lst ((keptM ks k).map D.str))), some (.val (.str k)), y7, y8] []) else some (.nx [a, b, n, m, some cd, some (.val (.lst ((keptM ks k).map D.str))), some (.val (.str k)), y7, y8] [])) := by
  have hlb : LB = 100000 := rfl
  by_cases h1 : k = "learn"
  · refine ⟨x7, x8, ?_⟩
    unfold m_law_deeds_1 keptM
    rw [if_pos h1, if_pos h1]
    push_cast [h1]
  · unfold deedOk2 at hk
    rw [if_neg h1] at hk
    simp only [Bool.and_eq_true, decide_eq_true_eq] at hk
    refine ⟨some (.val (.str ((wds k).getD 1 ""))), x8, ?_⟩
    unfold m_law_deeds_1 keptM
    rw [if_neg h1, if_neg h1]
    have hl : (ks.map D.str).length ≤ LB := by rw [List.length_map]; omega
    push_cast [h1, splitF_sp, at1_of (wd1 hk.1), hl]
    rw [lc_map (h := D.str) (p := fun t => !decide (t = (wds k).getD 1 "")) rfl (fun t htt => ⟨_, rfl, by
        push_cast [eq_self], fun _ => by push_cast [eq_self]⟩)]
    push_cast [slF_s]
    have hf := List.length_filter_le (fun t => !decide (t = (wds k).getD 1 "")) ks
    by_cases h2 : cutS k none (some 4) = "mark"
    · push_cast [h2, plusF_l]
      rw [if_pos (by omega), if_pos (by rw [List.length_map]; omega), List.map_append]
      rfl
    · push_cast [h2, plusF_l]
      rw [if_pos (by rw [List.length_map]; omega)]
theorem e_ldeeds_loop {a b m : Option W} {cd : Int} : ∀ {ds ks : List Str} {n : Int} {x6 x7 x8 : Option W}, (∀ s ∈ ds, deedOk2 s = true) → ks.length + ds.length < 1000 → ∃ y6 y7 y8, loopR (hName 6) m_law_deeds_1 none (ds.map D.str) [a, b, some (.val (.int n)), m, some (.val (.int cd)), some (.val (.lst (ks.map D.str))), x6, x7, x8] [] = some (.nx [a, b, some (.val (.int (if ("learn" : Str) ∈ ds then cd else n))), m, some (.val (.int cd)), some (.val (.lst ((ds.foldl keptM ks).map D.str))), y6, y7, y8] [])
  | [], ks, n, x6, x7, x8, _, _ => ⟨x6, x7, x8, rfl⟩
  | s :: ds, ks, n, x6, x7, x8, ho, hz => by
    rw [List.length_cons] at hz
    obtain ⟨y7, y8, he⟩ := e_ldeed (a := a) (b := b) (m := m) (c := none) (n := some (.val (.int n))) (x7 := x7) (x8 := x8) (k := s) (ks := ks) (cd := .val (.int cd)) (ho s (by simp)) (by omega)
    have hl := keptM_len (ks := ks) (s := s)
    rw [List.map_cons, loop_cons]
    simp only [name_set, Option.bind_some, List.set_cons_succ, List.set_cons_zero]
    rw [he]
    by_cases h1 : s = "learn"
    · obtain ⟨z6, z7, z8, hx⟩ := e_ldeeds_loop (a := a) (b := b) (m := m) (cd := cd) (ds := ds) (ks := keptM ks s) (n := cd) (x6 := some (.val (.str s))) (x7 := y7) (x8 := y8) (fun t ht => ho t (List.mem_cons_of_mem _ ht)) (by omega)
      refine ⟨z6, z7, z8, ?_⟩
      rw [if_pos h1]
      simp only [Option.bind_some, standB, if_true]
      rw [hx, if_pos (show ("learn" : Str) ∈ s :: ds by rw [h1]; simp), ite_self]
      rfl
    · obtain ⟨z6, z7, z8, hx⟩ := e_ldeeds_loop (a := a) (b := b) (m := m) (cd := cd) (ds := ds) (ks := keptM ks s) (n := n) (x6 := some (.val (.str s))) (x7 := y7) (x8 := y8) (fun t ht => ho t (List.mem_cons_of_mem _ ht)) (by omega)
      refine ⟨z6, z7, z8, ?_⟩
      rw [if_neg h1]
      simp only [Option.bind_some, standB, if_true]
      have hi : (("learn" : Str) ∈ s :: ds) = (("learn" : Str) ∈ ds) := by
        rw [List.mem_cons]
        exact propext ⟨fun h => h.resolve_left fun e => h1 e.symm, .inr⟩
      rw [hx]
      simp only [hi, List.foldl_cons]
def lateP (c n : Int) : Option (Nat × RowM) → Int
  | some q => if ("learn" : Str) ∈ q.2.deeds then c else n
  | none => n
def keptP (marks : List Str) : Option (Nat × RowM) → List Str
  | some q => behindM q.2.deeds marks
  | none => srt marks
theorem e_ldeeds {T : ToolM} {n c : Int} {m : D} {marks : List Str} {p : Option (Nat × RowM)} (hm : lstF m = some (.lst (marks.map D.str))) (hp : ∀ q, p = some q → T.rows[q.1]? = some q.2) (hd : ∀ r ∈ T.rows, ∀ s ∈ r.deeds, deedOk2 s = true) (hr : ∀ r ∈ T.rows, r.tests.length + r.deeds.length < 32) (hz : marks.length < 32) (hn : marks.Nodup) : callX f_law_deeds [.val (toolT T), .val (atD p), .val (.int n), .val m, .val (.int c)] μ = some (.val (.tup [.int (lateP c n p), .tup ((keptP marks p).map D.str)]), μ) := by
  refine callX_pure rfl ?_
  have hlb : LB = 100000 := rfl
  unfold f_law_deeds m_law_deeds
  have h2 : (2 ≤ LB) = True := eq_true (by omega)
  have h0 : (0 ≤ LB) = True := eq_true (by omega)
  cases p with
  | none =>
    have hl : (marks.map D.str).length ≤ LB := by rw [List.length_map]; omega
    push_cast [hm, atD, h0, h2, loop_nil, hl]
    rw [e_strs (by simp)]
    push_cast [sortF_map (l := marks) (by omega), h2]
    rfl
  | some q =>
    have hq := hp q rfl
    have hmem : q.2 ∈ T.rows := List.mem_of_getElem? hq
    have hat : atI (T.rows.map rowT) ((q.1 : Nat) : Int) = some (rowT q.2) := at_map (L2.atI_nat hq)
    have hb := hr _ hmem
    obtain ⟨y6, y7, y8, hx⟩ := e_ldeeds_loop (a := some (.val (toolT T))) (b := some (.val (.int (q.1 : Nat)))) (m := some (.val m)) (cd := c) (ds := q.2.deeds) (ks := marks) (n := n) (x6 := none) (x7 := none) (x8 := none) (hd _ hmem) (by omega)
    have hkl : ∀ {ds ks : List Str}, (ds.foldl keptM ks).length ≤ ks.length + ds.length := fun {ds} => by
      induction ds with
      | nil => intro ks; simp
      | cons d ds ih =>
        intro ks
        have := ih (ks := keptM ks d)
        have := keptM_len (ks := ks) (s := d)
        rw [List.foldl_cons, List.length_cons]
        omega
    have hk2 := hkl (ds := q.2.deeds) (ks := marks)
    have hl : ((q.2.deeds.foldl keptM marks).map D.str).length ≤ LB := by rw [List.length_map]; omega
    push_cast [hm, atD, h2, ix_tool, at1, hat, ix_row, at2, hx, hl]
    rw [e_strs (by simp)]
    push_cast [sortF_map (l := q.2.deeds.foldl keptM marks) (by omega), h2]
    rw [kept_behind (hd _ hmem) hn]
    rfl
end DX
namespace DX
open PySem PySem.Spec L2 DK
local macro_rules
  | `(tactic| push_cast [$ts,*]) => `(tactic| simp only [q_seq, q_ifS, q_if, q_and, q_or, q_not, q_andV, q_orV, q_notV, q_test, q_op, q_un, q_asg, q_ret, q_drop, q_cons, q_dat, q_dat1, q_tup, q_lst, q_call, q_meth, q_for, q_lc, q_seqI, q_sl, q_var, q_c, q_nil, q_next, q_cont, q_break, q_retN, q_yes, q_noPart, q_partB, q_isN, q_ixB, q_fld, q_enum, q_par, q_body, varW_some, view_val, view_loc, viewM_lst, viewM_frz, isBl_bl, partW_int, name_set, ixW_val, ixF_l, ixF_t, fld_row_word, fld_row_tests, fld_row_deeds, fld_row_opens, fld_tool_window, fld_tool_rows, fld_tool_marks, recv_row, recv_tool, bodyE_rt, bodyE_nx, exit_any, exit_dst, negF_int, plusF_int, minusF_int, ltF_int, leF_int, gtF_int, geF_int, eqF_int, eqF_str, eqF_bl, intF_int, maxF_int, minF_int, lenF_l, lenF_t, lenF_s, tupF_l, tupF_t, lstF_l, lstF_t, strF_s, seqOf_t, seqOf_l, guard_val, guard_loc, isNW_val, isNW_loc, enumW_1, parW_2, tup_set, cons_set, nil_set, frzL_nil, frzL_cons, frz1_val, frz1_loc, frzM_lst, frzM_frz, ofS, ite_bind, Option.bind_some, then_nx, then_rt, then_ct, then_bk, start, List.length_cons, List.length_nil, List.map_cons, List.map_nil, List.replicate, List.cons_append, List.nil_append, List.append_nil, List.getElem?_cons_succ, List.getElem?_cons_zero, List.set_cons_succ, List.set_cons_zero, Nat.sub_self, Nat.reduceSub, Nat.reduceAdd, Nat.reduceEqDiff, if_true, if_false, reduceIte, decide_eq_true_eq, decide_true, decide_false, Bool.false_xor, Bool.true_xor, Nat.zero_add, eq_self, String.reduceEq, Bool.false_eq_true, wipeE, List.foldl_cons, List.foldl_nil, Bool.not_true, Bool.not_false, inF_strsT, inF_strsL, q_fldS, q_make, isNon_int, isNon_non, isNon_bl, isNon_str, isNon_tup, isNon_lst, q_lcM, q_setI, q_addM, addW_val, seqOf_loc, seqM_lst, seqM_frz, ixW_loc, ixM_lsW, ixM_lst, ixM_frz, setIW_loc, setIM_lst, exit_val, exit_loc, exitV_if, List.take_succ_cons, List.take_zero, List.take_nil, List.all_cons, List.all_nil, Bool.and_true, Bool.true_and, Bool.and_self, Nat.reduceLT, Nat.reduceLeDiff, Nat.zero_le, Nat.lt_add_one, exitM_lst, exitM_frz, below_lst, below_frz, below_dK, below_scr, below_lsW, below_ins, below_dW, wbelow_val, wbelow_loc, q_append, appA_loc, appW_1, appM_lst, q_lstOfM, lstM_lst, q_lstM, q_rng1, standB_none, standB_some, standM_lst, standM_frz, q_join, joinA_str, q_joined, q_jNil, q_jCons, jW_str, q_star, q_own1, ownW_val, okStr_str, isIns_row, isIns_tool, q_kget, kgetW_str, q_indexC, indexW_lst, q_makeL, mkL_cls, q_cmeth, cmW_cls, q_star1, star1W_cons, q_chain, chainW_bl, chainE_bl, q_eqOwn, fmtF_s, and_self, q_aug, augM_int, q_parN, setAll_cons, setAll_nil, q_never, intF_bl, q_extend, extA_loc, extW_1, extD_lst, extM_lst, q_asgT, uTup_tup, uCons_cons, uNil_nil, uName_eq, uFld_eq, ufW_loc, ufM_ins, fldSW_loc, fldSM_ins, fldW_loc, fldM_ins, look_cons, putW_nil, putW_cons, $ts,*])
variable {μ : Mu}
theorem draw_ex (d : Dl) (many : Int) (hd : d.1.length ≤ 1000) (h0 : 0 < many) (h1 : many < 1000) : ∃ (k : Int) (d' : Dl), 0 ≤ k ∧ k < many ∧ d'.1.length ≤ 1000 ∧ ∀ t, callX f_law_draw [.loc 1, .val (.int many)] (.lst (d.1.map D.int) :: .lsW [.loc 0, .val (.int d.2)] :: t) = some (.val (.int k), .lst (d'.1.map D.int) :: .lsW [.loc 0, .val (.int d'.2)] :: t) := by
  have hlb : LB = 100000 := rfl
  have k2 := drawM_len (many := many) (d := d)
  refine ⟨_, _, drawM_lo (d := d) h0, drawM_hi (d := d) h0, Nat.le_trans k2 hd, fun t => ?_⟩
  exact callX_dst (f := f_law_draw) (ws := [.loc 1, .val (.int many)]) (rest := t) (by kernel_rfl) (e_draw (d := d) (many := many) (by omega) h0 (by omega))
theorem callX_deal {f : FX} {ws : List W} {t : Mu} {w : W} {d d' : Dl} (ht : locTop ws = 2) (h : f ws [.lst (d.1.map D.int), .lsW [.loc 0, .val (.int d.2)]] = some (w, [.lst (d'.1.map D.int), .lsW [.loc 0, .val (.int d'.2)]])) : callX f ws (.lst (d.1.map D.int) :: .lsW [.loc 0, .val (.int d.2)] :: t) = some (w, .lst (d'.1.map D.int) :: .lsW [.loc 0, .val (.int d'.2)] :: t) := callX_dst (d := d) (d' := d') ht h
theorem at_some {α : Type} {l : List α} {k : Int} (h0 : 0 ≤ k) (h1 : k < l.length) : ∃ x, x ∈ l ∧ atI l k = some x := by
  obtain ⟨j, rfl⟩ := Int.eq_ofNat_of_zero_le h0
  have hj : j < l.length := by omega
  exact ⟨l[j], List.getElem_mem hj, L2.atI_nat (List.getElem?_eq_getElem hj)⟩
theorem pick_ex (d : Dl) (xs : List D) (hd : d.1.length ≤ 1000) (h0 : xs ≠ []) (h1 : xs.length < 1000) : ∃ (x : D) (d' : Dl), x ∈ xs ∧ d'.1.length ≤ 1000 ∧ ∀ t, callX f_law_pick [.loc 1, .val (.lst xs)] (.lst (d.1.map D.int) :: .lsW [.loc 0, .val (.int d.2)] :: t) = some (.val x, .lst (d'.1.map D.int) :: .lsW [.loc 0, .val (.int d'.2)] :: t) := by
  have hp : 0 < xs.length := List.length_pos_iff.mpr h0
  obtain ⟨k, d', k0, k1, k2, h⟩ := draw_ex d xs.length hd (by omega) (by omega)
  obtain ⟨x, hx, hat⟩ := at_some k0 k1
  refine ⟨x, d', hx, k2, fun t => callX_deal rfl ?_⟩
  unfold f_law_pick m_law_pick
  push_cast [h, hat]
def XT : Txt := ⟨["marked k", "not marked k"], ["learn", "mark k", "clear k"]⟩
theorem XT_de : ∀ s ∈ XT.ds, deedOk s = true ∧ deedOk2 s = true := by
  have : (XT.ds.all fun s => deedOk s && deedOk2 s) = true := by kernel_rfl
  exact fun s hs => Bool.and_eq_true_iff.mp (List.all_eq_true.mp this s hs)
theorem XT_te : ∀ s ∈ XT.ts, testOk s = true := by
  have : (XT.ts.all testOk) = true := by kernel_rfl
  exact fun s hs => List.all_eq_true.mp this s hs
structure RW (r : RowM) : Prop where
  ok : RowOk XT r
  t2 : r.tests.length ≤ 2
  d3 : r.deeds.length ≤ 3
end DX
namespace DX
open PySem PySem.Spec L2 DK
local macro_rules
  | `(tactic| push_cast [$ts,*]) => `(tactic| simp only [q_seq, q_ifS, q_if, q_and, q_or, q_not, q_andV, q_orV, q_notV, q_test, q_op, q_un, q_asg, q_ret, q_drop, q_cons, q_dat, q_dat1, q_tup, q_lst, q_call, q_meth, q_for, q_lc, q_seqI, q_sl, q_var, q_c, q_nil, q_next, q_cont, q_break, q_retN, q_yes, q_noPart, q_partB, q_isN, q_ixB, q_fld, q_enum, q_par, q_body, varW_some, view_val, view_loc, viewM_lst, viewM_frz, isBl_bl, partW_int, name_set, ixW_val, ixF_l, ixF_t, fld_row_word, fld_row_tests, fld_row_deeds, fld_row_opens, fld_tool_window, fld_tool_rows, fld_tool_marks, recv_row, recv_tool, bodyE_rt, bodyE_nx, exit_any, exit_dst, negF_int, plusF_int, minusF_int, ltF_int, leF_int, gtF_int, geF_int, eqF_int, eqF_str, eqF_bl, intF_int, maxF_int, minF_int, lenF_l, lenF_t, lenF_s, tupF_l, tupF_t, lstF_l, lstF_t, strF_s, seqOf_t, seqOf_l, guard_val, guard_loc, isNW_val, isNW_loc, enumW_1, parW_2, tup_set, cons_set, nil_set, frzL_nil, frzL_cons, frz1_val, frz1_loc, frzM_lst, frzM_frz, ofS, ite_bind, Option.bind_some, then_nx, then_rt, then_ct, then_bk, start, List.length_cons, List.length_nil, List.map_cons, List.map_nil, List.replicate, List.cons_append, List.nil_append, List.append_nil, List.getElem?_cons_succ, List.getElem?_cons_zero, List.set_cons_succ, List.set_cons_zero, Nat.sub_self, Nat.reduceSub, Nat.reduceAdd, Nat.reduceEqDiff, if_true, if_false, reduceIte, decide_eq_true_eq, decide_true, decide_false, Bool.false_xor, Bool.true_xor, Nat.zero_add, eq_self, String.reduceEq, Bool.false_eq_true, wipeE, List.foldl_cons, List.foldl_nil, Bool.not_true, Bool.not_false, inF_strsT, inF_strsL, q_fldS, q_make, isNon_int, isNon_non, isNon_bl, isNon_str, isNon_tup, isNon_lst, q_lcM, q_setI, q_addM, addW_val, seqOf_loc, seqM_lst, seqM_frz, ixW_loc, ixM_lsW, ixM_lst, ixM_frz, setIW_loc, setIM_lst, exit_val, exit_loc, exitV_if, List.take_succ_cons, List.take_zero, List.take_nil, List.all_cons, List.all_nil, Bool.and_true, Bool.true_and, Bool.and_self, Nat.reduceLT, Nat.reduceLeDiff, Nat.zero_le, Nat.lt_add_one, exitM_lst, exitM_frz, below_lst, below_frz, below_dK, below_scr, below_lsW, below_ins, below_dW, wbelow_val, wbelow_loc, q_append, appA_loc, appW_1, appM_lst, q_lstOfM, lstM_lst, q_lstM, q_rng1, standB_none, standB_some, standM_lst, standM_frz, q_join, joinA_str, q_joined, q_jNil, q_jCons, jW_str, q_star, q_own1, ownW_val, okStr_str, isIns_row, isIns_tool, q_kget, kgetW_str, q_indexC, indexW_lst, q_makeL, mkL_cls, q_cmeth, cmW_cls, q_star1, star1W_cons, q_chain, chainW_bl, chainE_bl, q_eqOwn, fmtF_s, and_self, q_aug, augM_int, q_parN, setAll_cons, setAll_nil, q_never, intF_bl, q_extend, extA_loc, extW_1, extD_lst, extM_lst, q_asgT, uTup_tup, uCons_cons, uNil_nil, uName_eq, uFld_eq, ufW_loc, ufM_ins, fldSW_loc, fldSM_ins, fldW_loc, fldM_ins, look_cons, putW_nil, putW_cons, $ts,*])
variable {μ : Mu}
theorem RW.bare {r : RowM} (h : RW r) : RW ⟨r.word, r.tests, [], r.opens⟩ := ⟨⟨h.ok.w, h.ok.ts, h.ok.zt, by simp, by simp, .inl rfl, h.ok.o⟩, h.t2, by simp⟩
end DX
namespace DX
open PySem PySem.Spec L2 DK
local macro_rules
  | `(tactic| push_cast [$ts,*]) => `(tactic| simp only [q_seq, q_ifS, q_if, q_and, q_or, q_not, q_andV, q_orV, q_notV, q_test, q_op, q_un, q_asg, q_ret, q_drop, q_cons, q_dat, q_dat1, q_tup, q_lst, q_call, q_meth, q_for, q_lc, q_seqI, q_sl, q_var, q_c, q_nil, q_next, q_cont, q_break, q_retN, q_yes, q_noPart, q_partB, q_isN, q_ixB, q_fld, q_enum, q_par, q_body, varW_some, view_val, view_loc, viewM_lst, viewM_frz, isBl_bl, partW_int, name_set, ixW_val, ixF_l, ixF_t, fld_row_word, fld_row_tests, fld_row_deeds, fld_row_opens, fld_tool_window, fld_tool_rows, fld_tool_marks, recv_row, recv_tool, bodyE_rt, bodyE_nx, exit_any, exit_dst, negF_int, plusF_int, minusF_int, ltF_int, leF_int, gtF_int, geF_int, eqF_int, eqF_str, eqF_bl, intF_int, maxF_int, minF_int, lenF_l, lenF_t, lenF_s, tupF_l, tupF_t, lstF_l, lstF_t, strF_s, seqOf_t, seqOf_l, guard_val, guard_loc, isNW_val, isNW_loc, enumW_1, parW_2, tup_set, cons_set, nil_set, frzL_nil, frzL_cons, frz1_val, frz1_loc, frzM_lst, frzM_frz, ofS, ite_bind, Option.bind_some, then_nx, then_rt, then_ct, then_bk, start, List.length_cons, List.length_nil, List.map_cons, List.map_nil, List.replicate, List.cons_append, List.nil_append, List.append_nil, List.getElem?_cons_succ, List.getElem?_cons_zero, List.set_cons_succ, List.set_cons_zero, Nat.sub_self, Nat.reduceSub, Nat.reduceAdd, Nat.reduceEqDiff, if_true, if_false, reduceIte, decide_eq_true_eq, decide_true, decide_false, Bool.false_xor, Bool.true_xor, Nat.zero_add, eq_self, String.reduceEq, Bool.false_eq_true, wipeE, List.foldl_cons, List.foldl_nil, Bool.not_true, Bool.not_false, inF_strsT, inF_strsL, q_fldS, q_make, isNon_int, isNon_non, isNon_bl, isNon_str, isNon_tup, isNon_lst, q_lcM, q_setI, q_addM, addW_val, seqOf_loc, seqM_lst, seqM_frz, ixW_loc, ixM_lsW, ixM_lst, ixM_frz, setIW_loc, setIM_lst, exit_val, exit_loc, exitV_if, List.take_succ_cons, List.take_zero, List.take_nil, List.all_cons, List.all_nil, Bool.and_true, Bool.true_and, Bool.and_self, Nat.reduceLT, Nat.reduceLeDiff, Nat.zero_le, Nat.lt_add_one, exitM_lst, exitM_frz, below_lst, below_frz, below_dK, below_scr, below_lsW, below_ins, below_dW, wbelow_val, wbelow_loc, q_append, appA_loc, appW_1, appM_lst, q_lstOfM, lstM_lst, q_lstM, q_rng1, standB_none, standB_some, standM_lst, standM_frz, q_join, joinA_str, q_joined, q_jNil, q_jCons, jW_str, q_star, q_own1, ownW_val, okStr_str, isIns_row, isIns_tool, q_kget, kgetW_str, q_indexC, indexW_lst, q_makeL, mkL_cls, q_cmeth, cmW_cls, q_star1, star1W_cons, q_chain, chainW_bl, chainE_bl, q_eqOwn, fmtF_s, and_self, q_aug, augM_int, q_parN, setAll_cons, setAll_nil, q_never, intF_bl, q_extend, extA_loc, extW_1, extD_lst, extM_lst, q_asgT, uTup_tup, uCons_cons, uNil_nil, uName_eq, uFld_eq, ufW_loc, ufM_ins, fldSW_loc, fldSM_ins, fldW_loc, fldM_ins, look_cons, putW_nil, putW_cons, $ts,*])
variable {μ : Mu}
end DX
namespace DX
open PySem PySem.Spec L2 DK
local macro_rules
  | `(tactic| push_cast [$ts,*]) => `(tactic| simp only [q_seq, q_ifS, q_if, q_and, q_or, q_not, q_andV, q_orV, q_notV, q_test, q_op, q_un, q_asg, q_ret, q_drop, q_cons, q_dat, q_dat1, q_tup, q_lst, q_call, q_meth, q_for, q_lc, q_seqI, q_sl, q_var, q_c, q_nil, q_next, q_cont, q_break, q_retN, q_yes, q_noPart, q_partB, q_isN, q_ixB, q_fld, q_enum, q_par, q_body, varW_some, view_val, view_loc, viewM_lst, viewM_frz, isBl_bl, partW_int, name_set, ixW_val, ixF_l, ixF_t, fld_row_word, fld_row_tests, fld_row_deeds, fld_row_opens, fld_tool_window, fld_tool_rows, fld_tool_marks, recv_row, recv_tool, bodyE_rt, bodyE_nx, exit_any, exit_dst, negF_int, plusF_int, minusF_int, ltF_int, leF_int, gtF_int, geF_int, eqF_int, eqF_str, eqF_bl, intF_int, maxF_int, minF_int, lenF_l, lenF_t, lenF_s, tupF_l, tupF_t, lstF_l, lstF_t, strF_s, seqOf_t, seqOf_l, guard_val, guard_loc, isNW_val, isNW_loc, enumW_1, parW_2, tup_set, cons_set, nil_set, frzL_nil, frzL_cons, frz1_val, frz1_loc, frzM_lst, frzM_frz, ofS, ite_bind, Option.bind_some, then_nx, then_rt, then_ct, then_bk, start, List.length_cons, List.length_nil, List.map_cons, List.map_nil, List.replicate, List.cons_append, List.nil_append, List.append_nil, List.getElem?_cons_succ, List.getElem?_cons_zero, List.set_cons_succ, List.set_cons_zero, Nat.sub_self, Nat.reduceSub, Nat.reduceAdd, Nat.reduceEqDiff, if_true, if_false, reduceIte, decide_eq_true_eq, decide_true, decide_false, Bool.false_xor, Bool.true_xor, Nat.zero_add, eq_self, String.reduceEq, Bool.false_eq_true, wipeE, List.foldl_cons, List.foldl_nil, Bool.not_true, Bool.not_false, inF_strsT, inF_strsL, q_fldS, q_make, isNon_int, isNon_non, isNon_bl, isNon_str, isNon_tup, isNon_lst, q_lcM, q_setI, q_addM, addW_val, seqOf_loc, seqM_lst, seqM_frz, ixW_loc, ixM_lsW, ixM_lst, ixM_frz, setIW_loc, setIM_lst, exit_val, exit_loc, exitV_if, List.take_succ_cons, List.take_zero, List.take_nil, List.all_cons, List.all_nil, Bool.and_true, Bool.true_and, Bool.and_self, Nat.reduceLT, Nat.reduceLeDiff, Nat.zero_le, Nat.lt_add_one, exitM_lst, exitM_frz, below_lst, below_frz, below_dK, below_scr, below_lsW, below_ins, below_dW, wbelow_val, wbelow_loc, q_append, appA_loc, appW_1, appM_lst, q_lstOfM, lstM_lst, q_lstM, q_rng1, standB_none, standB_some, standM_lst, standM_frz, q_join, joinA_str, q_joined, q_jNil, q_jCons, jW_str, q_star, q_own1, ownW_val, okStr_str, isIns_row, isIns_tool, q_kget, kgetW_str, q_indexC, indexW_lst, q_makeL, mkL_cls, q_cmeth, cmW_cls, q_star1, star1W_cons, q_chain, chainW_bl, chainE_bl, q_eqOwn, fmtF_s, and_self, q_aug, augM_int, q_parN, setAll_cons, setAll_nil, q_never, intF_bl, q_extend, extA_loc, extW_1, extD_lst, extM_lst, q_asgT, uTup_tup, uCons_cons, uNil_nil, uName_eq, uFld_eq, ufW_loc, ufM_ins, fldSW_loc, fldSM_ins, fldW_loc, fldM_ins, look_cons, putW_nil, putW_cons, $ts,*])
variable {μ : Mu}
theorem loop_all {g : RG} {b : RS} {c : Option (Nat × List D)} {I : Env' → Mu → Prop} : ∀ {xs : List D} {ρ : Env'} {μ : Mu}, (∀ x ρ μ, x ∈ xs → I ρ μ → ∃ ρ1 ρ2 μ2, g (.val x) ρ = some ρ1 ∧ (b ρ1 μ = some (.nx ρ2 μ2) ∨ b ρ1 μ = some (.ct ρ2 μ2)) ∧ standB c μ2 = true ∧ I ρ2 μ2) → I ρ μ → ∃ ρ2 μ2, loopR g b c xs ρ μ = some (.nx ρ2 μ2) ∧ I ρ2 μ2
  | [], ρ, μ, _, h => ⟨ρ, μ, rfl, h⟩
  | x :: xs, ρ, μ, hs, h => by
    obtain ⟨ρ1, ρ2, μ2, e1, e2, e3, e4⟩ := hs x ρ μ (by simp) h
    obtain ⟨ρ3, μ3, e5, e6⟩ := loop_all (xs := xs) (fun y ρ μ hy => hs y ρ μ (List.mem_cons_of_mem _ hy)) e4
    refine ⟨ρ3, μ3, ?_, e6⟩
    rw [loop_cons, e1]
    rcases e2 with e2 | e2 <;> simp only [Option.bind_some, e2, e3, if_true, e5]
structure Good (k : Nat) (rows : List RowM) : Prop where
  rw : ∀ r ∈ rows, RW r
  ne : rows ≠ []
  le : rows.length ≤ k
theorem Good.app {k : Nat} {rows : List RowM} {r : RowM} (h : Good k rows) (hr : RW r) : Good (k + 1) (rows ++ [r]) := ⟨fun x hx => by
  rcases List.mem_append.mp hx with z | z
  · exact h.rw x z
  · rw [List.mem_singleton.mp z]; exact hr, by simp, by rw [List.length_append, List.length_singleton]; have := h.le; omega⟩
theorem Good.mono {k l : Nat} {rows : List RowM} (h : Good k rows) (hl : k ≤ l) : Good l rows := ⟨h.rw, h.ne, Nat.le_trans h.le hl⟩
end DX
namespace DX
open PySem PySem.Spec L2 DK
structure Sh (c n : Nat) (d : D) : Prop where
  py : pyOk d = true
  sh : (toPy d).showable = true
  dp : (toPy d).depth ≤ n
  st : strsIn d = true
  co : showCost d ≤ c
theorem Sh.b {c n : Nat} {d : D} (h : Sh c n d) (hn : n ≤ 60) (hc : c ≤ SB) : showsB d = true := by
  unfold showsB
  rw [h.py, h.sh, h.st, decide_eq_true (Nat.le_trans h.dp hn), decide_eq_true (Nat.le_trans h.co hc)]
  rfl
theorem Sh.mono {c n c' n' : Nat} {d : D} (h : Sh c n d) (hc : c ≤ c') (hn : n ≤ n') : Sh c' n' d := ⟨h.py, h.sh, Nat.le_trans h.dp hn, h.st, Nat.le_trans h.co hc⟩
theorem sh_non : Sh 5 1 .non := ⟨rfl, rfl, by decide, rfl, by decide⟩
theorem sh_bl {b : Bool} : Sh 5 1 (.bl b) := ⟨rfl, rfl, by cases b <;> decide, rfl, by cases b <;> decide⟩
theorem sh_int {i : Int} (h : i.natAbs < 1000000) : Sh 8 1 (.int i) := by
  refine ⟨rfl, ?_, by show 0 ≤ 1; decide, rfl, ?_⟩
  · show decide (i.natAbs.log2 < 1920) = true
    apply decide_eq_true
    by_cases h0 : i.natAbs = 0
    · rw [h0]; decide
    · rw [Nat.log2_lt h0]
      exact Nat.lt_of_lt_of_le h (Nat.le_trans (by decide : 1000000 ≤ 2 ^ 20) (Nat.pow_le_pow_right (by decide) (by decide)))
  · show (if Nat.blt i.natAbs 1000000 = true then 8 else 2000) ≤ 8
    rw [if_pos (by simp [Nat.blt]; omega)]
    exact Nat.le_refl 8
theorem sh_str {s : Str} (h : s.cps.all (· < 0x110000) = true) : Sh (10 * s.length + 4) 1 (.str s) := ⟨rfl, rfl, by show 0 ≤ 1; decide, h, Nat.le_refl _⟩
theorem shL {c n : Nat} : ∀ {xs : List D}, (∀ x ∈ xs, Sh c n x) → pyOkL xs = true ∧ PyData.showableAll (toPyL xs) = true ∧ PyData.depthAll (toPyL xs) ≤ n ∧ strsInL xs = true ∧ showCostL xs ≤ (c + 2) * xs.length
  | [], _ => ⟨rfl, rfl, Nat.zero_le _, rfl, Nat.zero_le _⟩
  | x :: xs, h => by
    obtain ⟨h1, h2, h3, h4, h5⟩ := shL (xs := xs) (fun y hy => h y (List.mem_cons_of_mem _ hy))
    have hx := h x (by simp)
    refine ⟨by rw [pyOkL, hx.py, h1]; rfl, by rw [toPyL, PyData.showableAll, hx.sh, h2]; rfl, ?_, by rw [strsInL, hx.st, h4]; rfl, ?_⟩
    · rw [toPyL, PyData.depthAll]
      exact Nat.max_le.mpr ⟨hx.dp, h3⟩
    · rw [showCostL, List.length_cons, Nat.mul_succ]
      have := hx.co
      omega
theorem sh_tup {c n : Nat} {xs : List D} (h : ∀ x ∈ xs, Sh c n x) : Sh ((c + 2) * xs.length + 3) (n + 1) (.tup xs) := by
  obtain ⟨h1, h2, h3, h4, h5⟩ := shL h
  refine ⟨h1, h2, ?_, h4, ?_⟩
  · show PyData.depth (.tuple (toPyL xs)) ≤ n + 1
    rw [PyData.depth]
    omega
  · show showCostL xs + 3 ≤ _
    omega
end DX
namespace DX
open PySem PySem.Spec L2 DK
local macro_rules
  | `(tactic| push_cast [$ts,*]) => `(tactic| simp only [q_seq, q_ifS, q_if, q_and, q_or, q_not, q_andV, q_orV, q_notV, q_test, q_op, q_un, q_asg, q_ret, q_drop, q_cons, q_dat, q_dat1, q_tup, q_lst, q_call, q_meth, q_for, q_lc, q_seqI, q_sl, q_var, q_c, q_nil, q_next, q_cont, q_break, q_retN, q_yes, q_noPart, q_partB, q_isN, q_ixB, q_fld, q_enum, q_par, q_body, varW_some, view_val, view_loc, viewM_lst, viewM_frz, isBl_bl, partW_int, name_set, ixW_val, ixF_l, ixF_t, fld_row_word, fld_row_tests, fld_row_deeds, fld_row_opens, fld_tool_window, fld_tool_rows, fld_tool_marks, recv_row, recv_tool, bodyE_rt, bodyE_nx, exit_any, exit_dst, negF_int, plusF_int, minusF_int, ltF_int, leF_int, gtF_int, geF_int, eqF_int, eqF_str, eqF_bl, intF_int, maxF_int, minF_int, lenF_l, lenF_t, lenF_s, tupF_l, tupF_t, lstF_l, lstF_t, strF_s, seqOf_t, seqOf_l, guard_val, guard_loc, isNW_val, isNW_loc, enumW_1, parW_2, tup_set, cons_set, nil_set, frzL_nil, frzL_cons, frz1_val, frz1_loc, frzM_lst, frzM_frz, ofS, ite_bind, Option.bind_some, then_nx, then_rt, then_ct, then_bk, start, List.length_cons, List.length_nil, List.map_cons, List.map_nil, List.replicate, List.cons_append, List.nil_append, List.append_nil, List.getElem?_cons_succ, List.getElem?_cons_zero, List.set_cons_succ, List.set_cons_zero, Nat.sub_self, Nat.reduceSub, Nat.reduceAdd, Nat.reduceEqDiff, if_true, if_false, reduceIte, decide_eq_true_eq, decide_true, decide_false, Bool.false_xor, Bool.true_xor, Nat.zero_add, eq_self, String.reduceEq, Bool.false_eq_true, wipeE, List.foldl_cons, List.foldl_nil, Bool.not_true, Bool.not_false, inF_strsT, inF_strsL, q_fldS, q_make, isNon_int, isNon_non, isNon_bl, isNon_str, isNon_tup, isNon_lst, q_lcM, q_setI, q_addM, addW_val, seqOf_loc, seqM_lst, seqM_frz, ixW_loc, ixM_lsW, ixM_lst, ixM_frz, setIW_loc, setIM_lst, exit_val, exit_loc, exitV_if, List.take_succ_cons, List.take_zero, List.take_nil, List.all_cons, List.all_nil, Bool.and_true, Bool.true_and, Bool.and_self, Nat.reduceLT, Nat.reduceLeDiff, Nat.zero_le, Nat.lt_add_one, exitM_lst, exitM_frz, below_lst, below_frz, below_dK, below_scr, below_lsW, below_ins, below_dW, wbelow_val, wbelow_loc, q_append, appA_loc, appW_1, appM_lst, q_lstOfM, lstM_lst, q_lstM, q_rng1, standB_none, standB_some, standM_lst, standM_frz, q_join, joinA_str, q_joined, q_jNil, q_jCons, jW_str, q_star, q_own1, ownW_val, okStr_str, isIns_row, isIns_tool, q_kget, kgetW_str, q_indexC, indexW_lst, q_makeL, mkL_cls, q_cmeth, cmW_cls, q_star1, star1W_cons, q_chain, chainW_bl, chainE_bl, q_eqOwn, fmtF_s, and_self, q_aug, augM_int, q_parN, setAll_cons, setAll_nil, q_never, intF_bl, q_extend, extA_loc, extW_1, extD_lst, extM_lst, q_asgT, uTup_tup, uCons_cons, uNil_nil, uName_eq, uFld_eq, ufW_loc, ufM_ins, fldSW_loc, fldSM_ins, fldW_loc, fldM_ins, look_cons, putW_nil, putW_cons, $ts,*])
variable {ρ : Env'} {μ : Mu}
theorem fits1_mem {a b : List Str} (h : ∀ s, s ∈ a ↔ s ∈ b) {t : Str} : fits1 a t = fits1 b t := by
  unfold fits1
  rw [show decide (lst (wds t) ∈ a) = decide (lst (wds t) ∈ b) from decide_eq_decide.mpr (h _)]
theorem fitsM_mem {a b : List Str} (h : ∀ s, s ∈ a ↔ s ∈ b) {ts : List Str} : fitsM ts a = fitsM ts b := by
  unfold fitsM
  rw [show fits1 a = fits1 b from funext fun t => fits1_mem h]
theorem rowForM_mem {a b : List Str} (h : ∀ s, s ∈ a ↔ s ∈ b) {rs : List RowM} {w : Str} : rowForM rs w a = rowForM rs w b := by
  unfold rowForM
  rw [show fitP w a = fitP w b from funext fun p => by unfold fitP; rw [fitsM_mem h]]
theorem rowForM_srt {ms : List Str} {rs : List RowM} {w : Str} : rowForM rs w (srt ms) = rowForM rs w ms := rowForM_mem fun s => (srt_perm ms).mem_iff
theorem behind_srt {ds ms : List Str} (h : ∀ s ∈ ds, deedOk2 s = true) (n : ms.Nodup) : behindM ds (srt ms) = behindM ds ms := by
  have n2 : (srt ms).Nodup := (srt_perm ms).nodup_iff.mpr n
  rw [← kept_behind h n2, ← kept_behind h n]
  refine srt_uniq (srt_srt _) (srt_srt _) ((srt_perm _).trans (List.Perm.trans ?_ (srt_perm _).symm))
  exact (kept_all h (List.Perm.refl _) n2).trans (kept_all h (srt_perm ms).symm n).symm
theorem e_lanswerU {T : ToolM} {n c : Int} {m : D} {marks : List Str} (hm : m = .tup (marks.map D.str)) (ht : ∀ r ∈ T.rows, r.tests.length ≤ 1000 ∧ ∀ t ∈ r.tests, testOk t = true) (hd : ∀ r ∈ T.rows, ∀ s ∈ r.deeds, deedOk2 s = true) (hr : ∀ r ∈ T.rows, r.tests.length + r.deeds.length < 32) (hz : marks.length < 32) (hn : marks.Nodup) : callX f_law_answer [.val (toolT T), .val (.int n), .val m, .val (.int c)] μ = some (.val (answerM T n marks c), μ) := by
  refine callX_pure rfl ?_
  subst hm
  have hlb : LB = 100000 := rfl
  have h4 : (4 ≤ LB) = True := eq_true (by omega)
  unfold f_law_answer m_law_answer
  push_cast [e_lword]
  rw [e_lrow_done (marks := marks) rfl ht]
  unfold answerM
  rw [rowForM_srt]
  have hp : ∀ q, rowForM T.rows (wordM T.window (c - n)) marks = some q → T.rows[q.1]? = some q.2 := fun q e => by
    have := (enumR_at (List.mem_of_find?_eq_some e)).2
    simpa using this
  have hdd := fun μ => e_ldeeds (μ := μ) (T := T) (n := n) (c := c) (m := .tup (marks.map D.str)) (marks := marks) (p := rowForM T.rows (wordM T.window (c - n)) marks) rfl hp hd hr hz hn
  push_cast [hdd]
  cases e : rowForM T.rows (wordM T.window (c - n)) marks with
  | none => push_cast [atD, h4, keptP, lateP]
  | some q =>
    have hat : atI (T.rows.map rowT) ((q.1 : Nat) : Int) = some (rowT q.2) := at_map (L2.atI_nat (hp q e))
    have hmem : q.2 ∈ T.rows := List.mem_of_getElem? (hp q e)
    have hb := behind_srt (hd _ hmem) hn
    push_cast [atD, h4, ix_tool, at1, hat, ix_row, at3, keptP, lateP, hb]
theorem texts_len {k : Nat} : ∀ {rows : List RowM}, (∀ r ∈ rows, r.tests.length + r.deeds.length ≤ k) → (textsM rows).length ≤ k * rows.length
  | [], _ => by simp [textsM]
  | r :: rows, h => by
    have ih := texts_len (rows := rows) fun x hx => h x (List.mem_cons_of_mem _ hx)
    have h1 := h r (by simp)
    unfold textsM at ih ⊢
    rw [List.flatMap_cons, List.length_append, List.length_cons, Nat.mul_succ]
    have h2 := List.length_filter_le hasSp (r.tests ++ r.deeds)
    rw [List.length_append] at h2
    omega
theorem Good.tool {rows : List RowM} {w : Int} (h : Good 12 rows) (hw : 1 ≤ w) : ToolOk XT ⟨w, rows⟩ := ⟨hw, by
    have := texts_len (k := 5) (rows := rows) fun r hr => by have := (h.rw r hr).t2; have := (h.rw r hr).d3; omega
    have := h.le
    show (textsM rows).length < 64
    omega, by have := h.le; show rows.length ≤ 1000; omega, fun r hr => by have := (h.rw r hr).t2; have := (h.rw r hr).d3; omega, fun r hr => (h.rw r hr).ok⟩
theorem Good.ans {rows : List RowM} {w n c : Int} {marks : List Str} (h : Good 12 rows) (hz : marks.length < 32) (hn : marks.Nodup) : callX f_law_answer [.val (toolT ⟨w, rows⟩), .val (.int n), .val (.tup (marks.map D.str)), .val (.int c)] μ = some (.val (answerM ⟨w, rows⟩ n marks c), μ) :=
  e_lanswerU rfl (fun r hr => ⟨(h.rw r hr).ok.zt, fun t ht => XT_te t ((h.rw r hr).ok.ts t ht)⟩) (fun r hr s hs => (XT_de s ((h.rw r hr).ok.ds s hs)).2) (fun r hr => by have := (h.rw r hr).t2; have := (h.rw r hr).d3; omega) hz hn
def shortB (s : Str) : Bool := decide (s.length ≤ 20) && s.cps.all (· < 0x110000)
theorem shortB_sh {s : Str} (h : shortB s = true) : Sh 204 1 (.str s) := by
  unfold shortB at h
  rw [Bool.and_eq_true] at h
  have := of_decide_eq_true h.1
  exact (sh_str h.2).mono (by omega) (Nat.le_refl _)
theorem XT_names : ∀ s ∈ XT.ds, shortB ((wds s).getD 1 "") = true := by
  have : (XT.ds.all fun s => shortB ((wds s).getD 1 "")) = true := by kernel_rfl
  exact fun s hs => List.all_eq_true.mp this s hs
theorem marks_sh {ms : List Str} (h : ∀ s ∈ ms, shortB s = true) (hl : ms.length ≤ 40) : Sh 8243 2 (.tup (ms.map D.str)) := by
  refine (sh_tup (c := 204) (n := 1) fun x hx => ?_).mono ?_ (Nat.le_refl _)
  · obtain ⟨s, hs, rfl⟩ := List.mem_map.mp hx
    exact shortB_sh (h s hs)
  · rw [List.length_map]
    omega
theorem enumR_lt {rs : List RowM} {p : Nat × RowM} (h : p ∈ enumR 0 rs) : p.1 < rs.length := by
  have := (List.getElem?_eq_some_iff.mp (enumR_at h).2).1
  simpa using this
theorem Good.rowAt {rows : List RowM} {w : Str} {marks : List Str} {p : Nat × RowM} (e : rowForM rows w marks = some p) : p.1 < rows.length ∧ p.2 ∈ rows := by
  have hm := List.mem_of_find?_eq_some e
  exact ⟨enumR_lt hm, List.mem_of_getElem? (enumR_at hm).2⟩
theorem Good.sh {rows : List RowM} {w n c : Int} {marks : List Str} (h : Good 12 rows) (hs : ∀ s ∈ marks, shortB s = true) (hz : marks.length ≤ 20) (hn : n.natAbs < 1000000) (hc : c.natAbs < 1000000) : Sh 32983 3 (answerM ⟨w, rows⟩ n marks c) := by
  have hss : ∀ s ∈ srt marks, shortB s = true := fun s q => hs s ((srt_perm marks).mem_iff.mp q)
  have hsl : (srt marks).length = marks.length := (srt_perm marks).length_eq
  unfold answerM
  cases e : rowForM rows (wordM w (c - n)) (srt marks) with
  | none =>
    refine (sh_tup (c := 8243) (n := 2) fun x hx => ?_).mono (by simp) (Nat.le_refl _)
    simp only [List.mem_cons, List.not_mem_nil, or_false] at hx
    rcases hx with rfl | rfl | rfl | rfl
    · exact sh_bl.mono (by omega) (by omega)
    · exact (sh_int hn).mono (by omega) (by omega)
    · exact marks_sh hss (by omega)
    · exact sh_non.mono (by omega) (by omega)
  | some p =>
    obtain ⟨hp1, hp2⟩ := Good.rowAt e
    have hle := h.le
    have hrw := h.rw _ hp2
    refine (sh_tup (c := 8243) (n := 2) fun x hx => ?_).mono (by simp) (Nat.le_refl _)
    simp only [List.mem_cons, List.not_mem_nil, or_false] at hx
    rcases hx with rfl | rfl | rfl | rfl
    · exact sh_bl.mono (by omega) (by omega)
    · split
      · exact (sh_int hc).mono (by omega) (by omega)
      · exact (sh_int hn).mono (by omega) (by omega)
    · refine marks_sh (fun s q => ?_) ?_
      · rcases behind_mem q with q | ⟨d, hd, q⟩
        · exact hss s q
        · rw [q]; exact XT_names d (hrw.ok.ds d hd)
      · have := behind_len (ds := p.2.deeds) (ms := srt marks)
        have := hrw.d3
        omega
    · exact (sh_int (by omega)).mono (by omega) (by omega)
theorem cut_take {xs : List D} {n : Nat} : DK.cutD xs none (some (n : Int)) = xs.take n := by
  unfold DK.cutD
  rw [HT.sIx_none, HT.sIx_nat, List.drop_zero, Nat.sub_zero, List.take_eq_take_iff]
  omega
theorem q_reprC {neg : Bool} {a b : RE} : mReprC neg a b ρ μ = (a ρ μ).bind fun p => (view p.2 p.1).bind fun d => if showsB d = true then (b ρ p.2).bind fun q => (view q.2 q.1).bind fun e => if showsB e = true then some (.val (.bl (neg ^^ decide ((toPy d).shown = (toPy e).shown))), q.2) else none else none := by
  unfold mReprC
  cases a ρ μ with
  | none => rfl
  | some p =>
    dsimp only [Option.bind]
    cases view p.2 p.1 with
    | none => rfl
    | some d =>
      dsimp only
      split
      · cases b ρ p.2 with
        | none => rfl
        | some q =>
          dsimp only
          cases view q.2 q.1 <;> rfl
      · rfl
theorem callX_nil {f : FX} {ws : List W} {w : W} {μ' : Mu} (ht : locTop ws = 0) (h : f ws [] = some (w, μ')) : callX f ws [] = some (w, μ') := by
  have e : preN ws [] = 0 := by
    unfold preN
    rw [ht]
    rfl
  unfold callX
  rw [e]
  show (match f ws [] with
    | some (w, μ') => if μ'.length = 0 then some (w, μ' ++ []) else f ws []
    | none => none) = _
  rw [h]
  dsimp only
  split
  · rw [List.append_nil]
  · rfl
end DX
namespace DX
open PySem PySem.Spec L2 DK
theorem cut_inj {α : Type} {c : α} : ∀ {p q a b : List α}, c ∉ p → c ∉ q → p ++ c :: a = q ++ c :: b → p = q ∧ a = b
  | [], [], a, b, _, _, h => by simpa using h
  | [], y :: q, a, b, _, hq, h => by
    simp only [List.nil_append, List.cons_append, List.cons.injEq] at h
    exact absurd (by rw [h.1]; simp) hq
  | x :: p, [], a, b, hp, _, h => by
    simp only [List.nil_append, List.cons_append, List.cons.injEq] at h
    exact absurd (by rw [← h.1]; simp) hp
  | x :: p, y :: q, a, b, hp, hq, h => by
    simp only [List.cons_append, List.cons.injEq] at h
    obtain ⟨h1, h2⟩ := cut_inj (p := p) (q := q) (fun z => hp (List.mem_cons_of_mem _ z)) (fun z => hq (List.mem_cons_of_mem _ z)) h.2
    exact ⟨by rw [h.1, h1], h2⟩
theorem app_list {a b : Str} : (a ++ b).cps.toList = a.cps.toList ++ b.cps.toList := by
  show (a.cps ++ b.cps).toList = _
  simp
theorem str_ext {a b : Str} (h : a.cps.toList = b.cps.toList) : a = b := by
  cases a; cases b
  congr 1
  exact Array.toList_inj.mp h
theorem app_assoc {a b c : Str} : a ++ b ++ c = a ++ (b ++ c) := str_ext (by simp only [app_list, List.append_assoc])
theorem join_cc {sep x y : Str} {r : List Str} : Str.join sep (x :: y :: r) = x ++ sep ++ Str.join sep (y :: r) := rfl
theorem join_list {c : Nat} {x y : Str} {r : List Str} : (Str.join ⟨#[c]⟩ (x :: y :: r)).cps.toList = x.cps.toList ++ c :: (Str.join ⟨#[c]⟩ (y :: r)).cps.toList := by
  rw [join_cc, app_list, app_list, List.append_assoc]
  rfl
theorem join_inj {c : Nat} : ∀ {ps qs : List Str}, ps ≠ [] → qs ≠ [] → (∀ p ∈ ps, c ∉ p.cps.toList) → (∀ q ∈ qs, c ∉ q.cps.toList) → Str.join ⟨#[c]⟩ ps = Str.join ⟨#[c]⟩ qs → ps = qs
  | [], _, h, _, _, _, _ => absurd rfl h
  | _ :: _, [], _, h, _, _, _ => absurd rfl h
  | [p], [q], _, _, _, _, h => by
    have : p = q := h
    rw [this]
  | [p], q :: q2 :: qs, _, _, hp, _, h => by
    have h2 := congrArg (fun s : Str => s.cps.toList) h
    rw [join_list] at h2
    have e : Str.join ⟨#[c]⟩ [p] = p := rfl
    rw [e] at h2
    exact absurd (by rw [h2]; simp) (hp p (by simp))
  | p :: p2 :: ps, [q], _, _, _, hq, h => by
    have h2 := congrArg (fun s : Str => s.cps.toList) h
    rw [join_list] at h2
    have e : Str.join ⟨#[c]⟩ [q] = q := rfl
    rw [e] at h2
    exact absurd (by rw [← h2]; simp) (hq q (by simp))
  | p :: p2 :: ps, q :: q2 :: qs, _, _, hp, hq, h => by
    have h2 := congrArg (fun s : Str => s.cps.toList) h
    rw [join_list, join_list] at h2
    obtain ⟨h3, h4⟩ := cut_inj (hp p (by simp)) (hq q (by simp)) h2
    rw [str_ext h3, join_inj (ps := p2 :: ps) (qs := q2 :: qs) (by simp) (by simp) (fun x hx => hp x (List.mem_cons_of_mem _ hx)) (fun x hx => hq x (List.mem_cons_of_mem _ hx)) (str_ext h4)]
theorem split_ne {x y : Str} : Txt.split x y ≠ [] := fun z => by
  have := PyProof.Rows.split_pos x y
  rw [z] at this
  simp at this
theorem split_join {c : Nat} {ps : List Str} (h0 : ps ≠ []) (h : ∀ p ∈ ps, c ∉ p.cps.toList) : Txt.split (Str.join ⟨#[c]⟩ ps) ⟨#[c]⟩ = ps :=
  join_inj split_ne h0 (StrLaws.split_free _ c) h (StrLaws.join_split _ _)
theorem join_app {sep : Str} : ∀ {as bs : List Str}, as ≠ [] → bs ≠ [] → Str.join sep (as ++ bs) = Str.join sep as ++ sep ++ Str.join sep bs
  | [], _, h, _ => absurd rfl h
  | [a], [], _, h => absurd rfl h
  | [a], b :: bs, _, _ => rfl
  | a :: a2 :: as, bs, _, hb => by
    have ih := join_app (sep := sep) (as := a2 :: as) (bs := bs) (by simp) hb
    rw [List.cons_append] at ih
    show Str.join sep (a :: a2 :: (as ++ bs)) = _
    rw [join_cc, ih, join_cc]
    simp only [app_assoc]
theorem join_flat {sep : Str} {f : Str → List Str} (hf : ∀ x, f x ≠ []) : ∀ {xs : List Str}, Str.join sep (xs.flatMap f) = Str.join sep (xs.map fun x => Str.join sep (f x))
  | [] => rfl
  | [x] => by
    rw [List.flatMap_cons, List.flatMap_nil, List.append_nil]
    rfl
  | x :: y :: r => by
    have ih := join_flat (sep := sep) hf (xs := y :: r)
    have hn : (y :: r).flatMap f ≠ [] := fun z => by
      rw [List.flatMap_cons] at z
      exact hf y (List.append_eq_nil_iff.mp z).1
    rw [List.flatMap_cons, join_app (hf x) hn, ih]
    rfl
theorem split_joinF {c : Nat} {xs : List Str} (h0 : xs ≠ []) : Txt.split (Str.join ⟨#[c]⟩ xs) ⟨#[c]⟩ = xs.flatMap fun x => Txt.split x ⟨#[c]⟩ := by
  refine join_inj split_ne ?_ (StrLaws.split_free _ c) (fun p hp => ?_) ?_
  · match xs, h0 with
    | x :: r, _ =>
      rw [List.flatMap_cons]
      exact fun z => split_ne (List.append_eq_nil_iff.mp z).1
  · obtain ⟨x, _, hx⟩ := List.mem_flatMap.mp hp
    exact StrLaws.split_free x c p hx
  · rw [StrLaws.join_split, join_flat fun x => split_ne]
    congr 1
    have : (fun x : Str => Str.join ⟨#[c]⟩ (Txt.split x ⟨#[c]⟩)) = id := funext fun x => StrLaws.join_split x _
    rw [this, List.map_id]
theorem sp_eq : (" " : Str) = ⟨#[32]⟩ := by decide +kernel
theorem tj_eq {sep : Str} {xs : List Str} : Txt.join sep xs = Str.join sep xs := StrLaws.glued_eq_join sep xs
theorem wds_join {xs : List Str} (h : xs ≠ []) : wds (Txt.join " " xs) = xs.flatMap wds := by
  unfold wds
  rw [tj_eq, sp_eq]
  exact split_joinF h
theorem wds_one {s : Str} (h : 32 ∉ s.cps.toList) : wds s = [s] := by
  unfold wds
  rw [sp_eq]
  exact split_join (ps := [s]) (by simp) (by simpa using h)
structure TOk (n : Nat) (s : Str) : Prop where
  len : s.length ≤ n
  cps : s.cps.all (· < 0x110000) = true
def tokB (n : Nat) (s : Str) : Bool := decide (s.length ≤ n) && s.cps.all (· < 0x110000)
theorem tokB_ok {n : Nat} {s : Str} (h : tokB n s = true) : TOk n s := by
  unfold tokB at h
  rw [Bool.and_eq_true, decide_eq_true_eq] at h
  exact ⟨h.1, h.2⟩
theorem TOk.mono {n m : Nat} {s : Str} (h : TOk n s) (hm : n ≤ m) : TOk m s := ⟨Nat.le_trans h.len hm, h.cps⟩
theorem TOk.app {n m : Nat} {s t : Str} (h : TOk n s) (k : TOk m t) : TOk (n + m) (s ++ t) := ⟨by
  rw [Str.length_append]
  have := h.len
  have := k.len
  omega, by
  have h1 := h.cps
  have h2 := k.cps
  show (s.cps ++ t.cps).all _ = true
  rw [Array.all_append, h1, h2]
  rfl⟩
theorem TOk.ok {n : Nat} {s : Str} (h : TOk n s) (hn : n ≤ SB) : sOkB s = true := by
  unfold sOkB
  rw [Bool.and_eq_true, decide_eq_true_eq]
  exact ⟨Nat.le_trans h.len hn, h.cps⟩
theorem TOk.join {n m : Nat} {sep : Str} (hs : TOk m sep) : ∀ {xs : List Str}, (∀ x ∈ xs, TOk n x) → TOk ((n + m) * xs.length) (Txt.join sep xs)
  | [], _ => by
    rw [tj_eq]
    exact ⟨Nat.zero_le _, show Str.empty.cps.all (· < 0x110000) = true by decide +kernel⟩
  | [x], h => by
    rw [tj_eq]
    exact (h x (by simp)).mono (by simp)
  | x :: y :: r, h => by
    have ih := TOk.join hs (xs := y :: r) fun z hz => h z (List.mem_cons_of_mem _ hz)
    rw [tj_eq] at ih ⊢
    rw [join_cc]
    refine (((h x (by simp)).app hs).app ih).mono ?_
    rw [List.length_cons (a := x), Nat.mul_succ]
    omega
end DX
namespace DX
open PySem PySem.Spec L2 DK
local macro_rules
  | `(tactic| push_cast [$ts,*]) => `(tactic| simp only [q_seq, q_ifS, q_if, q_and, q_or, q_not, q_andV, q_orV, q_notV, q_test, q_op, q_un, q_asg, q_ret, q_drop, q_cons, q_dat, q_dat1, q_tup, q_lst, q_call, q_meth, q_for, q_lc, q_seqI, q_sl, q_var, q_c, q_nil, q_next, q_cont, q_break, q_retN, q_yes, q_noPart, q_partB, q_isN, q_ixB, q_fld, q_enum, q_par, q_body, varW_some, view_val, view_loc, viewM_lst, viewM_frz, isBl_bl, partW_int, name_set, ixW_val, ixF_l, ixF_t, fld_row_word, fld_row_tests, fld_row_deeds, fld_row_opens, fld_tool_window, fld_tool_rows, fld_tool_marks, recv_row, recv_tool, bodyE_rt, bodyE_nx, exit_any, exit_dst, negF_int, plusF_int, minusF_int, ltF_int, leF_int, gtF_int, geF_int, eqF_int, eqF_str, eqF_bl, intF_int, maxF_int, minF_int, lenF_l, lenF_t, lenF_s, tupF_l, tupF_t, lstF_l, lstF_t, strF_s, seqOf_t, seqOf_l, guard_val, guard_loc, isNW_val, isNW_loc, enumW_1, parW_2, tup_set, cons_set, nil_set, frzL_nil, frzL_cons, frz1_val, frz1_loc, frzM_lst, frzM_frz, ofS, ite_bind, Option.bind_some, then_nx, then_rt, then_ct, then_bk, start, List.length_cons, List.length_nil, List.map_cons, List.map_nil, List.replicate, List.cons_append, List.nil_append, List.append_nil, List.getElem?_cons_succ, List.getElem?_cons_zero, List.set_cons_succ, List.set_cons_zero, Nat.sub_self, Nat.reduceSub, Nat.reduceAdd, Nat.reduceEqDiff, if_true, if_false, reduceIte, decide_eq_true_eq, decide_true, decide_false, Bool.false_xor, Bool.true_xor, Nat.zero_add, eq_self, String.reduceEq, Bool.false_eq_true, wipeE, List.foldl_cons, List.foldl_nil, Bool.not_true, Bool.not_false, inF_strsT, inF_strsL, q_fldS, q_make, isNon_int, isNon_non, isNon_bl, isNon_str, isNon_tup, isNon_lst, q_lcM, q_setI, q_addM, addW_val, seqOf_loc, seqM_lst, seqM_frz, ixW_loc, ixM_lsW, ixM_lst, ixM_frz, setIW_loc, setIM_lst, exit_val, exit_loc, exitV_if, List.take_succ_cons, List.take_zero, List.take_nil, List.all_cons, List.all_nil, Bool.and_true, Bool.true_and, Bool.and_self, Nat.reduceLT, Nat.reduceLeDiff, Nat.zero_le, Nat.lt_add_one, exitM_lst, exitM_frz, below_lst, below_frz, below_dK, below_scr, below_lsW, below_ins, below_dW, wbelow_val, wbelow_loc, q_append, appA_loc, appW_1, appM_lst, q_lstOfM, lstM_lst, q_lstM, q_rng1, standB_none, standB_some, standM_lst, standM_frz, q_join, joinA_str, q_joined, q_jNil, q_jCons, jW_str, q_star, q_own1, ownW_val, okStr_str, isIns_row, isIns_tool, q_kget, kgetW_str, q_indexC, indexW_lst, q_makeL, mkL_cls, q_cmeth, cmW_cls, q_star1, star1W_cons, q_chain, chainW_bl, chainE_bl, q_eqOwn, fmtF_s, and_self, q_aug, augM_int, q_parN, setAll_cons, setAll_nil, q_never, intF_bl, q_extend, extA_loc, extW_1, extD_lst, extM_lst, q_asgT, uTup_tup, uCons_cons, uNil_nil, uName_eq, uFld_eq, ufW_loc, ufM_ins, fldSW_loc, fldSM_ins, fldW_loc, fldM_ins, look_cons, putW_nil, putW_cons, $ts,*])
variable {μ : Mu}
def freeL (S p : List Nat) : Bool := (List.range p.length).all fun k => !TL.pre S ((p ++ S).drop k)
def freeB (sep s : Str) : Bool := freeL (TL.tl sep) (TL.tl s)
def joinN (S : List Nat) : List (List Nat) → List Nat
  | [] => []
  | [p] => p
  | p :: q :: r => p ++ (S ++ joinN S (q :: r))
theorem tl_joinN {sep : Str} : ∀ {xs : List Str}, TL.tl (Str.join sep xs) = joinN (TL.tl sep) (xs.map TL.tl)
  | [] => rfl
  | [x] => rfl
  | x :: y :: r => by
    have ih := tl_joinN (sep := sep) (xs := y :: r)
    rw [join_cc, TL.tl_append, TL.tl_append, ih, List.append_assoc]
    rfl
theorem pre_app {S p r : List Nat} {k : Nat} (hk : k ≤ p.length) : TL.pre S ((p ++ (S ++ r)).drop k) = TL.pre S ((p ++ S).drop k) := by
  unfold TL.pre
  rw [← List.append_assoc, List.drop_append_of_le_length (by rw [List.length_append]; omega)]
  rw [List.take_append_of_le_length (by rw [List.length_drop, List.length_append]; omega)]
theorem pre_end {S p : List Nat} {k : Nat} (hk : k < p.length) (h : TL.pre S ((p ++ S).drop k) = false) : TL.pre S (p.drop k) = false := by
  by_cases q : S.length ≤ (p.drop k).length
  · unfold TL.pre at h ⊢
    rw [List.drop_append_of_le_length (by omega), List.take_append_of_le_length q] at h
    exact h
  · unfold TL.pre
    have hl : ((p.drop k).take S.length).length ≠ S.length := by rw [List.length_take]; omega
    cases e : (List.take S.length (List.drop k p) == S) with
    | false => rfl
    | true => exact absurd (congrArg List.length (eq_of_beq e)) hl
theorem spl_joinN {S : List Nat} (hS : S ≠ []) : ∀ {ps : List (List Nat)}, ps ≠ [] → (∀ p ∈ ps, freeL S p = true) → TL.spl S 0 [] (joinN S ps) = ps
  | [], h, _ => absurd rfl h
  | [p], _, hf => by
    have h := hf p (by simp)
    unfold freeL at h
    have h2 := List.all_eq_true.mp h
    have run := TL.spl_run S p p.length 0 [] (by omega) (fun k _ hk => by
      have h3 := h2 k (List.mem_range.mpr (by omega))
      exact pre_end (by omega) (by simpa using h3))
    rw [List.drop_zero] at run
    show TL.spl S 0 [] p = _
    rw [run, List.take_length, List.nil_append, List.drop_eq_nil_of_le (by omega), TL.spl_nil]
  | p :: q :: r, _, hf => by
    have ih := spl_joinN hS (ps := q :: r) (by simp) fun x hx => hf x (List.mem_cons_of_mem _ hx)
    have h := hf p (by simp)
    unfold freeL at h
    have h2 := List.all_eq_true.mp h
    have run := TL.spl_run S (p ++ (S ++ joinN S (q :: r))) p.length 0 [] (by rw [List.length_append]; omega) (fun k _ hk => by
      have h3 := h2 k (List.mem_range.mpr (by omega))
      rw [pre_app (by omega)]
      simpa using h3)
    rw [List.drop_zero, List.take_left, List.nil_append, Nat.zero_add, List.drop_left] at run
    show TL.spl S 0 [] (p ++ (S ++ joinN S (q :: r))) = _
    rw [run]
    cases S with
    | nil => exact absurd rfl hS
    | cons s S' =>
      have hp := TL.pre_self (s :: S') (joinN (s :: S') (q :: r))
      rw [List.cons_append] at hp ⊢
      rw [TL.spl_hit hp, List.length_cons, Nat.add_sub_cancel, TL.spl_pass, List.drop_left, ih]
theorem split_joinL {sep : Str} {ps : List Str} (hs : TL.tl sep ≠ []) (hk : sep.cps.all (· < 256) = true) (h0 : ps ≠ []) (hf : ∀ p ∈ ps, freeB sep p = true) : Txt.split (Txt.join sep ps) sep = ps := by
  refine TL.map_tl_inj ?_
  rw [TL.split_spl _ _ hs (TL.kind_ok hk), tj_eq, tl_joinN, spl_joinN hs (by simpa using h0)]
  intro p hp
  obtain ⟨x, hx, rfl⟩ := List.mem_map.mp hp
  exact hf x hx
theorem join_two {a b : Str} : Txt.join " " [a, b] = a ++ " " ++ b := by rw [tj_eq]; rfl
theorem wds_two {a b : Str} : wds (a ++ " " ++ b) = wds a ++ wds b := by
  rw [← join_two, wds_join (by simp)]
  simp
theorem wds_link {lk sep : Str} (hl : 32 ∉ lk.cps.toList) (hsep : sep = (" " : Str) ++ lk ++ " ") : ∀ {ts : List Str}, ts ≠ [] → (∀ w ∈ wds (Txt.join sep ts), w = lk ∨ ∃ t ∈ ts, w ∈ wds t) ∧ (wds (Txt.join sep ts)).length + 1 = (ts.map fun t => (wds t).length + 1).sum
  | [], h => absurd rfl h
  | [t], _ => by
    rw [show Txt.join sep [t] = t from by rw [tj_eq]; rfl]
    exact ⟨fun w hw => .inr ⟨t, by simp, hw⟩, by simp⟩
  | t :: u :: r, _ => by
    obtain ⟨i1, i2⟩ := wds_link hl hsep (ts := u :: r) (by simp)
    have e : Txt.join sep (t :: u :: r) = t ++ " " ++ (lk ++ " " ++ Txt.join sep (u :: r)) := by
      rw [tj_eq, join_cc, hsep, ← hsep, tj_eq, hsep]
      simp only [app_assoc]
    rw [e, wds_two, wds_two, wds_one hl]
    refine ⟨fun w hw => ?_, ?_⟩
    · simp only [List.mem_append, List.mem_singleton] at hw
      rcases hw with hw | hw | hw
      · exact .inr ⟨t, by simp, hw⟩
      · exact .inl hw
      · rcases i1 w hw with q | ⟨x, hx, q⟩
        · exact .inl q
        · exact .inr ⟨x, List.mem_cons_of_mem _ hx, q⟩
    · rw [List.map_cons, List.sum_cons, ← i2]
      simp only [List.length_append, List.length_singleton]
      omega
def linkW (hd sep : Str) (ts : List Str) : List Str := if ts = [] then [] else wds (hd ++ " " ++ Txt.join sep ts)
theorem linkW_cons {hd sep : Str} {ts : List Str} (hh : 32 ∉ hd.cps.toList) (h0 : ts ≠ []) : linkW hd sep ts = hd :: wds (Txt.join sep ts) := by
  unfold linkW
  rw [if_neg h0, wds_two, wds_one hh]
  rfl
theorem wds_back {s : Str} : Txt.join " " (wds s) = s := by
  unfold wds
  rw [tj_eq, sp_eq]
  exact StrLaws.join_split _ _
theorem lensP {sep : Str} : ∀ {xs : List Str}, xs ≠ [] → (xs.map (·.length)).sum + xs.length * sep.length = (Txt.join sep xs).length + sep.length
  | [], h => absurd rfl h
  | [x], _ => by rw [tj_eq]; show [x.length].sum + 1 * sep.length = x.length + sep.length; simp
  | x :: y :: r, _ => by
    have ih := lensP (sep := sep) (xs := y :: r) (by simp)
    rw [tj_eq] at ih ⊢
    rw [join_cc, Str.length_append, Str.length_append, List.map_cons, List.sum_cons, List.length_cons (a := x), Nat.succ_mul]
    omega
theorem e_parts {hd lk sep : Str} {ts : List Str} (hh : 32 ∉ hd.cps.toList) (hho : sOkB hd = true) (hl : 32 ∉ lk.cps.toList) (hlo : TOk 10 lk) (hsep : sep = (" " : Str) ++ lk ++ " ") (hs : TL.tl sep ≠ []) (hk : sep.cps.all (· < 256) = true) (hf : ∀ t ∈ ts, freeB sep t = true) (hz : ts ≠ [] → (Txt.join sep ts).length ≤ 1000) :
    callX f_parts_between [.val (.lst ((linkW hd sep ts).map D.str)), .val (.str hd), .val (.str lk)] μ = some (.val (.lst (ts.map D.str)), μ) := by
  refine callX_pure rfl ?_
  have hlb : LB = 100000 := rfl
  have hsb : SB = 90000 := rfl
  have h1 : (1 ≤ LB) = True := eq_true (by omega)
  have h0 : (0 ≤ LB) = True := eq_true (by omega)
  by_cases q : ts = []
  · subst q
    have e : eqF false (.lst []) (.lst [.str hd]) = some (.bl false) := by kernel_rfl
    have c1 : slF none (some 1) (.lst []) = some (.lst []) := by kernel_rfl
    show f_parts_between [.val (.lst []), .val (.str hd), .val (.str lk)] [] = _
    unfold f_parts_between m_parts_between
    push_cast [c1, h1, h0, e]
  · rw [linkW_cons hh q]
    have e : eqF false (.lst [.str hd]) (.lst [.str hd]) = some (.bl true) := by
      show (if pyOk (.lst [.str hd]) = true ∧ pyOk (.lst [.str hd]) = true ∧ (toPy (.lst [.str hd])).depth ≤ 64 ∧ (toPy (.lst [.str hd])).depth ≤ 64 then some (D.bl (false ^^ eqP (.lst [.str hd]) (.lst [.str hd]))) else none) = _
      rw [if_pos ⟨rfl, rfl, by simp [toPy, toPyL, PyData.depth, PyData.depthAll], by simp [toPy, toPyL, PyData.depth, PyData.depthAll]⟩]
      unfold eqP
      simp [toPy, toPyL, PyData.eqv, PyData.eqvAll]
    have hn : (wds (Txt.join sep ts)) ≠ [] := wds_ne _
    have hw := lensP (sep := " ") hn
    have hsp : (" " : Str).length = 1 := by decide +kernel
    rw [wds_back, hsp] at hw
    have hz2 := hz q
    have hlen : ((wds (Txt.join sep ts)).map (·.length)).sum + (wds (Txt.join sep ts)).length * (" " : Str).length ≤ SB := by rw [hsp]; omega
    have c1 : slF none (some 1) (.lst (.str hd :: (wds (Txt.join sep ts)).map D.str)) = some (.lst [.str hd]) := by
      show some (D.lst (DK.cutD _ none (some 1))) = _
      unfold DK.cutD
      rw [HT.sIx_none, show (some (1 : Int)) = some ((1 : Nat) : Int) from rfl, HT.sIx_nat]
      simp
    have c2 : slF (some 1) none (.lst (.str hd :: (wds (Txt.join sep ts)).map D.str)) = some (.lst ((wds (Txt.join sep ts)).map D.str)) := by
      show some (D.lst (DK.cutD _ (some 1) none)) = _
      unfold DK.cutD
      rw [HT.sIx_none, show (some (1 : Int)) = some ((1 : Nat) : Int) from rfl, HT.sIx_nat]
      simp
      exact List.take_of_length_le (by simp)
    have lk1 := hlo.len
    have e0 : (Str.empty ++ " " : Str) = " " := by decide +kernel
    have j1 : ((Str.empty ++ (" " : Str)).length ≤ SB) = True := eq_true (by rw [e0, hsp]; omega)
    have j2 : ((Str.empty ++ (" " : Str) ++ lk).length ≤ SB) = True := eq_true (by rw [e0, Str.length_append, hsp]; omega)
    have j3 : ((Str.empty ++ (" " : Str) ++ lk ++ (" " : Str)).length ≤ SB) = True := eq_true (by rw [e0, Str.length_append, Str.length_append, hsp]; omega)
    have o1 : (sOkB (" " : Str) = true) = True := eq_true (by kernel_rfl)
    have o2 : (sOkB lk = true) = True := eq_true (hlo.ok (by omega))
    have hsp2 : splitF (.str (Txt.join sep ts)) (.str (Str.empty ++ (" " : Str) ++ lk ++ (" " : Str))) = some (.lst (ts.map D.str)) := by
      rw [e0, ← hsep]
      show (if TL.tl sep ≠ [] ∧ sep.cps.all (· < 256) = true then some (D.lst ((Txt.split (Txt.join sep ts) sep).map D.str)) else none) = _
      rw [if_pos ⟨hs, hk⟩, split_joinL hs hk q hf]
    unfold f_parts_between m_parts_between
    push_cast [c1, c2, h1, e, sOf_map, hlen, wds_back, j1, j2, j3, o1, o2, hsp2]
end DX
namespace DX
open PySem PySem.Spec L2 DK
local macro_rules
  | `(tactic| push_cast [$ts,*]) => `(tactic| simp only [q_seq, q_ifS, q_if, q_and, q_or, q_not, q_andV, q_orV, q_notV, q_test, q_op, q_un, q_asg, q_ret, q_drop, q_cons, q_dat, q_dat1, q_tup, q_lst, q_call, q_meth, q_for, q_lc, q_seqI, q_sl, q_var, q_c, q_nil, q_next, q_cont, q_break, q_retN, q_yes, q_noPart, q_partB, q_isN, q_ixB, q_fld, q_enum, q_par, q_body, varW_some, view_val, view_loc, viewM_lst, viewM_frz, isBl_bl, partW_int, name_set, ixW_val, ixF_l, ixF_t, fld_row_word, fld_row_tests, fld_row_deeds, fld_row_opens, fld_tool_window, fld_tool_rows, fld_tool_marks, recv_row, recv_tool, bodyE_rt, bodyE_nx, exit_any, exit_dst, negF_int, plusF_int, minusF_int, ltF_int, leF_int, gtF_int, geF_int, eqF_int, eqF_str, eqF_bl, intF_int, maxF_int, minF_int, lenF_l, lenF_t, lenF_s, tupF_l, tupF_t, lstF_l, lstF_t, strF_s, seqOf_t, seqOf_l, guard_val, guard_loc, isNW_val, isNW_loc, enumW_1, parW_2, tup_set, cons_set, nil_set, frzL_nil, frzL_cons, frz1_val, frz1_loc, frzM_lst, frzM_frz, ofS, ite_bind, Option.bind_some, then_nx, then_rt, then_ct, then_bk, start, List.length_cons, List.length_nil, List.map_cons, List.map_nil, List.replicate, List.cons_append, List.nil_append, List.append_nil, List.getElem?_cons_succ, List.getElem?_cons_zero, List.set_cons_succ, List.set_cons_zero, Nat.sub_self, Nat.reduceSub, Nat.reduceAdd, Nat.reduceEqDiff, if_true, if_false, reduceIte, decide_eq_true_eq, decide_true, decide_false, Bool.false_xor, Bool.true_xor, Nat.zero_add, eq_self, String.reduceEq, Bool.false_eq_true, wipeE, List.foldl_cons, List.foldl_nil, Bool.not_true, Bool.not_false, inF_strsT, inF_strsL, q_fldS, q_make, isNon_int, isNon_non, isNon_bl, isNon_str, isNon_tup, isNon_lst, q_lcM, q_setI, q_addM, addW_val, seqOf_loc, seqM_lst, seqM_frz, ixW_loc, ixM_lsW, ixM_lst, ixM_frz, setIW_loc, setIM_lst, exit_val, exit_loc, exitV_if, List.take_succ_cons, List.take_zero, List.take_nil, List.all_cons, List.all_nil, Bool.and_true, Bool.true_and, Bool.and_self, Nat.reduceLT, Nat.reduceLeDiff, Nat.zero_le, Nat.lt_add_one, exitM_lst, exitM_frz, below_lst, below_frz, below_dK, below_scr, below_lsW, below_ins, below_dW, wbelow_val, wbelow_loc, q_append, appA_loc, appW_1, appM_lst, q_lstOfM, lstM_lst, q_lstM, q_rng1, standB_none, standB_some, standM_lst, standM_frz, q_join, joinA_str, q_joined, q_jNil, q_jCons, jW_str, q_star, q_own1, ownW_val, okStr_str, isIns_row, isIns_tool, q_kget, kgetW_str, q_indexC, indexW_lst, q_makeL, mkL_cls, q_cmeth, cmW_cls, q_star1, star1W_cons, q_chain, chainW_bl, chainE_bl, q_eqOwn, fmtF_s, and_self, q_aug, augM_int, q_parN, setAll_cons, setAll_nil, q_never, intF_bl, q_extend, extA_loc, extW_1, extD_lst, extM_lst, q_asgT, uTup_tup, uCons_cons, uNil_nil, uName_eq, uFld_eq, ufW_loc, ufM_ins, fldSW_loc, fldSM_ins, fldW_loc, fldM_ins, look_cons, putW_nil, putW_cons, $ts,*])
variable {μ : Mu}
def ifT (ts : List Str) : List Str := if ts = [] then [] else [("if " : Str) ++ Txt.join " and " ts]
def doT (ds : List Str) : List Str := if ds = [] then [] else [("do " : Str) ++ Txt.join " then " ds]
def isVal (o : Option (W × Mu)) (d : D) : Bool := match o with
  | some (.val e, []) => beqD e d
  | _ => false
theorem isVal_eq {o : Option (W × Mu)} {d : D} (h : isVal o d = true) : o = some (.val d, []) := by
  unfold isVal at h
  split at h
  · rw [beqD_eq _ _ h]
  · cases h
def ifW (ts : List Str) : List Str := (ifT ts).flatMap wds
def doW (ds : List Str) : List Str := (doT ds).flatMap wds
def chkT1 (s : Str) : Bool := freeB " and " s && !decide (("do" : Str) ∈ wds s) && decide ((wds s).length ≤ 10) && tokB 20 s && !decide (10 ∈ s.cps.toList)
def chkD1 (s : Str) : Bool := freeB " then " s && decide ((wds s).length ≤ 10) && tokB 20 s && !decide (10 ∈ s.cps.toList)
def Txt.txB (X : Txt) : Bool := X.ts.all chkT1 && X.ds.all chkD1
structure TxtT (X : Txt) : Prop where
  ok : TxtOk X
  tx : X.txB = true
structure RWX (X : Txt) (r : RowM) : Prop where
  ok : RowOk X r
  t2 : r.tests.length ≤ 3
  d3 : r.deeds.length ≤ 3
section
variable {X : Txt} {r : RowM}
theorem TxtT.t1 (hX : TxtT X) {s : Str} (h : s ∈ X.ts) : freeB " and " s = true ∧ ("do" : Str) ∉ wds s ∧ (wds s).length ≤ 10 ∧ TOk 20 s ∧ 10 ∉ s.cps.toList := by
  have h1 := hX.tx
  unfold Txt.txB at h1
  rw [Bool.and_eq_true] at h1
  have h2 := List.all_eq_true.mp h1.1 s h
  unfold chkT1 at h2
  simp only [Bool.and_eq_true, Bool.not_eq_true', decide_eq_false_iff_not, decide_eq_true_eq] at h2
  exact ⟨h2.1.1.1.1, h2.1.1.1.2, h2.1.1.2, tokB_ok h2.1.2, h2.2⟩
theorem TxtT.d1 (hX : TxtT X) {s : Str} (h : s ∈ X.ds) : freeB " then " s = true ∧ (wds s).length ≤ 10 ∧ TOk 20 s ∧ 10 ∉ s.cps.toList := by
  have h1 := hX.tx
  unfold Txt.txB at h1
  rw [Bool.and_eq_true] at h1
  have h2 := List.all_eq_true.mp h1.2 s h
  unfold chkD1 at h2
  simp only [Bool.and_eq_true, Bool.not_eq_true', decide_eq_false_iff_not, decide_eq_true_eq] at h2
  exact ⟨h2.1.1.1, h2.1.1.2, tokB_ok h2.1.2, h2.2⟩
theorem TxtT.s (hX : TxtT X) {s : Str} (h : s ∈ X.ts ∨ s ∈ X.ds) : TOk 20 s ∧ 10 ∉ s.cps.toList := by
  rcases h with h | h
  · exact ⟨(hX.t1 h).2.2.2.1, (hX.t1 h).2.2.2.2⟩
  · exact ⟨(hX.d1 h).2.2.1, (hX.d1 h).2.2.2⟩
theorem ifW_eq {ts : List Str} : ifW ts = linkW "if" " and " ts := by
  unfold ifW ifT linkW
  have e : ("if " : Str) = "if" ++ " " := by decide +kernel
  split
  · rfl
  · rw [e]; simp
theorem doW_eq {ts : List Str} : doW ts = linkW "do" " then " ts := by
  unfold doW doT linkW
  have e : ("do " : Str) = "do" ++ " " := by decide +kernel
  split
  · rfl
  · rw [e]; simp
theorem wsum_le {k : Nat} : ∀ {ts : List Str}, (∀ t ∈ ts, (wds t).length ≤ k) → (ts.map fun t => (wds t).length + 1).sum ≤ (k + 1) * ts.length
  | [], _ => Nat.le_refl _
  | t :: r, h => by
    have ih := wsum_le (ts := r) fun x hx => h x (List.mem_cons_of_mem _ hx)
    have := h t (by simp)
    rw [List.map_cons, List.sum_cons, List.length_cons, Nat.mul_succ]
    omega
theorem TxtT.t (hX : TxtT X) (h : RWX X r) : ("do" : Str) ∉ ifW r.tests ∧ (ifW r.tests).length ≤ 1000 ∧ callX f_parts_between [.val (.lst ((ifW r.tests).map D.str)), .val (.str "if"), .val (.str "and")] μ = some (.val (.lst (r.tests.map D.str)), μ) := by
  have e1 : (32 : Nat) ∉ ("if" : Str).cps.toList := by decide +kernel
  have e2 : (32 : Nat) ∉ ("and" : Str).cps.toList := by decide +kernel
  have e3 : (" and " : Str) = (" " : Str) ++ "and" ++ " " := by decide +kernel
  have t2 := h.t2
  have hp := hX
  rw [ifW_eq]
  refine ⟨?_, ?_, e_parts e1 (by kernel_rfl) e2 (tokB_ok (by kernel_rfl)) e3 (by decide +kernel) (by decide +kernel) (fun t ht => (hX.t1 (h.ok.ts t ht)).1) fun _ => ?_⟩
  · by_cases q : r.tests = []
    · unfold linkW
      rw [if_pos q]
      simp
    · rw [linkW_cons e1 q]
      intro z
      rcases List.mem_cons.mp z with z | z
      · exact absurd z (by decide +kernel)
      · rcases (wds_link e2 e3 q).1 _ z with z | ⟨t, ht, z⟩
        · exact absurd z (by decide +kernel)
        · exact (hX.t1 (h.ok.ts t ht)).2.1 z
  · by_cases q : r.tests = []
    · unfold linkW
      rw [if_pos q]
      simp
    · rw [linkW_cons e1 q, List.length_cons]
      have := (wds_link e2 e3 q).2
      have := wsum_le (k := 10) (ts := r.tests) fun t ht => (hX.t1 (h.ok.ts t ht)).2.2.1
      omega
  · have := (TOk.join (n := 20) (m := 5) (sep := " and ") (tokB_ok (by kernel_rfl)) (xs := r.tests) fun t ht => (hX.t1 (h.ok.ts t ht)).2.2.2.1).len
    omega
theorem TxtT.d (hX : TxtT X) (h : RWX X r) : (r.deeds = [] ∨ (doW r.deeds)[0]? = some ("do" : Str)) ∧ (doW r.deeds).length ≤ 1000 ∧ callX f_parts_between [.val (.lst ((doW r.deeds).map D.str)), .val (.str "do"), .val (.str "then")] μ = some (.val (.lst (r.deeds.map D.str)), μ) := by
  have e1 : (32 : Nat) ∉ ("do" : Str).cps.toList := by decide +kernel
  have e2 : (32 : Nat) ∉ ("then" : Str).cps.toList := by decide +kernel
  have e3 : (" then " : Str) = (" " : Str) ++ "then" ++ " " := by decide +kernel
  have d3 := h.d3
  rw [doW_eq]
  refine ⟨?_, ?_, e_parts e1 (by kernel_rfl) e2 (tokB_ok (by kernel_rfl)) e3 (by decide +kernel) (by decide +kernel) (fun t ht => (hX.d1 (h.ok.ds t ht)).1) fun _ => ?_⟩
  · by_cases q : r.deeds = []
    · exact .inl q
    · exact .inr (by rw [linkW_cons e1 q]; rfl)
  · by_cases q : r.deeds = []
    · unfold linkW
      rw [if_pos q]
      simp
    · rw [linkW_cons e1 q, List.length_cons]
      have := (wds_link e2 e3 q).2
      have := wsum_le (k := 10) (ts := r.deeds) fun t ht => (hX.d1 (h.ok.ds t ht)).2.1
      omega
  · have := (TOk.join (n := 20) (m := 6) (sep := " then ") (tokB_ok (by kernel_rfl)) (xs := r.deeds) fun t ht => (hX.d1 (h.ok.ds t ht)).2.2.1).len
    omega
end
def wTxt (w : Int) : Str := Str.ofString (toString w)
def winB (w : Int) : Bool := tokB 3 (wTxt w) && !decide (10 ∈ (wTxt w).cps.toList) && !decide (32 ∈ (wTxt w).cps.toList) && isVal (f_number_in [.val (.str (wTxt w)), .val (.int 2)] []) (.int w)
theorem win_all : ((List.range 64).all fun k => winB (k + 1)) = true := by kernel_rfl
theorem win_ok {w : Int} (h1 : 1 ≤ w) (h2 : w ≤ 64) : TOk 3 (wTxt w) ∧ 10 ∉ (wTxt w).cps.toList ∧ 32 ∉ (wTxt w).cps.toList ∧ ∀ μ, callX f_number_in [.val (.str (wTxt w)), .val (.int 2)] μ = some (.val (.int w), μ) := by
  obtain ⟨k, rfl⟩ : ∃ k : Nat, w = (k : Int) + 1 := ⟨(w - 1).toNat, by omega⟩
  have := List.all_eq_true.mp win_all k (List.mem_range.mpr (by omega))
  unfold winB at this
  rw [Bool.and_eq_true, Bool.and_eq_true, Bool.and_eq_true] at this
  exact ⟨tokB_ok this.1.1.1, by simpa using this.1.1.2, by simpa using this.1.2, fun μ => callX_pure rfl (isVal_eq this.2)⟩
structure ToolX (X : Txt) (T : ToolM) : Prop where
  ok : ToolOk X T
  hi : T.window ≤ 64
  rw : ∀ r ∈ T.rows, RWX X r
  le : T.rows.length ≤ 20
theorem fmtF_win {w : Int} (h1 : 1 ≤ w) (h2 : w ≤ 64) : fmtF (.int w) = some (.str (wTxt w)) := by
  have hk := (win_ok h1 h2).1
  have hl : w.natAbs.log2 < 1920 := by
    rw [Nat.log2_lt (by omega)]
    exact Nat.lt_of_lt_of_le (show w.natAbs < 2 ^ 20 by omega) (Nat.pow_le_pow_right (by decide) (by decide))
  show (if w.natAbs.log2 < 1920 ∧ sOkB (Str.ofString (toString w)) = true then some (D.str (Str.ofString (toString w))) else none) = _
  rw [if_pos ⟨hl, hk.ok (by decide)⟩]
  rfl
theorem strF_win {w : Int} (h1 : 1 ≤ w) (h2 : w ≤ 64) : strF (.int w) = some (.str (wTxt w)) := fmtF_win h1 h2
end DX
namespace DX
open PySem PySem.Spec L2 DK
local macro_rules
  | `(tactic| push_cast [$ts,*]) => `(tactic| simp only [q_seq, q_ifS, q_if, q_and, q_or, q_not, q_andV, q_orV, q_notV, q_test, q_op, q_un, q_asg, q_ret, q_drop, q_cons, q_dat, q_dat1, q_tup, q_lst, q_call, q_meth, q_for, q_lc, q_seqI, q_sl, q_var, q_c, q_nil, q_next, q_cont, q_break, q_retN, q_yes, q_noPart, q_partB, q_isN, q_ixB, q_fld, q_enum, q_par, q_body, varW_some, view_val, view_loc, viewM_lst, viewM_frz, isBl_bl, partW_int, name_set, ixW_val, ixF_l, ixF_t, fld_row_word, fld_row_tests, fld_row_deeds, fld_row_opens, fld_tool_window, fld_tool_rows, fld_tool_marks, recv_row, recv_tool, bodyE_rt, bodyE_nx, exit_any, exit_dst, negF_int, plusF_int, minusF_int, ltF_int, leF_int, gtF_int, geF_int, eqF_int, eqF_str, eqF_bl, intF_int, maxF_int, minF_int, lenF_l, lenF_t, lenF_s, tupF_l, tupF_t, lstF_l, lstF_t, strF_s, seqOf_t, seqOf_l, guard_val, guard_loc, isNW_val, isNW_loc, enumW_1, parW_2, tup_set, cons_set, nil_set, frzL_nil, frzL_cons, frz1_val, frz1_loc, frzM_lst, frzM_frz, ofS, ite_bind, Option.bind_some, then_nx, then_rt, then_ct, then_bk, start, List.length_cons, List.length_nil, List.map_cons, List.map_nil, List.replicate, List.cons_append, List.nil_append, List.append_nil, List.getElem?_cons_succ, List.getElem?_cons_zero, List.set_cons_succ, List.set_cons_zero, Nat.sub_self, Nat.reduceSub, Nat.reduceAdd, Nat.reduceEqDiff, if_true, if_false, reduceIte, decide_eq_true_eq, decide_true, decide_false, Bool.false_xor, Bool.true_xor, Nat.zero_add, eq_self, String.reduceEq, Bool.false_eq_true, wipeE, List.foldl_cons, List.foldl_nil, Bool.not_true, Bool.not_false, inF_strsT, inF_strsL, q_fldS, q_make, isNon_int, isNon_non, isNon_bl, isNon_str, isNon_tup, isNon_lst, q_lcM, q_setI, q_addM, addW_val, seqOf_loc, seqM_lst, seqM_frz, ixW_loc, ixM_lsW, ixM_lst, ixM_frz, setIW_loc, setIM_lst, exit_val, exit_loc, exitV_if, List.take_succ_cons, List.take_zero, List.take_nil, List.all_cons, List.all_nil, Bool.and_true, Bool.true_and, Bool.and_self, Nat.reduceLT, Nat.reduceLeDiff, Nat.zero_le, Nat.lt_add_one, exitM_lst, exitM_frz, below_lst, below_frz, below_dK, below_scr, below_lsW, below_ins, below_dW, wbelow_val, wbelow_loc, q_append, appA_loc, appW_1, appM_lst, q_lstOfM, lstM_lst, q_lstM, q_rng1, standB_none, standB_some, standM_lst, standM_frz, q_join, joinA_str, q_joined, q_jNil, q_jCons, jW_str, q_star, q_own1, ownW_val, okStr_str, isIns_row, isIns_tool, q_kget, kgetW_str, q_indexC, indexW_lst, q_makeL, mkL_cls, q_cmeth, cmW_cls, q_star1, star1W_cons, q_chain, chainW_bl, chainE_bl, q_eqOwn, fmtF_s, and_self, q_aug, augM_int, q_parN, setAll_cons, setAll_nil, q_never, intF_bl, q_extend, extA_loc, extW_1, extD_lst, extM_lst, q_asgT, uTup_tup, uCons_cons, uNil_nil, uName_eq, uFld_eq, ufW_loc, ufM_ins, fldSW_loc, fldSM_ins, fldW_loc, fldM_ins, look_cons, putW_nil, putW_cons, $ts,*])
variable {μ : Mu}
inductive Evt where
  | give | house | tr (c : Nat)
  deriving DecidableEq
def trS (c : Nat) : Str := ("try " : Str) ++ wTxt (c : Int)
def evS : Evt → Str
  | .give => "give"
  | .house => "house"
  | .tr c => trS c
def evP : Evt → D
  | .give => .tup [.str "give"]
  | .house => .tup [.str "house"]
  | .tr c => .tup [.str "try", .int (c : Nat)]
def cardB (c : Nat) : Bool := isVal (f_parse [.val (.str (trS c))] []) (evP (.tr c)) && tokB 10 (trS c)
theorem card_all : ((List.range 64).all fun k => cardB (k + 1)) = true := by kernel_rfl
def EvOk : Evt → Prop
  | .tr c => 1 ≤ c ∧ c ≤ 64
  | _ => True
theorem e_parse {e : Evt} (h : EvOk e) : callX f_parse [.val (.str (evS e))] μ = some (.val (evP e), μ) := by
  refine callX_pure rfl ?_
  cases e with
  | give => exact isVal_eq (by kernel_rfl)
  | house => exact isVal_eq (by kernel_rfl)
  | tr c =>
    have hc : cardB (c - 1 + 1) = true := List.all_eq_true.mp card_all (c - 1) (List.mem_range.mpr (by have := h.2; omega))
    rw [show c - 1 + 1 = c by have := h.1; omega] at hc
    unfold cardB at hc
    rw [Bool.and_eq_true] at hc
    exact isVal_eq hc.1
def posB (many : Nat) : Evt → Bool
  | .give => true
  | .house => decide (0 < many)
  | .tr c => decide (1 ≤ c ∧ c ≤ many)
def isGive : Evt → Bool
  | .give => true
  | _ => false
def evW : Evt → Str
  | .give => "give"
  | .house => "house"
  | .tr _ => "try"
def evR : Evt → List D
  | .tr c => [.int (c : Nat)]
  | _ => []
theorem evP_eq {e : Evt} : evP e = .tup (.str (evW e) :: evR e) := by cases e <;> rfl
theorem isNon_evP {e : Evt} : DK.isNon (evP e) = false := by cases e <;> rfl
theorem ix0_evP {e : Evt} : ixF (evP e) (.int 0) = some (.str (evW e)) := by rw [evP_eq]; exact at0
theorem ix1_evP {c : Nat} : ixF (evP (.tr c)) (.int 1) = some (.int (c : Nat)) := at1
theorem e_is_possible {e : Evt} {many : Nat} : callX f_is_possible [.val (evP e), .val (.int (many : Nat))] μ = some (.val (.bl (posB many e)), μ) := by
  refine callX_pure rfl ?_
  unfold f_is_possible m_is_possible
  have z0 : ((0 : Int) < ((many : Nat) : Int)) = (0 < many) := by apply propext; omega
  cases e with
  | give => push_cast [isNon_evP, ix0_evP, evW, posB]
  | house =>
    push_cast [isNon_evP, ix0_evP, evW, posB, z0]
    by_cases q : 0 < many <;> simp [q]
  | tr c =>
    push_cast [isNon_evP, ix0_evP, ix1_evP, evW, posB, z0]
    by_cases q : 0 < many
    · by_cases q1 : 1 ≤ c
      · by_cases q2 : c ≤ many <;> simp [q, q1, q2] <;> omega
      · simp [q, q1]; omega
    · have : ¬ (1 ≤ c ∧ c ≤ many) := by omega
      simp [q, this]
structure NS where
  many : Int
  best : Int
  skips : Int
  el : Bool
def nstep (s : NS) : Evt → NS
  | .give => ⟨s.many + 1, s.best, max s.skips (s.many - s.best), s.el⟩
  | .house => s
  | .tr c => ⟨s.many, max s.best (c : Int), s.skips, s.el || !decide ((c : Int) = s.many)⟩
def termsD (k : D) (el hs : Bool) : D := .obj "Terms" ["skips", "elder", "house"] [k, .bl el, .bl hs]
def needsS (es : List Evt) : NS := es.foldl nstep ⟨0, 0, 0, false⟩
def isHouse : Evt → Bool
  | .house => true
  | _ => false
def needsD (es : List Evt) : D := termsD (.int (needsS es).skips) (needsS es).el (es.any isHouse)
theorem e_nloop {a : Option W} : ∀ {es : List Evt} {s : NS} {x : Option W}, ∃ y, loopR (hName 5) m_needs_of_1 none (es.map evP) [a, some (.val (.int s.many)), some (.val (.int s.best)), some (.val (.int s.skips)), some (.val (.bl s.el)), x] [] = some (.nx [a, some (.val (.int (es.foldl nstep s).many)), some (.val (.int (es.foldl nstep s).best)), some (.val (.int (es.foldl nstep s).skips)), some (.val (.bl (es.foldl nstep s).el)), y] [])
  | [], s, x => ⟨x, rfl⟩
  | e :: es, s, x => by
    obtain ⟨y, hy⟩ := e_nloop (a := a) (es := es) (s := nstep s e) (x := some (.val (evP e)))
    refine ⟨y, ?_⟩
    have key : m_needs_of_1 [a, some (.val (.int s.many)), some (.val (.int s.best)), some (.val (.int s.skips)), some (.val (.bl s.el)), some (.val (evP e))] [] = some (.nx [a, some (.val (.int (nstep s e).many)), some (.val (.int (nstep s e).best)), some (.val (.int (nstep s e).skips)), some (.val (.bl (nstep s e).el)), some (.val (evP e))] []) := by
      unfold m_needs_of_1
      cases e with
      | give => push_cast [ix0_evP, evW, nstep]
      | house => push_cast [ix0_evP, evW, nstep]
      | tr c =>
        push_cast [ix0_evP, ix1_evP, evW, nstep]
        cases s.el <;> simp
    rw [List.map_cons, loop_cons]
    simp only [name_set, Option.bind_some, List.set_cons_succ, List.set_cons_zero]
    rw [key]
    simp only [Option.bind_some, standB, if_true]
    rw [hy]
    rfl
theorem e_Terms {k : Int} {el hs : Bool} (h : 0 ≤ k) : makeX "Terms" f_Terms_init [.val (.int k), .val (.bl el), .val (.bl hs)] μ = some (.val (termsD (.int k) el hs), μ) := by
  refine makeX_pure (ds := [.int k, .bl el, .bl hs]) (fs := [("skips", .val (.int k)), ("elder", .val (.bl el)), ("house", .val (.bl hs))]) ?_ rfl
  have h1 : ∀ {μ : Mu}, callX f_is_number [.val (.int k)] μ = some (.val (.bl true), μ) := fun {μ} => by
    refine callX_pure rfl ?_
    have h2 : ∀ {μ : Mu}, callX f_is_integer [.val (.int k)] μ = some (.val (.bl true), μ) := fun {μ} => callX_pure rfl rfl
    unfold f_is_number m_is_number
    push_cast [h2, h]
  have h3 : isTF "bool" (.bl el) = some (.bl true) := rfl
  have h4 : isTF "bool" (.bl hs) = some (.bl true) := rfl
  unfold f_Terms_init m_Terms_init
  push_cast [h1, h3, h4]
theorem nskips {es : List Evt} : ∀ {s : NS}, 0 ≤ s.skips → 0 ≤ (es.foldl nstep s).skips := by
  induction es with
  | nil => exact fun h => h
  | cons e es ih =>
    intro s h
    refine ih ?_
    cases e with
    | give => show 0 ≤ max s.skips (s.many - s.best); omega
    | house => exact h
    | tr c => exact h
theorem evs_py : ∀ {es : List Evt}, pyOkL (es.map evP) = true
  | [] => rfl
  | e :: es => by rw [List.map_cons, pyOkL, evs_py]; cases e <;> rfl
theorem evs_dp : ∀ {es : List Evt}, PyData.depthAll (toPyL (es.map evP)) ≤ 1
  | [] => Nat.zero_le _
  | e :: es => by
    rw [List.map_cons, toPyL, PyData.depthAll]
    refine Nat.max_le.mpr ⟨?_, evs_dp⟩
    cases e <;> exact Nat.le_refl _
theorem eqv_house {e : Evt} : PyData.eqv (toPy (evP e)) (toPy (.tup [.str "house"])) = isHouse e := by
  cases e with
  | give => kernel_rfl
  | house => kernel_rfl
  | tr c => kernel_rfl
theorem deep_house : ∀ {es : List Evt}, inDeep (.tup [.str "house"]) (es.map evP) = es.any isHouse
  | [] => rfl
  | e :: es => by
    have ih := deep_house (es := es)
    unfold inDeep at ih ⊢
    rw [List.map_cons, toPyL, List.any_cons, List.any_cons, ih, eqv_house]
theorem in_house {es : List Evt} : inF2 (.tup [.str "house"]) (.tup (es.map evP)) = some (.bl (es.any isHouse)) := by
  have h1 : inF false (.tup [.str "house"]) (.tup (es.map evP)) = none := by
    unfold inF
    dsimp only
    exact if_neg fun z => by cases z.1
  unfold inF2
  rw [h1]
  dsimp only
  rw [if_pos ⟨rfl, evs_py, by decide +kernel, by
    show PyData.depth (.tuple (toPyL (es.map evP))) ≤ 64
    rw [PyData.depth]
    have := evs_dp (es := es)
    omega⟩, deep_house]
theorem e_needs_of {es : List Evt} : callX f_needs_of [.val (.tup (es.map evP))] μ = some (.val (needsD es), μ) := by
  refine callX_pure rfl ?_
  obtain ⟨y, hy⟩ := e_nloop (a := some (.val (.tup (es.map evP)))) (es := es) (s := ⟨0, 0, 0, false⟩) (x := none)
  have h4 : (4 ≤ LB) = True := eq_true (by decide)
  have h1 : (1 ≤ LB) = True := eq_true (by decide)
  have hs := nskips (es := es) (s := ⟨0, 0, 0, false⟩) (Int.le_refl 0)
  unfold f_needs_of m_needs_of
  push_cast [h4, h1, hy, in_house, e_Terms hs]
  rfl
def giveN (m : Nat) (e : Evt) : Nat := if isGive e = true then m + 1 else m
def posAll : Nat → List Evt → Bool
  | _, [] => true
  | m, e :: es => posB m e && posAll (giveN m e) es
def storyD (es : List Evt) : D := .obj "Story" ["events", "parsed", "needs"] [.tup (es.map fun e => .str (evS e)), .tup (es.map evP), needsD es]
theorem e_sloop {a b : Option W} {m0 : MO} : ∀ {es ds : List Evt} {k m : Nat} {x y z : Option W}, (∀ e ∈ es, EvOk e) → posAll m es = true → ds.length + es.length < 1000 → ∃ m' x' y' z', loopR (hTup 2 (hCons (hName 4) (hCons (hName 5) hNil))) m_Story_init_1 none (enumD k (es.map fun e => .str (evS e))) [a, b, some (.loc 1), some (.val (.int (m : Nat))), x, y, z] [m0, .lst (ds.map evP)] = some (.nx [a, b, some (.loc 1), m', x', y', z'] [m0, .lst ((ds ++ es).map evP)])
  | [], ds, k, m, x, y, z, _, _, _ => ⟨_, x, y, z, by rw [List.append_nil]; rfl⟩
  | e :: es, ds, k, m, x, y, z, ho, hp, hz => by
    rw [posAll, Bool.and_eq_true] at hp
    rw [List.length_cons] at hz
    obtain ⟨m', x', y', z', hr⟩ := e_sloop (a := a) (b := b) (m0 := m0) (es := es) (ds := ds ++ [e]) (k := k + 1) (m := giveN m e) (x := some (.val (.int (k : Nat)))) (y := some (.val (.str (evS e)))) (z := some (.val (evP e))) (fun f hf => ho f (List.mem_cons_of_mem _ hf)) hp.2 (by rw [List.length_append, List.length_singleton]; omega)
    refine ⟨m', x', y', z', ?_⟩
    have hlb : LB = 100000 := rfl
    have hl : ((ds.map evP).length < LB) = True := eq_true (by rw [List.length_map]; omega)
    have hg : ((m : Nat) : Int) + (if evW e = "give" then (1 : Int) else 0) = ((giveN m e : Nat) : Int) := by
      unfold giveN
      cases e with
      | give => rfl
      | house => rfl
      | tr c => rfl
    have key : m_Story_init_1 [a, b, some (.loc 1), some (.val (.int (m : Nat))), some (.val (.int (k : Nat))), some (.val (.str (evS e))), z] [m0, .lst (ds.map evP)] = some (.nx [a, b, some (.loc 1), some (.val (.int (giveN m e : Nat))), some (.val (.int (k : Nat))), some (.val (.str (evS e))), some (.val (evP e))] [m0, .lst ((ds ++ [e]).map evP)]) := by
      unfold m_Story_init_1
      push_cast [e_parse (ho e (by simp)), e_is_possible, hp.1, ix0_evP, hl]
      rw [hg, List.map_append]
      rfl
    rw [List.map_cons, enumD, loop_cons]
    push_cast [key, hr]
    rw [List.append_assoc]
    rfl
theorem e_Story {m : D} {es : List Evt} (hm : seqD m = some (es.map fun e => D.str (evS e))) (ho : ∀ e ∈ es, EvOk e) (hp : posAll 0 es = true) (hz : es.length < 900) : makeX "Story" f_Story_init [.val m] μ = some (.val (storyD es), μ) := by
  refine makeX_pure (ds := [m]) (fs := [("events", .val (.tup (es.map fun e => .str (evS e)))), ("parsed", .val (.tup (es.map evP))), ("needs", .val (needsD es))]) ?_ rfl
  obtain ⟨m', x', y', z', hr⟩ := e_sloop (a := some (.loc 0)) (b := some (.val m)) (m0 := .ins "Story" []) (es := es) (ds := []) (k := 0) (m := 0) (x := none) (y := none) (z := none) ho hp (by simpa using Nat.lt_of_lt_of_le hz (by decide))
  rw [List.nil_append] at hr
  have hr2 : loopR (hTup 2 (hCons (hName 4) (hCons (hName 5) hNil))) m_Story_init_1 none (enumD 0 (es.map fun e => .str (evS e))) [some (.loc 0), some (.val m), some (.loc 1), some (.val (.int 0)), none, none, none] [.ins "Story" [], .lst []] = some (.nx [some (.loc 0), some (.val m), some (.loc 1), m', x', y', z'] [.ins "Story" [], .lst (es.map evP)]) := hr
  have h0 : (0 ≤ LB) = True := eq_true (by decide)
  have hpz : ((0 : Nat) < 100) = True := eq_true (by decide)
  unfold f_Story_init m_Story_init
  push_cast [e_is_seq hm, seqOf_of hm, hr2, tupF_of hm, e_needs_of]
end DX
namespace DX
open PySem PySem.Spec L2 DK
local macro_rules
  | `(tactic| push_cast [$ts,*]) => `(tactic| simp only [q_seq, q_ifS, q_if, q_and, q_or, q_not, q_andV, q_orV, q_notV, q_test, q_op, q_un, q_asg, q_ret, q_drop, q_cons, q_dat, q_dat1, q_tup, q_lst, q_call, q_meth, q_for, q_lc, q_seqI, q_sl, q_var, q_c, q_nil, q_next, q_cont, q_break, q_retN, q_yes, q_noPart, q_partB, q_isN, q_ixB, q_fld, q_enum, q_par, q_body, varW_some, view_val, view_loc, viewM_lst, viewM_frz, isBl_bl, partW_int, name_set, ixW_val, ixF_l, ixF_t, fld_row_word, fld_row_tests, fld_row_deeds, fld_row_opens, fld_tool_window, fld_tool_rows, fld_tool_marks, recv_row, recv_tool, bodyE_rt, bodyE_nx, exit_any, exit_dst, negF_int, plusF_int, minusF_int, ltF_int, leF_int, gtF_int, geF_int, eqF_int, eqF_str, eqF_bl, intF_int, maxF_int, minF_int, lenF_l, lenF_t, lenF_s, tupF_l, tupF_t, lstF_l, lstF_t, strF_s, seqOf_t, seqOf_l, guard_val, guard_loc, isNW_val, isNW_loc, enumW_1, parW_2, tup_set, cons_set, nil_set, frzL_nil, frzL_cons, frz1_val, frz1_loc, frzM_lst, frzM_frz, ofS, ite_bind, Option.bind_some, then_nx, then_rt, then_ct, then_bk, start, List.length_cons, List.length_nil, List.map_cons, List.map_nil, List.replicate, List.cons_append, List.nil_append, List.append_nil, List.getElem?_cons_succ, List.getElem?_cons_zero, List.set_cons_succ, List.set_cons_zero, Nat.sub_self, Nat.reduceSub, Nat.reduceAdd, Nat.reduceEqDiff, if_true, if_false, reduceIte, decide_eq_true_eq, decide_true, decide_false, Bool.false_xor, Bool.true_xor, Nat.zero_add, eq_self, String.reduceEq, Bool.false_eq_true, wipeE, List.foldl_cons, List.foldl_nil, Bool.not_true, Bool.not_false, inF_strsT, inF_strsL, q_fldS, q_make, isNon_int, isNon_non, isNon_bl, isNon_str, isNon_tup, isNon_lst, q_lcM, q_setI, q_addM, addW_val, seqOf_loc, seqM_lst, seqM_frz, ixW_loc, ixM_lsW, ixM_lst, ixM_frz, setIW_loc, setIM_lst, exit_val, exit_loc, exitV_if, List.take_succ_cons, List.take_zero, List.take_nil, List.all_cons, List.all_nil, Bool.and_true, Bool.true_and, Bool.and_self, Nat.reduceLT, Nat.reduceLeDiff, Nat.zero_le, Nat.lt_add_one, exitM_lst, exitM_frz, below_lst, below_frz, below_dK, below_scr, below_lsW, below_ins, below_dW, wbelow_val, wbelow_loc, q_append, appA_loc, appW_1, appM_lst, q_lstOfM, lstM_lst, q_lstM, q_rng1, standB_none, standB_some, standM_lst, standM_frz, q_join, joinA_str, q_joined, q_jNil, q_jCons, jW_str, q_star, q_own1, ownW_val, okStr_str, isIns_row, isIns_tool, q_kget, kgetW_str, q_indexC, indexW_lst, q_makeL, mkL_cls, q_cmeth, cmW_cls, q_star1, star1W_cons, q_chain, chainW_bl, chainE_bl, q_eqOwn, fmtF_s, and_self, q_aug, augM_int, q_parN, setAll_cons, setAll_nil, q_never, intF_bl, q_extend, extA_loc, extW_1, extD_lst, extM_lst, q_asgT, uTup_tup, uCons_cons, uNil_nil, uName_eq, uFld_eq, ufW_loc, ufM_ins, fldSW_loc, fldSM_ins, fldW_loc, fldM_ins, look_cons, putW_nil, putW_cons, $ts,*])
variable {μ : Mu}
structure Ans where
  op : Bool
  n : Int
  ms : List Str
  row : Option Nat
def rowD : Option Nat → D
  | none => .non
  | some k => .int (k : Nat)
def ansS (T : ToolM) (n : Int) (ms : List Str) (c : Int) : Ans := match rowForM T.rows (wordM T.window (c - n)) (srt ms) with
  | none => ⟨false, n, srt ms, none⟩
  | some p => ⟨p.2.opens, if ("learn" : Str) ∈ p.2.deeds then c else n, behindM p.2.deeds (srt ms), some p.1⟩
def hseS (T : ToolM) (n : Int) (ms : List Str) (top : Int) : Ans := match (if n < top then rowForM T.rows "house" (srt ms) else none) with
  | none => ⟨false, n, srt ms, none⟩
  | some p => ⟨false, if ("learn" : Str) ∈ p.2.deeds then top else n, behindM p.2.deeds (srt ms), some p.1⟩
def nmX (X : Txt) : List Str := X.ds.map fun d => (wds d).getD 1 ""
structure MkI (X : Txt) (ms : List Str) : Prop where
  nd : ms.Nodup
  mem : ∀ s ∈ ms, s ∈ nmX X
theorem nodup_len : ∀ {a b : List Str}, a.Nodup → (∀ s ∈ a, s ∈ b) → a.length ≤ b.length
  | [], _, _, _ => Nat.zero_le _
  | x :: a, b, hn, hs => by
    have hx : x ∈ b := hs x (by simp)
    have hn2 := List.nodup_cons.mp hn
    have ih := nodup_len (a := a) (b := b.erase x) hn2.2 fun s h => by
      have hne : s ≠ x := fun z => hn2.1 (z ▸ h)
      exact (List.mem_erase_of_ne hne).mpr (hs s (List.mem_cons_of_mem _ h))
    rw [List.length_erase_of_mem hx] at ih
    have : 0 < b.length := List.length_pos_of_mem hx
    rw [List.length_cons]
    omega
def nmB (X : Txt) : Bool := decide (X.ds.length ≤ 8) && (nmX X).all (fun s => tokB 20 s)
structure TxtN (X : Txt) : Prop where
  t : TxtT X
  n : nmB X = true
theorem TxtN.len {X : Txt} (hX : TxtN X) {ms : List Str} (h : MkI X ms) : ms.length ≤ 8 := by
  have h1 := nodup_len h.nd h.mem
  have h2 := hX.n
  unfold nmB at h2
  rw [Bool.and_eq_true, decide_eq_true_eq] at h2
  have h3 : (nmX X).length = X.ds.length := List.length_map _
  omega
theorem TxtN.tok {X : Txt} (hX : TxtN X) {ms : List Str} (h : MkI X ms) : ∀ s ∈ ms, TOk 20 s := fun s hs => by
  have h2 := hX.n
  unfold nmB at h2
  rw [Bool.and_eq_true] at h2
  exact tokB_ok (List.all_eq_true.mp h2.2 s (h.mem s hs))
theorem TxtN.ok {X : Txt} (hX : TxtN X) {ms : List Str} (h : MkI X ms) : ∀ s ∈ ms, sOkB s = true := fun s hs => (hX.tok h s hs).ok (by decide)
theorem MkI.srt {X : Txt} {ms : List Str} (h : MkI X ms) : MkI X (srt ms) := ⟨(srt_perm ms).nodup_iff.mpr h.nd, fun s hs => h.mem s ((srt_perm ms).mem_iff.mp hs)⟩
theorem MkI.nil {X : Txt} : MkI X [] := ⟨List.nodup_nil, fun _ h => by cases h⟩
theorem addK_nodup {ks : List Str} {s : Str} (h : ks.Nodup) : (addK ks s).Nodup := by
  unfold addK
  split
  · exact h
  · rename_i q
    rw [List.nodup_append]
    refine ⟨h, by simp, fun a ha b hb => ?_⟩
    rw [List.mem_singleton] at hb
    subst hb
    rintro rfl
    exact q ha
theorem addKs_nodup : ∀ {ms ks : List Str}, ks.Nodup → (ms.foldl addK ks).Nodup
  | [], _, h => h
  | m :: ms, ks, h => by
    rw [List.foldl_cons]
    exact addKs_nodup (addK_nodup h)
theorem deedMs_nodup : ∀ {ds ks : List Str}, ks.Nodup → (ds.foldl deedM ks).Nodup
  | [], _, h => h
  | d :: ds, ks, h => by
    rw [List.foldl_cons]
    refine deedMs_nodup ?_
    unfold deedM
    split
    · exact addK_nodup h
    · split
      · exact h.filter _
      · exact h
theorem MkI.behind {X : Txt} {ms ds : List Str} (h : MkI X ms) (hd : ∀ d ∈ ds, d ∈ X.ds) : MkI X (behindM ds ms) := by
  refine ⟨?_, fun s hs => ?_⟩
  · unfold behindM
    exact (srt_perm _).nodup_iff.mpr (deedMs_nodup (addKs_nodup List.nodup_nil))
  · unfold behindM at hs
    rcases deedM_mems ((srt_perm _).mem_iff.mp hs) with q | ⟨d, q1, q2⟩
    · rcases addK_mems q with q | q
      · cases q
      · exact h.mem s q
    · rw [q2]
      exact List.mem_map.mpr ⟨d, hd d q1, rfl⟩
section
variable {X : Txt} {T : ToolM} {n c : Int} {ms : List Str}
theorem ansS_mk (hT : ToolOk X T) (h : MkI X ms) : MkI X (ansS T n ms c).ms := by
  unfold ansS
  cases e : rowForM T.rows (wordM T.window (c - n)) (srt ms) with
  | none => exact h.srt
  | some p => exact h.srt.behind fun d hd => (hT.ok _ (List.mem_of_getElem? (enumR_at (List.mem_of_find?_eq_some e)).2)).ds d hd
theorem hseS_mk (hT : ToolOk X T) (h : MkI X ms) : MkI X (hseS T n ms c).ms := by
  unfold hseS
  split
  · exact h.srt
  · rename_i p e
    split at e
    · exact h.srt.behind fun d hd => (hT.ok _ (List.mem_of_getElem? (enumR_at (List.mem_of_find?_eq_some e)).2)).ds d hd
    · cases e
def neverS (T : ToolM) (n : Int) (ms : List Str) (c : Int) : Bool := !(ansS T n ms c).op && !(ansS T (ansS T n ms c).n (ansS T n ms c).ms c).op
end
theorem callX_whole {f : FX} {ws : List W} {μ μ' : Mu} {w : W} (hp : preN ws μ = μ.length) (h : f ws μ = some (w, μ')) (hl : μ'.length = μ.length) : callX f ws μ = some (w, μ') := by
  unfold callX
  rw [hp, List.take_length, h]
  dsimp only
  rw [if_pos hl, List.drop_length, List.append_nil]
structure Crs where
  n : Int
  ms : List Str
  top : Int
  op : List Int
  sh : Int
  lw : List (Int × Bool)
section
variable {X : Txt} {T : ToolM} {s : Crs} {a b c : List D}
end
end DX
namespace DX
open PySem PySem.Spec L2 DK
local macro_rules
  | `(tactic| push_cast [$ts,*]) => `(tactic| simp only [q_seq, q_ifS, q_if, q_and, q_or, q_not, q_andV, q_orV, q_notV, q_test, q_op, q_un, q_asg, q_ret, q_drop, q_cons, q_dat, q_dat1, q_tup, q_lst, q_call, q_meth, q_for, q_lc, q_seqI, q_sl, q_var, q_c, q_nil, q_next, q_cont, q_break, q_retN, q_yes, q_noPart, q_partB, q_isN, q_ixB, q_fld, q_enum, q_par, q_body, varW_some, view_val, view_loc, viewM_lst, viewM_frz, isBl_bl, partW_int, name_set, ixW_val, ixF_l, ixF_t, fld_row_word, fld_row_tests, fld_row_deeds, fld_row_opens, fld_tool_window, fld_tool_rows, fld_tool_marks, recv_row, recv_tool, bodyE_rt, bodyE_nx, exit_any, exit_dst, negF_int, plusF_int, minusF_int, ltF_int, leF_int, gtF_int, geF_int, eqF_int, eqF_str, eqF_bl, intF_int, maxF_int, minF_int, lenF_l, lenF_t, lenF_s, tupF_l, tupF_t, lstF_l, lstF_t, strF_s, seqOf_t, seqOf_l, guard_val, guard_loc, isNW_val, isNW_loc, enumW_1, parW_2, tup_set, cons_set, nil_set, frzL_nil, frzL_cons, frz1_val, frz1_loc, frzM_lst, frzM_frz, ofS, ite_bind, Option.bind_some, then_nx, then_rt, then_ct, then_bk, start, List.length_cons, List.length_nil, List.map_cons, List.map_nil, List.replicate, List.cons_append, List.nil_append, List.append_nil, List.getElem?_cons_succ, List.getElem?_cons_zero, List.set_cons_succ, List.set_cons_zero, Nat.sub_self, Nat.reduceSub, Nat.reduceAdd, Nat.reduceEqDiff, if_true, if_false, reduceIte, decide_eq_true_eq, decide_true, decide_false, Bool.false_xor, Bool.true_xor, Nat.zero_add, eq_self, String.reduceEq, Bool.false_eq_true, wipeE, List.foldl_cons, List.foldl_nil, Bool.not_true, Bool.not_false, inF_strsT, inF_strsL, q_fldS, q_make, isNon_int, isNon_non, isNon_bl, isNon_str, isNon_tup, isNon_lst, q_lcM, q_setI, q_addM, addW_val, seqOf_loc, seqM_lst, seqM_frz, ixW_loc, ixM_lsW, ixM_lst, ixM_frz, setIW_loc, setIM_lst, exit_val, exit_loc, exitV_if, List.take_succ_cons, List.take_zero, List.take_nil, List.all_cons, List.all_nil, Bool.and_true, Bool.true_and, Bool.and_self, Nat.reduceLT, Nat.reduceLeDiff, Nat.zero_le, Nat.lt_add_one, exitM_lst, exitM_frz, below_lst, below_frz, below_dK, below_scr, below_lsW, below_ins, below_dW, wbelow_val, wbelow_loc, q_append, appA_loc, appW_1, appM_lst, q_lstOfM, lstM_lst, q_lstM, q_rng1, standB_none, standB_some, standM_lst, standM_frz, q_join, joinA_str, q_joined, q_jNil, q_jCons, jW_str, q_star, q_own1, ownW_val, okStr_str, isIns_row, isIns_tool, q_kget, kgetW_str, q_indexC, indexW_lst, q_makeL, mkL_cls, q_cmeth, cmW_cls, q_star1, star1W_cons, q_chain, chainW_bl, chainE_bl, q_eqOwn, fmtF_s, and_self, q_aug, augM_int, q_parN, setAll_cons, setAll_nil, q_never, intF_bl, q_extend, extA_loc, extW_1, extD_lst, extM_lst, q_asgT, uTup_tup, uCons_cons, uNil_nil, uName_eq, uFld_eq, ufW_loc, ufM_ins, fldSW_loc, fldSM_ins, fldW_loc, fldM_ins, look_cons, putW_nil, putW_cons, $ts,*])
variable {ρ : Env'} {μ : Mu}
def lwGet (lw : List (Int × Bool)) (c : Int) : Bool := ((lw.find? fun p => decide (p.1 = c)).map (·.2)).getD false
def putI (lw : List (Int × Bool)) (c : Int) (b : Bool) : List (Int × Bool) := if (lw.any fun p => decide (p.1 = c)) = true then lw.map (fun p => if p.1 = c then (p.1, b) else p) else lw ++ [(c, b)]
theorem putI_len {lw : List (Int × Bool)} {c : Int} {b : Bool} : (putI lw c b).length ≤ lw.length + 1 := by
  unfold putI
  split
  · rw [List.length_map]; omega
  · rw [List.length_append, List.length_singleton]; omega
section
variable {X : Txt} {T : ToolM} {s : Crs} {a b c f : List D} {k : Int} {x2 x3 : Option W}
def shutS (s : Crs) (k : Int) : List Str := if k = s.top then (if k ∈ s.op then [("out" : Str), "shut"] else ["shut"]) else []
def foundS (s : Crs) (k : Int) : List Str := (if (s.op.any fun o => decide (k < o)) = true then [("behind" : Str)] else []) ++ ((if lwGet s.lw k = true then [("both" : Str)] else []) ++ (if k < s.sh then [("told" : Str)] else []))
def lowS (op : List Int) (k : Int) (lw : List (Int × Bool)) : List (Int × Bool) := op.foldl (fun lw o => putI lw o (lwGet lw o || decide (k < o))) lw
def openS (s : Crs) (k : Int) : Crs := { s with op := (s.op.filter fun o => !decide (o = k)) ++ [k], lw := putI (lowS s.op k s.lw) k false }
end
end DX
namespace DX
open PySem PySem.Spec L2 DK
local macro_rules
  | `(tactic| push_cast [$ts,*]) => `(tactic| simp only [q_seq, q_ifS, q_if, q_and, q_or, q_not, q_andV, q_orV, q_notV, q_test, q_op, q_un, q_asg, q_ret, q_drop, q_cons, q_dat, q_dat1, q_tup, q_lst, q_call, q_meth, q_for, q_lc, q_seqI, q_sl, q_var, q_c, q_nil, q_next, q_cont, q_break, q_retN, q_yes, q_noPart, q_partB, q_isN, q_ixB, q_fld, q_enum, q_par, q_body, varW_some, view_val, view_loc, viewM_lst, viewM_frz, isBl_bl, partW_int, name_set, ixW_val, ixF_l, ixF_t, fld_row_word, fld_row_tests, fld_row_deeds, fld_row_opens, fld_tool_window, fld_tool_rows, fld_tool_marks, recv_row, recv_tool, bodyE_rt, bodyE_nx, exit_any, exit_dst, negF_int, plusF_int, minusF_int, ltF_int, leF_int, gtF_int, geF_int, eqF_int, eqF_str, eqF_bl, intF_int, maxF_int, minF_int, lenF_l, lenF_t, lenF_s, tupF_l, tupF_t, lstF_l, lstF_t, strF_s, seqOf_t, seqOf_l, guard_val, guard_loc, isNW_val, isNW_loc, enumW_1, parW_2, tup_set, cons_set, nil_set, frzL_nil, frzL_cons, frz1_val, frz1_loc, frzM_lst, frzM_frz, ofS, ite_bind, Option.bind_some, then_nx, then_rt, then_ct, then_bk, start, List.length_cons, List.length_nil, List.map_cons, List.map_nil, List.replicate, List.cons_append, List.nil_append, List.append_nil, List.getElem?_cons_succ, List.getElem?_cons_zero, List.set_cons_succ, List.set_cons_zero, Nat.sub_self, Nat.reduceSub, Nat.reduceAdd, Nat.reduceEqDiff, if_true, if_false, reduceIte, decide_eq_true_eq, decide_true, decide_false, Bool.false_xor, Bool.true_xor, Nat.zero_add, eq_self, String.reduceEq, Bool.false_eq_true, wipeE, List.foldl_cons, List.foldl_nil, Bool.not_true, Bool.not_false, inF_strsT, inF_strsL, q_fldS, q_make, isNon_int, isNon_non, isNon_bl, isNon_str, isNon_tup, isNon_lst, q_lcM, q_setI, q_addM, addW_val, seqOf_loc, seqM_lst, seqM_frz, ixW_loc, ixM_lsW, ixM_lst, ixM_frz, setIW_loc, setIM_lst, exit_val, exit_loc, exitV_if, List.take_succ_cons, List.take_zero, List.take_nil, List.all_cons, List.all_nil, Bool.and_true, Bool.true_and, Bool.and_self, Nat.reduceLT, Nat.reduceLeDiff, Nat.zero_le, Nat.lt_add_one, exitM_lst, exitM_frz, below_lst, below_frz, below_dK, below_scr, below_lsW, below_ins, below_dW, wbelow_val, wbelow_loc, q_append, appA_loc, appW_1, appM_lst, q_lstOfM, lstM_lst, q_lstM, q_rng1, standB_none, standB_some, standM_lst, standM_frz, q_join, joinA_str, q_joined, q_jNil, q_jCons, jW_str, q_star, q_own1, ownW_val, okStr_str, isIns_row, isIns_tool, q_kget, kgetW_str, q_indexC, indexW_lst, q_makeL, mkL_cls, q_cmeth, cmW_cls, q_star1, star1W_cons, q_chain, chainW_bl, chainE_bl, q_eqOwn, fmtF_s, and_self, q_aug, augM_int, q_parN, setAll_cons, setAll_nil, q_never, intF_bl, q_extend, extA_loc, extW_1, extD_lst, extM_lst, q_asgT, uTup_tup, uCons_cons, uNil_nil, uName_eq, uFld_eq, ufW_loc, ufM_ins, fldSW_loc, fldSM_ins, fldW_loc, fldM_ins, look_cons, putW_nil, putW_cons, $ts,*])
variable {ρ : Env'} {μ : Mu}
section
variable {X : Txt} {T : ToolM} {s : Crs} {a b c f : List D} {k : Int} {x2 x3 : Option W}
def aftS (T : ToolM) (s : Crs) (k : Int) : Crs := { s with n := (ansS T s.n s.ms k).n, ms := (ansS T s.n s.ms k).ms }
def tryC (T : ToolM) (s : Crs) (k : Int) : Crs := if (ansS T s.n s.ms k).op = true then openS (aftS T s k) k else aftS T s k
def tryF (T : ToolM) (s : Crs) (k : Int) : List Str := if (ansS T s.n s.ms k).op = true then foundS (aftS T s k) k else shutS (aftS T s k) k
def metD (p : Nat × Str) : D := .tup [.int (p.1 : Nat), .str p.2]
def evC (T : ToolM) (s : Crs) : Evt → Crs
  | .give => { s with top := s.top + 1 }
  | .house => { s with n := (hseS T s.n s.ms s.top).n, ms := (hseS T s.n s.ms s.top).ms, sh := s.top }
  | .tr k => tryC T s (k : Int)
def evRow (T : ToolM) (s : Crs) : Evt → Option Nat
  | .give => none
  | .house => (hseS T s.n s.ms s.top).row
  | .tr k => (ansS T s.n s.ms (k : Int)).row
def evF (T : ToolM) (s : Crs) : Evt → List Str
  | .tr k => tryF T s (k : Int)
  | _ => []
def evO (T : ToolM) (s : Crs) : Evt → List Bool
  | .tr k => [(ansS T s.n s.ms (k : Int)).op]
  | _ => []
def stuckS (T : ToolM) (s : Crs) : Bool := decide (0 < s.top) && neverS T s.n s.ms s.top
def allF' (T : ToolM) (s : Crs) (e : Evt) : List Str := evF T s e ++ (if stuckS T (evC T s e) = true then [("stuck" : Str)] else [])
def evMet (T : ToolM) (s : Crs) (i : Nat) (e : Evt) : List (Nat × Str) := (srt (allF' T s e)).map fun w => (i, w)
structure CrsOk (X : Txt) (s : Crs) : Prop where
  mi : MkI X s.ms
  op : s.op.length ≤ 1000
  lw : s.lw.length ≤ 40000
theorem foundS_len {s : Crs} {k : Int} : (foundS s k).length ≤ 3 := by
  unfold foundS
  rw [List.length_append, List.length_append]
  split <;> split <;> split <;> simp
theorem shutS_len {s : Crs} {k : Int} : (shutS s k).length ≤ 3 := by
  unfold shutS
  split
  · split <;> simp
  · simp
theorem evF_len {e : Evt} : (evF T s e).length ≤ 3 := by
  cases e with
  | tr k =>
    show (tryF T s k).length ≤ 3
    unfold tryF
    split
    · exact foundS_len
    · exact shutS_len
  | _ => exact Nat.zero_le _
theorem allF_len {e : Evt} : (allF' T s e).length ≤ 4 := by
  unfold allF'
  rw [List.length_append]
  have := evF_len (T := T) (s := s) (e := e)
  split <;> simp <;> omega
theorem evC_mk (hT : ToolOk X T) (h : MkI X s.ms) {e : Evt} : MkI X (evC T s e).ms := by
  cases e with
  | give => exact h
  | house => exact hseS_mk hT h
  | tr k =>
    show MkI X (tryC T s k).ms
    unfold tryC
    split
    · exact ansS_mk hT h
    · exact ansS_mk hT h
end
end DX
namespace DX
open PySem PySem.Spec L2 DK
local macro_rules
  | `(tactic| push_cast [$ts,*]) => `(tactic| simp only [q_seq, q_ifS, q_if, q_and, q_or, q_not, q_andV, q_orV, q_notV, q_test, q_op, q_un, q_asg, q_ret, q_drop, q_cons, q_dat, q_dat1, q_tup, q_lst, q_call, q_meth, q_for, q_lc, q_seqI, q_sl, q_var, q_c, q_nil, q_next, q_cont, q_break, q_retN, q_yes, q_noPart, q_partB, q_isN, q_ixB, q_fld, q_enum, q_par, q_body, varW_some, view_val, view_loc, viewM_lst, viewM_frz, isBl_bl, partW_int, name_set, ixW_val, ixF_l, ixF_t, fld_row_word, fld_row_tests, fld_row_deeds, fld_row_opens, fld_tool_window, fld_tool_rows, fld_tool_marks, recv_row, recv_tool, bodyE_rt, bodyE_nx, exit_any, exit_dst, negF_int, plusF_int, minusF_int, ltF_int, leF_int, gtF_int, geF_int, eqF_int, eqF_str, eqF_bl, intF_int, maxF_int, minF_int, lenF_l, lenF_t, lenF_s, tupF_l, tupF_t, lstF_l, lstF_t, strF_s, seqOf_t, seqOf_l, guard_val, guard_loc, isNW_val, isNW_loc, enumW_1, parW_2, tup_set, cons_set, nil_set, frzL_nil, frzL_cons, frz1_val, frz1_loc, frzM_lst, frzM_frz, ofS, ite_bind, Option.bind_some, then_nx, then_rt, then_ct, then_bk, start, List.length_cons, List.length_nil, List.map_cons, List.map_nil, List.replicate, List.cons_append, List.nil_append, List.append_nil, List.getElem?_cons_succ, List.getElem?_cons_zero, List.set_cons_succ, List.set_cons_zero, Nat.sub_self, Nat.reduceSub, Nat.reduceAdd, Nat.reduceEqDiff, if_true, if_false, reduceIte, decide_eq_true_eq, decide_true, decide_false, Bool.false_xor, Bool.true_xor, Nat.zero_add, eq_self, String.reduceEq, Bool.false_eq_true, wipeE, List.foldl_cons, List.foldl_nil, Bool.not_true, Bool.not_false, inF_strsT, inF_strsL, q_fldS, q_make, isNon_int, isNon_non, isNon_bl, isNon_str, isNon_tup, isNon_lst, q_lcM, q_setI, q_addM, addW_val, seqOf_loc, seqM_lst, seqM_frz, ixW_loc, ixM_lsW, ixM_lst, ixM_frz, setIW_loc, setIM_lst, exit_val, exit_loc, exitV_if, List.take_succ_cons, List.take_zero, List.take_nil, List.all_cons, List.all_nil, Bool.and_true, Bool.true_and, Bool.and_self, Nat.reduceLT, Nat.reduceLeDiff, Nat.zero_le, Nat.lt_add_one, exitM_lst, exitM_frz, below_lst, below_frz, below_dK, below_scr, below_lsW, below_ins, below_dW, wbelow_val, wbelow_loc, q_append, appA_loc, appW_1, appM_lst, q_lstOfM, lstM_lst, q_lstM, q_rng1, standB_none, standB_some, standM_lst, standM_frz, q_join, joinA_str, q_joined, q_jNil, q_jCons, jW_str, q_star, q_own1, ownW_val, okStr_str, isIns_row, isIns_tool, q_kget, kgetW_str, q_indexC, indexW_lst, q_makeL, mkL_cls, q_cmeth, cmW_cls, q_star1, star1W_cons, q_chain, chainW_bl, chainE_bl, q_eqOwn, fmtF_s, and_self, q_aug, augM_int, q_parN, setAll_cons, setAll_nil, q_never, intF_bl, q_extend, extA_loc, extW_1, extD_lst, extM_lst, q_asgT, uTup_tup, uCons_cons, uNil_nil, uName_eq, uFld_eq, ufW_loc, ufM_ins, fldSW_loc, fldSM_ins, fldW_loc, fldM_ins, look_cons, putW_nil, putW_cons, $ts,*])
variable {ρ : Env'} {μ : Mu}
structure PlS where
  s : Crs
  op : List Bool
  dn : List (Option Nat)
  mt : List (Nat × Str)
def plStep (T : ToolM) (i : Nat) (p : PlS) (e : Evt) : PlS := ⟨evC T p.s e, p.op ++ evO T p.s e, p.dn ++ [evRow T p.s e], p.mt ++ evMet T p.s i e⟩
def plAll (T : ToolM) : Nat → List Evt → PlS → PlS
  | _, [], p => p
  | i, e :: es, p => plAll T (i + 1) es (plStep T i p e)
def crs0 : Crs := ⟨0, [], 0, [], 0, []⟩
def pl0 : PlS := ⟨crs0, [], [], []⟩
def playS (T : ToolM) (es : List Evt) : PlS := plAll T 0 es pl0
section
variable {X : Txt} {T : ToolM}
structure PlOk (X : Txt) (j : Nat) (p : PlS) : Prop where
  mi : MkI X p.s.ms
  op : p.s.op.length ≤ j
  lw : p.s.lw.length ≤ j * (j + 1)
  o : p.op.length ≤ j
  d : p.dn.length ≤ j
  m : p.mt.length ≤ 4 * j
theorem low_len {k : Int} : ∀ {l : List Int} {lw : List (Int × Bool)}, (lowS l k lw).length ≤ lw.length + l.length := fun {l} => by
  induction l with
  | nil => intro lw; exact Nat.le_refl _
  | cons o l ih =>
    intro lw
    have h1 := ih (lw := putI lw o (lwGet lw o || decide (k < o)))
    have h2 := putI_len (lw := lw) (c := o) (b := lwGet lw o || decide (k < o))
    rw [List.length_cons]
    show (lowS l k (putI lw o (lwGet lw o || decide (k < o)))).length ≤ _
    omega
theorem evC_len {s : Crs} {e : Evt} : (evC T s e).op.length ≤ s.op.length + 1 ∧ (evC T s e).lw.length ≤ s.lw.length + s.op.length + 1 := by
  cases e with
  | give => exact ⟨Nat.le_succ _, by show s.lw.length ≤ _; omega⟩
  | house => exact ⟨Nat.le_succ _, by show s.lw.length ≤ _; omega⟩
  | tr k =>
    show (tryC T s k).op.length ≤ _ ∧ (tryC T s k).lw.length ≤ _
    unfold tryC
    split
    · have h1 := List.length_filter_le (fun o => !decide (o = (k : Int))) s.op
      have h2 := low_len (k := (k : Int)) (l := s.op) (lw := s.lw)
      have h3 := putI_len (lw := lowS s.op (k : Int) s.lw) (c := (k : Int)) (b := false)
      refine ⟨?_, ?_⟩
      · show ((s.op.filter fun o => !decide (o = (k : Int))) ++ [(k : Int)]).length ≤ _
        rw [List.length_append, List.length_singleton]
        omega
      · show (putI (lowS s.op (k : Int) s.lw) (k : Int) false).length ≤ _
        omega
    · exact ⟨Nat.le_succ _, by show s.lw.length ≤ _; omega⟩
theorem PlOk.step (hT : ToolOk X T) {j i : Nat} {p : PlS} {e : Evt} (h : PlOk X j p) : PlOk X (j + 1) (plStep T i p e) := by
  obtain ⟨h1, h2⟩ := evC_len (T := T) (s := p.s) (e := e)
  have a1 := h.op
  have a2 := h.lw
  refine ⟨evC_mk hT h.mi, Nat.le_trans h1 (by omega), ?_, ?_, ?_, ?_⟩
  · refine Nat.le_trans h2 ?_
    have : (j + 1) * (j + 1 + 1) = j * (j + 1) + 2 * (j + 1) := by
      rw [← Nat.add_mul, Nat.mul_comm (j + 1)]
    omega
  · show (p.op ++ evO T p.s e).length ≤ _
    rw [List.length_append]
    have := h.o
    cases e <;> simp [evO] <;> omega
  · show (p.dn ++ [evRow T p.s e]).length ≤ _
    rw [List.length_append, List.length_singleton]
    have := h.d
    omega
  · show (p.mt ++ evMet T p.s i e).length ≤ _
    have hl : (evMet T p.s i e).length ≤ 4 := by
      unfold evMet
      rw [List.length_map, (srt_perm _).length_eq]
      exact allF_len
    rw [List.length_append]
    have := h.m
    omega
end
end DX
namespace DX
open PySem PySem.Spec L2 DK
local macro_rules
  | `(tactic| push_cast [$ts,*]) => `(tactic| simp only [q_seq, q_ifS, q_if, q_and, q_or, q_not, q_andV, q_orV, q_notV, q_test, q_op, q_un, q_asg, q_ret, q_drop, q_cons, q_dat, q_dat1, q_tup, q_lst, q_call, q_meth, q_for, q_lc, q_seqI, q_sl, q_var, q_c, q_nil, q_next, q_cont, q_break, q_retN, q_yes, q_noPart, q_partB, q_isN, q_ixB, q_fld, q_enum, q_par, q_body, varW_some, view_val, view_loc, viewM_lst, viewM_frz, isBl_bl, partW_int, name_set, ixW_val, ixF_l, ixF_t, fld_row_word, fld_row_tests, fld_row_deeds, fld_row_opens, fld_tool_window, fld_tool_rows, fld_tool_marks, recv_row, recv_tool, bodyE_rt, bodyE_nx, exit_any, exit_dst, negF_int, plusF_int, minusF_int, ltF_int, leF_int, gtF_int, geF_int, eqF_int, eqF_str, eqF_bl, intF_int, maxF_int, minF_int, lenF_l, lenF_t, lenF_s, tupF_l, tupF_t, lstF_l, lstF_t, strF_s, seqOf_t, seqOf_l, guard_val, guard_loc, isNW_val, isNW_loc, enumW_1, parW_2, tup_set, cons_set, nil_set, frzL_nil, frzL_cons, frz1_val, frz1_loc, frzM_lst, frzM_frz, ofS, ite_bind, Option.bind_some, then_nx, then_rt, then_ct, then_bk, start, List.length_cons, List.length_nil, List.map_cons, List.map_nil, List.replicate, List.cons_append, List.nil_append, List.append_nil, List.getElem?_cons_succ, List.getElem?_cons_zero, List.set_cons_succ, List.set_cons_zero, Nat.sub_self, Nat.reduceSub, Nat.reduceAdd, Nat.reduceEqDiff, if_true, if_false, reduceIte, decide_eq_true_eq, decide_true, decide_false, Bool.false_xor, Bool.true_xor, Nat.zero_add, eq_self, String.reduceEq, Bool.false_eq_true, wipeE, List.foldl_cons, List.foldl_nil, Bool.not_true, Bool.not_false, inF_strsT, inF_strsL, q_fldS, q_make, isNon_int, isNon_non, isNon_bl, isNon_str, isNon_tup, isNon_lst, q_lcM, q_setI, q_addM, addW_val, seqOf_loc, seqM_lst, seqM_frz, ixW_loc, ixM_lsW, ixM_lst, ixM_frz, setIW_loc, setIM_lst, exit_val, exit_loc, exitV_if, List.take_succ_cons, List.take_zero, List.take_nil, List.all_cons, List.all_nil, Bool.and_true, Bool.true_and, Bool.and_self, Nat.reduceLT, Nat.reduceLeDiff, Nat.zero_le, Nat.lt_add_one, exitM_lst, exitM_frz, below_lst, below_frz, below_dK, below_scr, below_lsW, below_ins, below_dW, wbelow_val, wbelow_loc, q_append, appA_loc, appW_1, appM_lst, q_lstOfM, lstM_lst, q_lstM, q_rng1, standB_none, standB_some, standM_lst, standM_frz, q_join, joinA_str, q_joined, q_jNil, q_jCons, jW_str, q_star, q_own1, ownW_val, okStr_str, isIns_row, isIns_tool, q_kget, kgetW_str, q_indexC, indexW_lst, q_makeL, mkL_cls, q_cmeth, cmW_cls, q_star1, star1W_cons, q_chain, chainW_bl, chainE_bl, q_eqOwn, fmtF_s, and_self, q_aug, augM_int, q_parN, setAll_cons, setAll_nil, q_never, intF_bl, q_extend, extA_loc, extW_1, extD_lst, extM_lst, q_asgT, uTup_tup, uCons_cons, uNil_nil, uName_eq, uFld_eq, ufW_loc, ufM_ins, fldSW_loc, fldSM_ins, fldW_loc, fldM_ins, look_cons, putW_nil, putW_cons, $ts,*])
variable {ρ : Env'} {μ : Mu}
theorem plusF_s {a b : Str} (h : a.length + b.length ≤ SB) : plusF (.str a) (.str b) = some (.str (a ++ b)) := by
  show (if (a ++ b).length ≤ SB then some (D.str (a ++ b)) else none) = _
  rw [if_pos (by rw [Str.length_append]; exact h)]
section
variable {X : Txt} {r : RowM}
end
end DX
namespace DX
open PySem PySem.Spec L2 DK
local macro_rules
  | `(tactic| push_cast [$ts,*]) => `(tactic| simp only [q_seq, q_ifS, q_if, q_and, q_or, q_not, q_andV, q_orV, q_notV, q_test, q_op, q_un, q_asg, q_ret, q_drop, q_cons, q_dat, q_dat1, q_tup, q_lst, q_call, q_meth, q_for, q_lc, q_seqI, q_sl, q_var, q_c, q_nil, q_next, q_cont, q_break, q_retN, q_yes, q_noPart, q_partB, q_isN, q_ixB, q_fld, q_enum, q_par, q_body, varW_some, view_val, view_loc, viewM_lst, viewM_frz, isBl_bl, partW_int, name_set, ixW_val, ixF_l, ixF_t, fld_row_word, fld_row_tests, fld_row_deeds, fld_row_opens, fld_tool_window, fld_tool_rows, fld_tool_marks, recv_row, recv_tool, bodyE_rt, bodyE_nx, exit_any, exit_dst, negF_int, plusF_int, minusF_int, ltF_int, leF_int, gtF_int, geF_int, eqF_int, eqF_str, eqF_bl, intF_int, maxF_int, minF_int, lenF_l, lenF_t, lenF_s, tupF_l, tupF_t, lstF_l, lstF_t, strF_s, seqOf_t, seqOf_l, guard_val, guard_loc, isNW_val, isNW_loc, enumW_1, parW_2, tup_set, cons_set, nil_set, frzL_nil, frzL_cons, frz1_val, frz1_loc, frzM_lst, frzM_frz, ofS, ite_bind, Option.bind_some, then_nx, then_rt, then_ct, then_bk, start, List.length_cons, List.length_nil, List.map_cons, List.map_nil, List.replicate, List.cons_append, List.nil_append, List.append_nil, List.getElem?_cons_succ, List.getElem?_cons_zero, List.set_cons_succ, List.set_cons_zero, Nat.sub_self, Nat.reduceSub, Nat.reduceAdd, Nat.reduceEqDiff, if_true, if_false, reduceIte, decide_eq_true_eq, decide_true, decide_false, Bool.false_xor, Bool.true_xor, Nat.zero_add, eq_self, String.reduceEq, Bool.false_eq_true, wipeE, List.foldl_cons, List.foldl_nil, Bool.not_true, Bool.not_false, inF_strsT, inF_strsL, q_fldS, q_make, isNon_int, isNon_non, isNon_bl, isNon_str, isNon_tup, isNon_lst, q_lcM, q_setI, q_addM, addW_val, seqOf_loc, seqM_lst, seqM_frz, ixW_loc, ixM_lsW, ixM_lst, ixM_frz, setIW_loc, setIM_lst, exit_val, exit_loc, exitV_if, List.take_succ_cons, List.take_zero, List.take_nil, List.all_cons, List.all_nil, Bool.and_true, Bool.true_and, Bool.and_self, Nat.reduceLT, Nat.reduceLeDiff, Nat.zero_le, Nat.lt_add_one, exitM_lst, exitM_frz, below_lst, below_frz, below_dK, below_scr, below_lsW, below_ins, below_dW, wbelow_val, wbelow_loc, q_append, appA_loc, appW_1, appM_lst, q_lstOfM, lstM_lst, q_lstM, q_rng1, standB_none, standB_some, standM_lst, standM_frz, q_join, joinA_str, q_joined, q_jNil, q_jCons, jW_str, q_star, q_own1, ownW_val, okStr_str, isIns_row, isIns_tool, q_kget, kgetW_str, q_indexC, indexW_lst, q_makeL, mkL_cls, q_cmeth, cmW_cls, q_star1, star1W_cons, q_chain, chainW_bl, chainE_bl, q_eqOwn, fmtF_s, and_self, q_aug, augM_int, q_parN, setAll_cons, setAll_nil, q_never, intF_bl, q_extend, extA_loc, extW_1, extD_lst, extM_lst, q_asgT, uTup_tup, uCons_cons, uNil_nil, uName_eq, uFld_eq, ufW_loc, ufM_ins, fldSW_loc, fldSM_ins, fldW_loc, fldM_ins, look_cons, putW_nil, putW_cons, $ts,*])
variable {ρ : Env'} {μ : Mu}
def givenN (m : Nat) (es : List Evt) : Nat := es.foldl giveN m
theorem posAll_app {e : Evt} : ∀ {es : List Evt} {m : Nat}, posAll m (es ++ [e]) = (posAll m es && posB (givenN m es) e)
  | [], m => by
    show (posB m e && true) = (true && posB m e)
    rw [Bool.and_true, Bool.true_and]
  | f :: es, m => by
    rw [List.cons_append, posAll, posAll, posAll_app, Bool.and_assoc]
    rfl
theorem givenN_app {e : Evt} {es : List Evt} {m : Nat} : givenN m (es ++ [e]) = giveN (givenN m es) e := by
  unfold givenN
  rw [List.foldl_append]
  rfl
structure Evs (most : Nat) (es : List Evt) : Prop where
  ok : ∀ e ∈ es, EvOk e
  pos : posAll 0 es = true
  top : givenN 0 es ≤ most
theorem Evs.app {most : Nat} {es : List Evt} {e : Evt} (h : Evs most es) (h1 : EvOk e) (h2 : posB (givenN 0 es) e = true) (h3 : giveN (givenN 0 es) e ≤ most) : Evs most (es ++ [e]) := ⟨fun f hf => by
  rcases List.mem_append.mp hf with q | q
  · exact h.ok f q
  · rw [List.mem_singleton.mp q]; exact h1, by rw [posAll_app, h.pos, h2]; rfl, by rw [givenN_app]; exact h3⟩
theorem Evs.nil {most : Nat} : Evs most [] := ⟨fun _ h => (by cases h), rfl, Nat.zero_le _⟩
def evL (es : List Evt) : List D := es.map fun e => D.str (evS e)
theorem evL_app {es : List Evt} {e : Evt} : evL es ++ [D.str (evS e)] = evL (es ++ [e]) := by
  unfold evL
  rw [List.map_append]
  rfl
theorem events_step {d : Dl} {most : Nat} {es : List Evt} {x1 x5 x6 : Option W} (hm : most ≤ 60) (hm1 : 1 ≤ most) (hd : d.1.length ≤ 1000) (h : Evs most es) (hz : es.length < 1000) : ∃ (d' : Dl) (e : Evt) (y6 : Option W), d'.1.length ≤ 1000 ∧ Evs most (es ++ [e]) ∧
    m_law_events_1 [some (.loc 1), x1, some (.val (.int (most : Nat))), some (.loc 2), some (.val (.int (givenN 0 es : Nat))), x5, x6] (MO.lst (List.map D.int (Prod.fst d)) :: MO.lsW [W.loc 0, W.val (D.int (Prod.snd d))] :: ([.lst (evL es)])) = some (.nx [some (.loc 1), x1, some (.val (.int (most : Nat))), some (.loc 2), some (.val (.int (givenN 0 (es ++ [e]) : Nat))), x5, y6] (MO.lst (List.map D.int (Prod.fst d')) :: MO.lsW [W.loc 0, W.val (D.int (Prod.snd d'))] :: ([.lst (evL (es ++ [e]))]))) := by
  have hlb : LB = 100000 := rfl
  have hl : ((evL es).length < LB) = True := eq_true (by unfold evL; rw [List.length_map]; omega)
  obtain ⟨k, d1, k0, k1, hd1, hk⟩ := draw_ex d 6 hd (by omega) (by omega)
  have ht := h.top
  have p2 : m_law_events_p2 [some (.loc 1), x1, some (.val (.int (most : Nat))), some (.loc 2), some (.val (.int (givenN 0 es : Nat))), x5, x6] (MO.lst (List.map D.int (Prod.fst d)) :: MO.lsW [W.loc 0, W.val (D.int (Prod.snd d))] :: ([.lst (evL es)])) = some (.nx [some (.loc 1), x1, some (.val (.int (most : Nat))), some (.loc 2), some (.val (.int (givenN 0 es : Nat))), x5, some (.val (.int k))] (MO.lst (List.map D.int (Prod.fst d1)) :: MO.lsW [W.loc 0, W.val (D.int (Prod.snd d1))] :: ([.lst (evL es)]))) := by
    unfold m_law_events_p2
    push_cast [hk]
  by_cases hg : givenN 0 es = 0 ∨ (k < 2 ∧ givenN 0 es < most)
  · have h3 : giveN (givenN 0 es) .give = givenN 0 es + 1 := rfl
    refine ⟨d1, .give, some (.val (.int k)), hd1, h.app trivial rfl (by rw [h3]; omega), ?_⟩
    unfold m_law_events_1
    refine seq_nx p2 ?_
    rw [givenN_app, h3, ← evL_app]
    have c1 : (((givenN 0 es : Nat) : Int) = 0) = (givenN 0 es = 0) := propext (by omega)
    have c2 : (((givenN 0 es : Nat) : Int) < ((most : Nat) : Int)) = (givenN 0 es < most) := propext (by omega)
    unfold m_law_events_p8 m_law_events_p3 m_law_events_p4
    rcases hg with q | ⟨q1, q2⟩
    · push_cast [c1, q, hl, ite_true]
      rfl
    · by_cases q0 : givenN 0 es = 0
      · push_cast [c1, q0, hl, ite_true]
        rfl
      · push_cast [c1, eq_false q0, c2, eq_true q1, eq_true q2, hl]
        rfl
  · have q0 : ¬ givenN 0 es = 0 := fun z => hg (.inl z)
    have q1 : ¬ (k < 2 ∧ givenN 0 es < most) := fun z => hg (.inr z)
    have c1 : (((givenN 0 es : Nat) : Int) = 0) = False := eq_false (by omega)
    have p8 : m_law_events_p8 [some (.loc 1), x1, some (.val (.int (most : Nat))), some (.loc 2), some (.val (.int (givenN 0 es : Nat))), x5, some (.val (.int k))] (MO.lst (List.map D.int (Prod.fst d1)) :: MO.lsW [W.loc 0, W.val (D.int (Prod.snd d1))] :: ([.lst (evL es)])) = m_law_events_p7 [some (.loc 1), x1, some (.val (.int (most : Nat))), some (.loc 2), some (.val (.int (givenN 0 es : Nat))), x5, some (.val (.int k))] (MO.lst (List.map D.int (Prod.fst d1)) :: MO.lsW [W.loc 0, W.val (D.int (Prod.snd d1))] :: ([.lst (evL es)])) := by
      have c2 : (((givenN 0 es : Nat) : Int) < ((most : Nat) : Int)) = (givenN 0 es < most) := propext (by omega)
      unfold m_law_events_p8
      generalize m_law_events_p7 = P
      by_cases q2 : k < 2
      · have q3 : ¬ givenN 0 es < most := fun z => q1 ⟨q2, z⟩
        push_cast [c1, c2, eq_true q2, eq_false q3]
      · push_cast [c1, eq_false q2]
    by_cases q5 : k = 5
    · refine ⟨d1, .house, some (.val (.int k)), hd1, h.app trivial (by show decide (0 < givenN 0 es) = true; exact decide_eq_true (by omega)) ht, ?_⟩
      unfold m_law_events_1
      refine seq_nx p2 ?_
      rw [p8, givenN_app, ← evL_app]
      unfold m_law_events_p7 m_law_events_p5
      push_cast [eq_true q5, hl]
      rfl
    · by_cases q6 : k = 2
      · have hc : EvOk (.tr (givenN 0 es)) := ⟨by omega, by omega⟩
        refine ⟨d1, .tr (givenN 0 es), some (.val (.int k)), hd1, h.app hc (by show decide _ = true; exact decide_eq_true ⟨by omega, Nat.le_refl _⟩) ht, ?_⟩
        unfold m_law_events_1
        refine seq_nx p2 ?_
        rw [p8, givenN_app, ← evL_app]
        have hs : strF (.int ((givenN 0 es : Nat) : Int)) = some (.str (wTxt ((givenN 0 es : Nat) : Int))) := strF_win (by omega) (by omega)
        have hp : plusF (.str "try ") (.str (wTxt ((givenN 0 es : Nat) : Int))) = some (.str (trS (givenN 0 es))) := plusF_s (by
          have := (win_ok (w := ((givenN 0 es : Nat) : Int)) (by omega) (by omega)).1.len
          have e3 : ("try " : Str).length = 4 := by decide +kernel
          have : SB = 90000 := rfl
          omega)
        unfold m_law_events_p7 m_law_events_p6
        push_cast [eq_false q5, eq_true q6, hs, hp, hl]
        rfl
      · obtain ⟨j, d2, j0, j1, hd2, hj⟩ := draw_ex d1 ((givenN 0 es : Nat) : Int) hd1 (by omega) (by omega)
        obtain ⟨c, hc⟩ : ∃ c : Nat, 1 + j = (c : Int) := ⟨(1 + j).toNat, by omega⟩
        have hc1 : EvOk (.tr c) := ⟨by omega, by omega⟩
        refine ⟨d2, .tr c, some (.val (.int k)), hd2, h.app hc1 (by show decide _ = true; exact decide_eq_true ⟨by omega, by omega⟩) ht, ?_⟩
        unfold m_law_events_1
        refine seq_nx p2 ?_
        rw [p8, givenN_app, ← evL_app]
        have hs : strF (.int ((c : Nat) : Int)) = some (.str (wTxt ((c : Nat) : Int))) := strF_win (by omega) (by omega)
        have hp : plusF (.str "try ") (.str (wTxt ((c : Nat) : Int))) = some (.str (trS c)) := plusF_s (by
          have := (win_ok (w := ((c : Nat) : Int)) (by omega) (by omega)).1.len
          have e3 : ("try " : Str).length = 4 := by decide +kernel
          have : SB = 90000 := rfl
          omega)
        unfold m_law_events_p7 m_law_events_p6
        push_cast [eq_false q5, eq_false q6, hj, hc, hs, hp, hl]
        rfl
theorem events_loop {x1 : Option W} {most : Nat} (hm : most ≤ 60) (hm1 : 1 ≤ most) : ∀ {n : Nat} {d : Dl} {es : List Evt} {k : Nat} {x5 x6 : Option W}, d.1.length ≤ 1000 → Evs most es → es.length + n < 1000 → ∃ (d' : Dl) (fs : List Evt) (y5 y6 : Option W), d'.1.length ≤ 1000 ∧ Evs most (es ++ fs) ∧ fs.length = n ∧
    loopR (hName 5) m_law_events_1 none ((List.range' k n).map fun (j : Nat) => D.int (0 + (j : Int))) [some (.loc 1), x1, some (.val (.int (most : Nat))), some (.loc 2), some (.val (.int (givenN 0 es : Nat))), x5, x6] (MO.lst (List.map D.int (Prod.fst d)) :: MO.lsW [W.loc 0, W.val (D.int (Prod.snd d))] :: ([.lst (evL es)])) = some (.nx [some (.loc 1), x1, some (.val (.int (most : Nat))), some (.loc 2), some (.val (.int (givenN 0 (es ++ fs) : Nat))), y5, y6] (MO.lst (List.map D.int (Prod.fst d')) :: MO.lsW [W.loc 0, W.val (D.int (Prod.snd d'))] :: ([.lst (evL (es ++ fs))])))
  | 0, d, es, k, x5, x6, hd, h, hz => ⟨d, [], x5, x6, hd, by rw [List.append_nil]; exact h, rfl, by rw [List.append_nil]; rfl⟩
  | n + 1, d, es, k, x5, x6, hd, h, hz => by
    obtain ⟨d1, e, y6, hd1, h1, hs⟩ := events_step (x1 := x1) (x5 := some (.val (D.int (0 + (k : Int))))) (x6 := x6) hm hm1 hd h (by omega)
    obtain ⟨d2, fs, z5, z6, hd2, h2, hl, hr⟩ := events_loop hm hm1 (n := n) (d := d1) (es := es ++ [e]) (k := k + 1) (x5 := some (.val (D.int (0 + (k : Int))))) (x6 := y6) hd1 h1 (by rw [List.length_append, List.length_singleton]; omega)
    refine ⟨d2, e :: fs, z5, z6, hd2, ?_, by rw [List.length_cons, hl], ?_⟩
    · rw [List.append_assoc] at h2
      exact h2
    · rw [List.range'_succ, List.map_cons, loop_cons]
      simp only [name_set, Option.bind_some, List.set_cons_succ, List.set_cons_zero]
      rw [hs]
      simp only [Option.bind_some, standB, if_true]
      rw [List.append_assoc] at hr
      exact hr
theorem events_ex (d : Dl) (many : Nat) (most : Nat) (hd : d.1.length ≤ 1000) (hm : most ≤ 60) (hm1 : 1 ≤ most) (hn : many < 900) : ∃ (d' : Dl) (es : List Evt), d'.1.length ≤ 1000 ∧ Evs most es ∧ es.length = many ∧ ∀ t, callX f_law_events [.loc 1, .val (.int (many : Nat)), .val (.int (most : Nat))] (MO.lst (List.map D.int (Prod.fst d)) :: MO.lsW [W.loc 0, W.val (D.int (Prod.snd d))] :: (t)) = some (.val (.lst (evL es)), (MO.lst (List.map D.int (Prod.fst d')) :: MO.lsW [W.loc 0, W.val (D.int (Prod.snd d'))] :: (t))) := by
  obtain ⟨d1, fs, y5, y6, hd1, h1, hl, hr⟩ := events_loop (x1 := some (.val (.int (many : Nat)))) hm hm1 (n := many) (d := d) (es := []) (k := 0) (x5 := none) (x6 := none) hd Evs.nil (by simp; omega)
  rw [List.nil_append] at h1 hr
  refine ⟨d1, fs, hd1, h1, hl, fun t => callX_deal rfl ?_⟩
  have p1 : m_law_events_p1 [some (.loc 1), some (.val (.int (many : Nat))), some (.val (.int (most : Nat))), none, none, none, none] (MO.lst (List.map D.int (Prod.fst d)) :: MO.lsW [W.loc 0, W.val (D.int (Prod.snd d))] :: ([])) = some (.nx [some (.loc 1), some (.val (.int (many : Nat))), some (.val (.int (most : Nat))), some (.loc 2), some (.val (.int (givenN 0 [] : Nat))), none, none] (MO.lst (List.map D.int (Prod.fst d)) :: MO.lsW [W.loc 0, W.val (D.int (Prod.snd d))] :: ([.lst (evL [])]))) := by
    unfold m_law_events_p1
    push_cast [q_lstM]
    rfl
  have p9 : m_law_events_p9 [some (.loc 1), some (.val (.int (many : Nat))), some (.val (.int (most : Nat))), some (.loc 2), some (.val (.int (givenN 0 [] : Nat))), none, none] (MO.lst (List.map D.int (Prod.fst d)) :: MO.lsW [W.loc 0, W.val (D.int (Prod.snd d))] :: ([.lst (evL [])])) = some (.nx [some (.loc 1), some (.val (.int (many : Nat))), some (.val (.int (most : Nat))), some (.loc 2), some (.val (.int (givenN 0 fs : Nat))), y5, y6] (MO.lst (List.map D.int (Prod.fst d1)) :: MO.lsW [W.loc 0, W.val (D.int (Prod.snd d1))] :: ([.lst (evL fs)]))) := by
    unfold m_law_events_p9
    have hr2 : loopR (hName 5) m_law_events_1 none (rangeD 0 ((many : Nat) : Int).toNat) [some (.loc 1), some (.val (.int (many : Nat))), some (.val (.int (most : Nat))), some (.loc 2), some (.val (.int (givenN 0 [] : Nat))), none, none] (MO.lst (List.map D.int (Prod.fst d)) :: MO.lsW [W.loc 0, W.val (D.int (Prod.snd d))] :: ([.lst (evL [])])) = some (.nx [some (.loc 1), some (.val (.int (many : Nat))), some (.val (.int (most : Nat))), some (.loc 2), some (.val (.int (givenN 0 fs : Nat))), y5, y6] (MO.lst (List.map D.int (Prod.fst d1)) :: MO.lsW [W.loc 0, W.val (D.int (Prod.snd d1))] :: ([.lst (evL fs)]))) := by
      unfold rangeD
      rw [Int.toNat_natCast, List.range_eq_range']
      exact hr
    push_cast [rng_ok (k := ((many : Nat) : Int)) (by omega) (by omega), hr2]
  refine body_rt (w := .loc 2) (μ1 := (MO.lst (List.map D.int (Prod.fst d1)) :: MO.lsW [W.loc 0, W.val (D.int (Prod.snd d1))] :: ([.lst (evL fs)]))) rfl ?_ ?_
  · unfold m_law_events
    exact seq_nx p1 (seq_nx p9 rfl)
  · push_cast [eq_self]
end DX
namespace DX
open PySem PySem.Spec L2 DK
def m_law_needs_p1 : RS :=
  mParN [1, 2, 3, 4] (mCons (mC (.int 0)) (mCons (mC (.int 0)) (mCons (mC (.int 0)) (mCons (mC (.bl false)) mNil))))
def m_law_needs_p2 : RS :=
  mAsg (mOp maxF (mUn intF (mVar 3)) (mUn intF (mOp minusF (mVar 1) (mVar 2)))) (hName 3)
def m_law_needs_p3 : RS :=
  mAsg (mOp plusF (mVar 1) (mC (.int 1))) (hName 1)
def m_law_needs_p4 : RS :=
  mAsg (mUn intF2 (mSl (mVar 5) (mPart (mC (.int 4))) mNoPart)) (hName 6)
def m_law_needs_p5 : RS :=
  mAsg (mOrV (mVar 4) (mOp ltF (mVar 6) (mVar 1))) (hName 4)
def m_law_needs_p6 : RS :=
  mAsg (mOp maxF (mVar 2) (mVar 6)) (hName 2)
def m_law_needs_p7 : RS :=
  mIfS (mTest (mOp (eqF true) (mVar 5) (mC (.str "house")))) (mSeq (m_law_needs_p4)
      (mSeq (m_law_needs_p5)
      (m_law_needs_p6))) mNext
def m_law_needs_p8 : RS :=
  mIfS (mTest (mOp (eqF false) (mVar 5) (mC (.str "give")))) (mSeq (m_law_needs_p2)
      (m_law_needs_p3)) (m_law_needs_p7)
def m_law_needs_1 : RS :=
  (m_law_needs_p8)
def m_law_needs_p9 : RS :=
  mFor (kSeq (mVar 0)) (hName 5) m_law_needs_1
def m_law_needs_p10 : RS :=
  mRet (mTup (mCons (mVar 3) (mCons (mVar 4) (mCons (mOp (inF false) (mC (.str "house")) (mVar 0)) mNil))))
def m_law_needs : RS :=
  (mSeq (m_law_needs_p1)
      (mSeq (m_law_needs_p9)
      (m_law_needs_p10)))
def f_law_needs : FX := bodyF true 1 7 m_law_needs
end DX
namespace DX
open PySem PySem.Spec L2 DK
variable {ρ : Env'} {μ : Mu}
section
variable {X : Txt} {T : ToolM}
theorem word_learn {w : Int} {n c : Int} (h : wordM w (c - n) ∈ cc_LEARNING) : n < c := by
  unfold wordM at h
  have hn : ∀ s ∈ (["last", "elder", "same"] : List Str), s ∉ cc_LEARNING := by decide +kernel
  split at h
  · split at h
    · exact absurd h (hn _ (by simp))
    · exact absurd h (hn _ (by simp))
  · split at h
    · split at h
      · exact absurd h (hn _ (by simp))
      · omega
    · omega
theorem rowFor_word {rs : List RowM} {w : Str} {ms : List Str} {p : Nat × RowM} (e : rowForM rs w ms = some p) : p.2.word = w ∧ p.2 ∈ rs := by
  have h1 := List.find?_some e
  unfold fitP at h1
  rw [Bool.and_eq_true, decide_eq_true_eq] at h1
  exact ⟨h1.1, List.mem_of_getElem? (enumR_at (List.mem_of_find?_eq_some e)).2⟩
theorem ansS_n (hT : ToolOk X T) {n c : Int} {ms : List Str} : (ansS T n ms c).n = n ∨ ((ansS T n ms c).n = c ∧ n < c) := by
  unfold ansS
  cases e : rowForM T.rows (wordM T.window (c - n)) (srt ms) with
  | none => exact .inl rfl
  | some p =>
    obtain ⟨hw, hm⟩ := rowFor_word e
    dsimp only
    split
    · rename_i hl
      rcases (hT.ok _ hm).l with q | q
      · rw [q] at hl; cases hl
      · rw [hw] at q
        exact .inr ⟨rfl, word_learn q.1⟩
    · exact .inl rfl
theorem srt_idem' {ms : List Str} : srt (srt ms) = srt ms := srt_uniq (srt_srt _) (srt_srt _) (srt_perm _)
theorem srt_behind {ds ms : List Str} : srt (behindM ds ms) = behindM ds ms := by
  unfold behindM
  exact srt_idem'
theorem ansS_srt {n c : Int} {ms : List Str} : srt (ansS T n ms c).ms = (ansS T n ms c).ms := by
  unfold ansS
  cases rowForM T.rows (wordM T.window (c - n)) (srt ms) with
  | none => exact srt_idem'
  | some p => exact srt_behind
theorem hseS_srt {n c : Int} {ms : List Str} : srt (hseS T n ms c).ms = (hseS T n ms c).ms := by
  unfold hseS
  split
  · exact srt_idem'
  · exact srt_behind
theorem hseS_n {n c : Int} {ms : List Str} : (hseS T n ms c).n = n ∨ ((hseS T n ms c).n = c ∧ n < c) := by
  unfold hseS
  split
  · exact .inl rfl
  · rename_i p e
    dsimp only
    split
    · split at e
      · exact .inr ⟨rfl, ‹_›⟩
      · cases e
    · exact .inl rfl
end
end DX
namespace DX
open PySem PySem.Spec PyProof.Rows L2 DK
variable {K : PySem.W.Frag} [HasW K]
end DX
namespace DX
open PySem PySem.Spec PyProof.Rows L2 DK
variable {K : PySem.W.Frag} [HasW K] {G H : Hp} {as : List Addr} {P : Addr → Prop} {ρ : Env'} {μ : Mu} {σ : L2.St}
def clr (n : Nat) : Option W → Option W
  | some (.loc j) => if j < n then some (.loc j) else none
  | o => o
theorem rl_cut (R : Rl K G H as P ρ μ σ) {n : Nat} (hn : n ≤ μ.length) (hb : ∀ m ∈ μ.take n, MO.below n m = true) : Rl K G H (as.take n) P (ρ.map (clr n)) (μ.take n) σ := by
  have R0 := front R hn hb
  refine ⟨R0.sub, fun a ha => R0.pro a (.inl ha), R0.nd, R0.len, R0.mu, R0.wf, by rw [List.length_map]; exact R.sz, fun i w h => ?_, R0.tb.mono (Same.refl _) R0.tb.1 fun a t0 t1 t2 _ => ⟨fun z => t0 (.inl z), t1, t2, rfl⟩⟩
  rw [List.getElem?_map] at h
  cases e : ρ[i]? with
  | none => rw [e] at h; cases h
  | some o =>
    rw [e] at h
    have h2 : clr n o = some w := Option.some.inj h
    cases o with
    | none => cases h2
    | some w' =>
      cases w' with
      | val d =>
        have : W.val d = w := Option.some.inj h2
        subst this
        exact R.env i _ e
      | loc j =>
        unfold clr at h2
        dsimp only at h2
        split at h2
        · rename_i hj
          have : W.loc j = w := Option.some.inj h2
          subst this
          obtain ⟨v, h3, a, h4, h5⟩ := R.env i _ e
          exact ⟨v, h3, a, by rw [List.getElem?_take_of_lt hj]; exact h4, h5⟩
        · cases h2
def mCut (b : RS) : RS := fun ρ μ => match b ρ μ with
  | some (.nx ρ' μ') => if μ.length ≤ μ'.length ∧ (μ'.take μ.length).all (MO.below μ.length) = true then some (.nx (ρ'.map (clr μ.length)) (μ'.take μ.length)) else some (.nx ρ' μ')
  | o => o
theorem sn_cut {ts : TS} {b : RS} (hb : SnS K ts b) : SnS K ts (mCut b) := fun ρ μ o h => by
  unfold mCut at h
  split at h
  · rename_i ρ' μ' e
    split at h
    · rename_i hc
      cases h
      intro P as σ G H R E q
      refine hb _ _ _ e P as σ G H R E fun as' σ' G' H' n' R' => ?_
      have R2 := rl_cut R' hc.1 (List.all_eq_true.mp hc.2)
      obtain ⟨t, et⟩ := n'.pre
      have ea : as'.take μ.length = as := by rw [et, ← R.len, List.take_left]
      rw [ea] at R2
      exact q as σ' G' H' ⟨⟨[], by simp⟩, n'.gr, n'.kp⟩ R2
    · cases h
      exact hb _ _ _ e
  · exact hb _ _ _ h
end DX
namespace DX
open PySem PySem.Spec L2 DK
local macro_rules
  | `(tactic| push_cast [$ts,*]) => `(tactic| simp only [q_seq, q_ifS, q_if, q_and, q_or, q_not, q_andV, q_orV, q_notV, q_test, q_op, q_un, q_asg, q_ret, q_drop, q_cons, q_dat, q_dat1, q_tup, q_lst, q_call, q_meth, q_for, q_lc, q_seqI, q_sl, q_var, q_c, q_nil, q_next, q_cont, q_break, q_retN, q_yes, q_noPart, q_partB, q_isN, q_ixB, q_fld, q_enum, q_par, q_body, varW_some, view_val, view_loc, viewM_lst, viewM_frz, isBl_bl, partW_int, name_set, ixW_val, ixF_l, ixF_t, fld_row_word, fld_row_tests, fld_row_deeds, fld_row_opens, fld_tool_window, fld_tool_rows, fld_tool_marks, recv_row, recv_tool, bodyE_rt, bodyE_nx, exit_any, exit_dst, negF_int, plusF_int, minusF_int, ltF_int, leF_int, gtF_int, geF_int, eqF_int, eqF_str, eqF_bl, intF_int, maxF_int, minF_int, lenF_l, lenF_t, lenF_s, tupF_l, tupF_t, lstF_l, lstF_t, strF_s, seqOf_t, seqOf_l, guard_val, guard_loc, isNW_val, isNW_loc, enumW_1, parW_2, tup_set, cons_set, nil_set, frzL_nil, frzL_cons, frz1_val, frz1_loc, frzM_lst, frzM_frz, ofS, ite_bind, Option.bind_some, then_nx, then_rt, then_ct, then_bk, start, List.length_cons, List.length_nil, List.map_cons, List.map_nil, List.replicate, List.cons_append, List.nil_append, List.append_nil, List.getElem?_cons_succ, List.getElem?_cons_zero, List.set_cons_succ, List.set_cons_zero, Nat.sub_self, Nat.reduceSub, Nat.reduceAdd, Nat.reduceEqDiff, if_true, if_false, reduceIte, decide_eq_true_eq, decide_true, decide_false, Bool.false_xor, Bool.true_xor, Nat.zero_add, eq_self, String.reduceEq, Bool.false_eq_true, wipeE, List.foldl_cons, List.foldl_nil, Bool.not_true, Bool.not_false, inF_strsT, inF_strsL, q_fldS, q_make, isNon_int, isNon_non, isNon_bl, isNon_str, isNon_tup, isNon_lst, q_lcM, q_setI, q_addM, addW_val, seqOf_loc, seqM_lst, seqM_frz, ixW_loc, ixM_lsW, ixM_lst, ixM_frz, setIW_loc, setIM_lst, exit_val, exit_loc, exitV_if, List.take_succ_cons, List.take_zero, List.take_nil, List.all_cons, List.all_nil, Bool.and_true, Bool.true_and, Bool.and_self, Nat.reduceLT, Nat.reduceLeDiff, Nat.zero_le, Nat.lt_add_one, exitM_lst, exitM_frz, below_lst, below_frz, below_dK, below_scr, below_lsW, below_ins, below_dW, wbelow_val, wbelow_loc, q_append, appA_loc, appW_1, appM_lst, q_lstOfM, lstM_lst, q_lstM, q_rng1, standB_none, standB_some, standM_lst, standM_frz, q_join, joinA_str, q_joined, q_jNil, q_jCons, jW_str, q_star, q_own1, ownW_val, okStr_str, isIns_row, isIns_tool, q_kget, kgetW_str, q_indexC, indexW_lst, q_makeL, mkL_cls, q_cmeth, cmW_cls, q_star1, star1W_cons, q_chain, chainW_bl, chainE_bl, q_eqOwn, fmtF_s, and_self, q_aug, augM_int, q_parN, setAll_cons, setAll_nil, q_never, intF_bl, q_extend, extA_loc, extW_1, extD_lst, extM_lst, q_asgT, uTup_tup, uCons_cons, uNil_nil, uName_eq, uFld_eq, ufW_loc, ufM_ins, fldSW_loc, fldSM_ins, fldW_loc, fldM_ins, look_cons, putW_nil, putW_cons, $ts,*])
variable {ρ : Env'} {μ : Mu}
def isTry : Evt → Bool
  | .tr _ => true
  | _ => false
def cutB (c : Nat) : Bool := decide (cutS (trS c) none (some 3) = "try") && (match intF2 (.str (cutS (trS c) (some 4) none)) with
  | some (.int k) => decide (k = (c : Int))
  | _ => false)
theorem cut_all : ((List.range 64).all fun k => cutB (k + 1)) = true := by kernel_rfl
theorem cut_card {c : Nat} (h : EvOk (.tr c)) : cutS (trS c) none (some 3) = "try" ∧ intF2 (.str (cutS (trS c) (some 4) none)) = some (.int (c : Nat)) := by
  have hc : cutB (c - 1 + 1) = true := List.all_eq_true.mp cut_all (c - 1) (List.mem_range.mpr (by have := h.2; omega))
  rw [show c - 1 + 1 = c by have := h.1; omega] at hc
  unfold cutB at hc
  rw [Bool.and_eq_true, decide_eq_true_eq] at hc
  refine ⟨hc.1, ?_⟩
  have h2 := hc.2
  split at h2
  · rename_i k e
    rw [e, of_decide_eq_true h2]
  · cases h2
structure Beg (X : Txt) (T : ToolM) (es : List Evt) : Prop where
  n : (playS T es).s.n ≤ (playS T es).s.top
  top : (playS T es).s.top = (givenN 0 es : Nat)
  srt : srt (playS T es).s.ms = (playS T es).s.ms
  op : (playS T es).op.length = (es.filter isTry).length
  dn : (playS T es).dn.length = es.length
theorem tryC_n {T : ToolM} {s : Crs} {k : Int} : (tryC T s k).n = (ansS T s.n s.ms k).n ∧ (tryC T s k).ms = (ansS T s.n s.ms k).ms ∧ (tryC T s k).top = s.top := by
  unfold tryC
  split <;> exact ⟨rfl, rfl, rfl⟩
theorem pos_take {es : List Evt} {i : Nat} (h : posAll 0 es = true) : posAll 0 (es.take i) = true := by
  have : ∀ {es : List Evt} {i m : Nat}, posAll m es = true → posAll m (es.take i) = true := fun {es} => by
    induction es with
    | nil => intro i m h; simpa using h
    | cons e es ih =>
      intro i m h
      cases i with
      | zero => rfl
      | succ i =>
        rw [posAll, Bool.and_eq_true] at h
        rw [List.take_succ_cons, posAll, h.1, ih h.2]
        rfl
  exact this h
theorem fld_events {es : List Evt} : fldW "Story" "events" μ (.val (storyD es)) = some (.val (.tup (evL es)), μ) := by kernel_rfl
theorem slF_tp {lo hi : Option Int} {xs : List D} : slF lo hi (.tup xs) = some (.tup (DK.cutD xs lo hi)) := rfl
theorem e_upto {es : List Evt} {i : Nat} (ho : ∀ e ∈ es, EvOk e) (hp : posAll 0 es = true) (hz : es.length < 150) : callX f_Story_upto [.val (storyD es), .val (.int (i : Nat))] μ = some (.val (storyD (es.take i)), μ) := by
  refine callX_pure rfl ?_
  have hs := fun μ => e_Story (μ := μ) (m := .tup ((evL es).take i)) (es := es.take i) (by show some ((evL es).take i) = _; unfold evL; rw [List.map_take]) (fun e he => ho e (List.mem_of_mem_take he)) (pos_take hp) (by rw [List.length_take]; omega)
  unfold f_Story_upto m_Story_upto
  push_cast [fld_events, slF_tp, cut_take, hs]
theorem sh_row {r : Option Nat} (h : ∀ k, r = some k → k < 1000) : Sh 8 1 (rowD r) := by
  cases r with
  | none => exact sh_non.mono (by omega) (by omega)
  | some k => exact sh_int (by have := h k rfl; omega)
theorem e_slen {es : List Evt} : callX f_Story_len [.val (storyD es)] μ = some (.val (.int (es.length : Nat)), μ) := by
  refine callX_pure rfl ?_
  unfold f_Story_len m_Story_len
  push_cast [fld_events, evL, List.length_map]
theorem cut_nx {b : RS} {ρ' : Env'} {μ' : Mu} (h : b ρ μ = some (.nx ρ' μ')) (hl : μ.length ≤ μ'.length) (hb : (μ'.take μ.length).all (MO.below μ.length) = true) : mCut b ρ μ = some (.nx (ρ'.map (clr μ.length)) (μ'.take μ.length)) := by
  unfold mCut
  rw [h]
  dsimp only
  rw [if_pos ⟨hl, hb⟩]
theorem cut_ct {b : RS} {ρ' : Env'} {μ' : Mu} (h : b ρ μ = some (.ct ρ' μ')) : mCut b ρ μ = some (.ct ρ' μ') := by
  unfold mCut
  rw [h]
end DX
namespace DX
open PySem PySem.Spec PyProof.Rows L2 DK
variable {K : PySem.W.Frag} [HasW K]
def replR {α : Type} (s : Str) (w : α) (r : List (Str × α)) : List (Str × α) := r.map fun p => if p.1 = s then (p.1, w) else p
def putR {α : Type} (s : Str) (w : α) : List (Str × α) → List (Str × α)
  | [] => [(s, w)]
  | (g, x) :: r => if g = s then (g, w) :: replR s w r else (g, x) :: putR s w r
section
variable {G : Hp} {as : List Addr}
theorem replR_kS {s : Str} {v : V} : ∀ {vs : List (Str × V)}, (replR s v vs).map kS = (vs.map kS).map fun kv => if kv.1 = (.inr s : Key) then (kv.1, v) else kv
  | [] => rfl
  | (g, x) :: r => by
    have ih := replR_kS (s := s) (v := v) (vs := r)
    unfold replR at ih ⊢
    rw [List.map_cons, List.map_cons, List.map_cons, List.map_cons, ih]
    congr 1
    by_cases q : g = s
    · rw [if_pos q, if_pos (show (kS (g, x)).1 = .inr s by rw [← q]; rfl)]
      rfl
    · rw [if_neg q, if_neg (show ¬ (kS (g, x)).1 = .inr s from fun z => q (by cases z; rfl))]
theorem putR_kS {s : Str} {v : V} : ∀ {vs : List (Str × V)}, (putR s v vs).map kS = putK (vs.map kS) (.inr s) v
  | [] => rfl
  | (g, x) :: r => by
    have ih := putR_kS (s := s) (v := v) (vs := r)
    rw [putR]
    by_cases q : g = s
    · have q' : (kS (g, x)).1 = .inr s := by rw [← q]; rfl
      rw [if_pos q, List.map_cons, List.map_cons, replR_kS]
      unfold putK
      rw [if_pos (by rw [List.any_cons, decide_eq_true q']; rfl), List.map_cons, if_pos q']
      rfl
    · have q' : ¬ (kS (g, x)).1 = .inr s := fun z => q (by cases z; rfl)
      rw [if_neg q, List.map_cons, List.map_cons, ih]
      unfold putK
      rw [List.any_cons, decide_eq_false q', Bool.false_or]
      split
      · rw [List.map_cons, if_neg q']
      · rfl
theorem replR_rep {s : Str} {w : W} {v : V} (hw : RepW K G as w v) : ∀ {fs : List (Str × W)} {vs : List (Str × V)}, RepFs K G as fs vs → RepFs K G as (replR s w fs) (replR s v vs)
  | [], _, h => by rw [show _ = [] from h]; exact rfl
  | (g, x) :: r, _, ⟨u, t, e, h1, h2⟩ => by
    subst e
    have ih := replR_rep (s := s) hw h2
    unfold replR at ih ⊢
    rw [List.map_cons, List.map_cons]
    by_cases q : g = s
    · rw [if_pos q, if_pos q]
      exact ⟨v, _, rfl, hw, ih⟩
    · rw [if_neg q, if_neg q]
      exact ⟨u, _, rfl, h1, ih⟩
theorem putR_rep {s : Str} {w : W} {v : V} (hw : RepW K G as w v) : ∀ {fs : List (Str × W)} {vs : List (Str × V)}, RepFs K G as fs vs → RepFs K G as (putR s w fs) (putR s v vs)
  | [], _, h => by rw [show _ = [] from h]; exact ⟨v, [], rfl, hw, rfl⟩
  | (g, x) :: r, _, ⟨u, t, e, h1, h2⟩ => by
    subst e
    rw [putR, putR]
    by_cases q : g = s
    · rw [if_pos q, if_pos q]
      exact ⟨v, _, rfl, hw, replR_rep hw h2⟩
    · rw [if_neg q, if_neg q]
      exact ⟨u, _, rfl, h1, putR_rep hw h2⟩
end
theorem putR_below {n : Nat} {s : Str} {w : W} (hw : w.below n = true) : ∀ {fs : List (Str × W)}, (fs.all fun p => p.2.below n) = true → ((putR s w fs).all fun p => p.2.below n) = true
  | [], _ => by simp [putR, hw]
  | (g, x) :: r, h => by
    rw [List.all_cons, Bool.and_eq_true] at h
    rw [putR]
    split
    · rw [List.all_cons, Bool.and_eq_true]
      refine ⟨hw, ?_⟩
      unfold replR
      rw [List.all_map, List.all_eq_true]
      intro p hp
      show W.below n (if p.1 = s then (p.1, w) else p).2 = true
      split
      · exact hw
      · exact List.all_eq_true.mp h.2 p hp
    · rw [List.all_cons, Bool.and_eq_true]
      exact ⟨h.1, putR_below hw h.2⟩
theorem Rl.own {G H : Hp} {as : List Addr} {P : Addr → Prop} {ρ : Env'} {μ : Mu} {σ : L2.St} {p : Addr} {m : MO} (R : Rl K G H as (fun a => P a ∨ a = p) ρ μ σ) (np : ∀ a, P a → a ≠ p) (hm : MOk K G H (as ++ [p]) p m) (hb : m.below (μ.length + 1) = true) : Rl K G H (as ++ [p]) P ρ (μ ++ [m]) σ := by
  have pa : p ∉ as := (R.pro p (.inr rfl)).2.2
  have Rw := R.weak (P := P) fun a ha => .inl ha
  refine ⟨Rw.sub, fun a ha => ?_, List.nodup_append.mpr ⟨Rw.nd, by simp, fun x hx y hy => ?_⟩, by simp [Rw.len], fun j x m' h1 h2 => ?_, fun m' hm' => ?_, Rw.sz, fun k w hk => ?_, R.tb.mono (Same.refl _) R.tb.1 fun a t0 t1 t2 _ => ⟨fun z => t0 (.inl z), t1, fun z => (List.mem_append.mp z).elim t2 fun z => t0 (.inr (by simpa using z)), rfl⟩⟩
  · obtain ⟨h1, h2, h3⟩ := Rw.pro a ha
    refine ⟨h1, h2, fun z => ?_⟩
    rcases List.mem_append.mp z with z | z
    · exact h3 z
    · exact np a ha (by simpa using z)
  · have : y = p := by simpa using hy
    subst this
    exact fun z => pa (z ▸ hx)
  · by_cases c : j < as.length
    · rw [List.getElem?_append_left c] at h1
      rw [List.getElem?_append_left (Rw.len ▸ c)] at h2
      exact (Rw.mu j x m' h1 h2).mono (Same.refl _) id rfl ⟨[p], rfl⟩
    · have hj : j = as.length := by
        have := (List.getElem?_eq_some_iff.mp h1).1
        simp at this
        omega
      subst hj
      rw [List.getElem?_append_right (Nat.le_refl _)] at h1
      rw [List.getElem?_append_right (by rw [Rw.len]; exact Nat.le_refl _)] at h2
      simp at h1
      rw [Rw.len] at h2
      simp at h2
      subst h1 h2
      exact hm
  · rw [List.length_append, List.length_singleton]
    rcases List.mem_append.mp hm' with z | z
    · exact below_mono (Nat.le_succ _) (Rw.wf m' z)
    · have : m' = m := by simpa using z
      subst this
      exact hb
  · obtain ⟨v, h1, h2⟩ := Rw.env k w hk
    exact ⟨v, h1, h2.mono (Same.refl _) ⟨[p], rfl⟩⟩
def SnPs (K : PySem.W.Frag) [HasW K] (trs : List (TE × TE)) (ks : List Str) (r : RA) : Prop := ∀ ρ μ ws μ', r ρ μ = some (ws, μ') → ws.length = ks.length ∧ ∀ (P : Addr → Prop) (as : List Addr) (σ : L2.St) (G H : Hp), Rl K G H as P ρ μ σ → ∀ Q : List (V × V) → Hp → Prop,
  (∀ vs as' G' H', Nx P as G H as' G' H' → Rl K G' H' as' P ρ μ' σ → RepWs K G' as' ws vs → Q ((ks.zip vs).map fun p => (V.str p.1, p.2)) H') → tPairs trs σ H Q
theorem sn_pnil : SnPs K [] [] mNil := fun ρ μ ws μ' h => by
  cases h
  exact ⟨rfl, fun P as σ G H R Q q => q [] as G H .refl R rfl⟩
theorem sn_pcons {k : Str} {tv : TE} {trs : List (TE × TE)} {ks : List Str} {a : RE} {r : RA} (ha : SnE K tv a) (hr : SnPs K trs ks r) : SnPs K ((tC (.str k), tv) :: trs) (k :: ks) (mCons a r) := fun ρ μ ws μ' h => by
  unfold mCons at h
  split at h
  · rename_i w μ1 e1
    split at h
    · rename_i ws' μ2 e2
      cases h
      obtain ⟨hl, h2⟩ := hr _ _ _ _ e2
      refine ⟨by rw [List.length_cons, List.length_cons, hl], fun P as σ G H R Q q => ?_⟩
      exact ha _ _ _ _ e1 P as σ G H R _ fun v as1 G1 H1 n1 R1 r1 => h2 P as1 σ G1 H1 R1 _ fun vs as2 G2 H2 n2 R2 r2 => q (v :: vs) as2 G2 H2 (n1.trans n2) R2 ⟨v, vs, rfl, r1.mono n2.gr n2.pre, r2⟩
    · cases h
  · cases h
theorem merge_new : ∀ {more kvs : List (Key × V)}, ((kvs ++ more).map (·.1)).Nodup → mergeK kvs more = kvs ++ more
  | [], kvs, _ => by rw [List.append_nil]; rfl
  | p :: r, kvs, h => by
    have hn : valV kvs p.1 = none := by
      cases e : valV kvs p.1 with
      | none => rfl
      | some v =>
        exfalso
        unfold valV at e
        rw [Option.map_eq_some_iff] at e
        obtain ⟨q, hq, _⟩ := e
        have h1 := List.mem_of_find?_eq_some hq
        have h2 : q.1 = p.1 := by
          have := List.find?_some hq
          simpa using this
        rw [List.map_append, List.nodup_append] at h
        exact h.2.2 q.1 (List.mem_map.mpr ⟨q, h1, rfl⟩) p.1 (by simp) h2
    show mergeK (putK kvs p.1 p.2) r = _
    rw [putK_new p.2 hn, merge_new (by rw [List.append_assoc]; exact h), List.append_assoc]
    rfl
theorem zip_repF {G : Hp} {as : List Addr} : ∀ {ks : List Str} {ws : List W} {vs : List V}, RepWs K G as ws vs → ws.length = ks.length → RepFs K G as (ks.zip ws) (ks.zip vs)
  | [], [], _, h, _ => by rw [show _ = [] from h]; exact rfl
  | k :: ks, w :: ws, _, ⟨v, r, e, h1, h2⟩, hl => by
    subst e
    exact ⟨v, _, rfl, h1, zip_repF h2 (by simpa using hl)⟩
  | [], _ :: _, _, _, hl => by simp at hl
  | _ :: _, [], _, _, hl => by simp at hl
def mDispW (ks : List Str) (r : RA) : RE := fun ρ μ => match r ρ μ with
  | some (ws, μ1) => if (decide (ks.length ≤ 15) && decide ks.Nodup && ws.all (fun w => w.below μ1.length)) = true then some (.loc μ1.length, μ1 ++ [.dW (ks.zip ws)]) else none
  | none => none
theorem sn_dispW {trs : List (TE × TE)} {ks : List Str} {r : RA} (hr : SnPs K trs ks r) : SnE K (tDisp trs) (mDispW ks r) := fun ρ μ w μ' h => by
  unfold mDispW at h
  split at h
  · rename_i ws μ1 e1
    split at h
    · rename_i hc
      cases h
      rw [Bool.and_eq_true, Bool.and_eq_true, decide_eq_true_eq, decide_eq_true_eq] at hc
      obtain ⟨⟨h15, hnd⟩, hbl⟩ := hc
      obtain ⟨hl, h2⟩ := hr _ _ _ _ e1
      exact fun P as σ G H R Q q p hp => by
        have gp : G p = none := R.sub.free hp
        have np : ∀ a, P a → a ≠ p := fun a ha z => (R.pro a ha).2.1 (by rw [z]; exact hp)
        have pas : p ∉ as := fun z => R.here z hp
        have R1 := (R.junk hp (.dK [])).1.guard gp (by rw [upd_same]; simp) pas (R.tb.ne hp)
        refine h2 _ as σ G _ R1 _ fun vs as' G' H' n' R' rw' => ?_
        have hH : H' p = some (.dK []) := (n'.kp p (.inr rfl)).trans upd_same
        have hvl : vs.length = ws.length := rw'.length
        refine ⟨hH, (ks.zip vs).map kS, ?_, ?_, ?_⟩
        · rw [List.map_map]
          rfl
        · rw [List.length_map, List.length_zip]
          omega
        · have hk : ((([] : List (Key × V)) ++ (ks.zip vs).map kS).map (·.1)).Nodup := by
            rw [List.nil_append, List.map_map]
            have e : (ks.zip vs).map ((·.1) ∘ kS) = ks.map (fun s => (.inr s : Key)) := by
              have : (ks.zip vs).map ((·.1) ∘ kS) = ((ks.zip vs).map (·.1)).map (fun s => (.inr s : Key)) := by rw [List.map_map]; rfl
              rw [this, List.map_fst_zip (by omega)]
            rw [e]
            exact hnd.map _ fun a b hab z => hab (by cases z; rfl)
          rw [merge_new hk, List.nil_append]
          have R2 := R'.touch (p := p) (.inr rfl) (.dK ((ks.zip vs).map kS))
          have g' : G' p = none := (R'.pro p (.inr rfl)).1
          have R3 := Rl.own R2 np (m := .dW (ks.zip ws)) ⟨g', by rw [List.length_zip]; omega, ks.zip vs, upd_same, zip_repF (RepWs.mono (Same.refl _) ⟨[p], rfl⟩ rw') hl⟩ (by
            show ((ks.zip ws).all fun x => x.2.below (μ1.length + 1)) = true
            rw [List.all_eq_true]
            intro x hx
            have := List.all_eq_true.mp hbl x.2 (List.of_mem_zip hx).2
            cases hx2 : x.2 with
            | val d => rfl
            | loc j =>
              rw [hx2] at this
              exact decide_eq_true (Nat.lt_succ_of_lt (of_decide_eq_true this)))
          refine q _ (as' ++ [p]) G' _ ⟨?_, n'.gr, fun a ha => ?_⟩ R3 ⟨p, ?_, rfl⟩
          · obtain ⟨t, et⟩ := n'.pre
            exact ⟨t ++ [p], by rw [et, List.append_assoc]⟩
          · rw [upd_ne (np a ha), n'.kp a (.inl ha), upd_ne (np a ha)]
          · rw [← R'.len, List.getElem?_append_right (Nat.le_refl _)]
            simp
    · cases h
  · cases h
section
variable {K : PySem.W.Frag} [HasW K]
end
end DX
namespace DX
open PySem PySem.Spec PyProof.Rows L2 DK
section
variable {prog : Program} {w : World} {A : Around} {E : Value → Shared → Prop} {s : Shared} {K : PySem.W.Frag} [HasW K] {x C f L : Addr} {ox : Obj} {od : Option Obj} {b tb : Value} {h₀ : Heap} {m : Str → Option Value}
end
section
variable {X : Cx} {C g : Addr} {n : Nat} {sp : Sp} {fd : FuncData} {ps : List Str}
end
section
variable {X : Cx} {C g : Addr} {n : Nat} {sp : Sp} {fd : FuncData} {ps : List Str} {a b : Expr} {ta tb : TE} {pos : Pos}
end
section
variable {K : PySem.W.Frag} [HasW K]
variable {ρ : Env'} {μ : Mu}
end
end DX
namespace DX
open PySem PySem.Spec L2 DK
end DX
namespace DX
open PySem PySem.Spec L2 DK
end DX
namespace DK
open PySem PySem.Spec PyProof.Rows L2
section
variable {K : PySem.W.Frag} [HasW K] {ta tb : TE} {ρ : Env'} {μ μ1 : Mu}
end
end DK
namespace DX
open PySem PySem.Spec L2 DK
section
variable {K : PySem.W.Frag} [HasW K] {ρ : Env'} {μ : Mu}
end
end DX
namespace DX
open PySem PySem.Spec L2 DK
end DX
namespace DX
open PySem PySem.Spec L2 DK
theorem Good.x {rows : List RowM} {w : Int} (h : Good 9 rows) (hw : 1 ≤ w) (hw2 : w ≤ 20) : ToolX XT ⟨w, rows⟩ := ⟨(h.mono (by omega)).tool hw, by show w ≤ 64; omega, fun r hr => ⟨(h.rw r hr).ok, Nat.le_succ_of_le (h.rw r hr).t2, (h.rw r hr).d3⟩, by have := h.le; show rows.length ≤ 20; omega⟩
end DX
namespace DX
open PySem PySem.Spec L2 DK
def renT (nm s : Str) : Str := if s = "marked k" then "marked " ++ nm else "not marked " ++ nm
def renD (nm s : Str) : Str := if s = "learn" then "learn" else if s = "mark k" then "mark " ++ nm else "clear " ++ nm
def renR (nm : Str) (r : RowM) : RowM := ⟨r.word, r.tests.map (renT nm), r.deeds.map (renD nm), r.opens⟩
def renX (nm : Str) : Txt := ⟨["marked " ++ nm, "not marked " ++ nm], ["learn", "mark " ++ nm, "clear " ++ nm]⟩
def ren2 (nm : Str) : List (List Str × List Str) := [([], []), (["k"], [nm])]
def renB (nm : Str) : Bool := (renX nm).okB && ((renX nm).ds.all fun s => deedOk s) && ((renX nm).ts.all fun s => hasSp s) && (ren2 nm).all fun p => decide (srt p.1 = p.1) && decide (srt p.2 = p.2) && (XT.ts.all fun t => decide (fits1 p.2 (renT nm t) = fits1 p.1 t)) && (XT.ds.all fun d => decide ((deedM p.1 d, deedM p.2 (renD nm d)) ∈ ren2 nm) && decide (hasSp (renD nm d) = hasSp d) && (!hasSp d || (decide (lst (wds (renD nm d)) = nm) && decide (lst (wds d) = "k")))) && (XT.ts.all fun t => decide (hasSp (renT nm t) = hasSp t) && decide (lst (wds (renT nm t)) = nm) && decide (lst (wds t) = "k")) && decide ((p.1.foldl addK [], p.2.foldl addK []) = p)
def RenM (nm : Str) (a b : List Str) : Prop := (a, b) ∈ ren2 nm
structure RenOk (nm : Str) : Prop where
  b : renB nm = true
section
variable {nm : Str} {a b : List Str}
theorem RenOk.at (h : RenOk nm) (m : RenM nm a b) : srt a = a ∧ srt b = b ∧ (∀ t ∈ XT.ts, fits1 b (renT nm t) = fits1 a t) ∧ (∀ d ∈ XT.ds, RenM nm (deedM a d) (deedM b (renD nm d))) ∧ a.foldl addK [] = a ∧ b.foldl addK [] = b := by
  have h1 := h.b
  unfold renB at h1
  rw [Bool.and_eq_true] at h1
  have h2 := List.all_eq_true.mp h1.2 (a, b) m
  simp only [Bool.and_eq_true, decide_eq_true_eq, List.all_eq_true] at h2
  obtain ⟨⟨⟨⟨⟨e1, e2⟩, e3⟩, e4⟩, e5⟩, e6⟩ := h2
  have e7 := Prod.mk.inj e6
  exact ⟨e1, e2, e3, fun d hd => (e4 d hd).1.1, e7.1, e7.2⟩
theorem RenOk.fits (h : RenOk nm) (m : RenM nm a b) {ts : List Str} (ht : ∀ t ∈ ts, t ∈ XT.ts) : fitsM (ts.map (renT nm)) b = fitsM ts a := by
  unfold fitsM
  congr 1
  rw [List.any_map]
  have h3 := (h.at m).2.2.1
  induction ts with
  | nil => rfl
  | cons t ts ih =>
    rw [List.any_cons, List.any_cons, ih fun x hx => ht x (List.mem_cons_of_mem _ hx)]
    show (fits1 b (renT nm t) || _) = _
    rw [h3 t (ht t (by simp))]
theorem RenOk.deeds (h : RenOk nm) : ∀ {ds a b : List Str}, RenM nm a b → (∀ d ∈ ds, d ∈ XT.ds) → RenM nm (ds.foldl deedM a) ((ds.map (renD nm)).foldl deedM b)
  | [], _, _, m, _ => m
  | d :: ds, a, b, m, hd => RenOk.deeds (ds := ds) h ((h.at m).2.2.2.1 d (hd d (by simp))) fun x hx => hd x (List.mem_cons_of_mem _ hx)
theorem RenOk.behind (h : RenOk nm) (m : RenM nm a b) {ds : List Str} (hd : ∀ d ∈ ds, d ∈ XT.ds) : RenM nm (behindM ds a) (behindM (ds.map (renD nm)) b) := by
  obtain ⟨-, -, -, -, e5, e6⟩ := h.at m
  have m2 := h.deeds m hd
  obtain ⟨e1, e2, -⟩ := h.at m2
  unfold behindM
  rw [e5, e6, e1, e2]
  exact m2
theorem enumR_map {f : RowM → RowM} : ∀ {n : Nat} {rs : List RowM}, enumR n (rs.map f) = (enumR n rs).map fun p => (p.1, f p.2)
  | _, [] => rfl
  | n, x :: xs => by rw [List.map_cons, enumR, enumR, List.map_cons, enumR_map]
theorem find_map {α β : Type} {f : α → β} {p : β → Bool} {q : α → Bool} : ∀ {l : List α}, (∀ x ∈ l, p (f x) = q x) → (l.map f).find? p = (l.find? q).map f
  | [], _ => rfl
  | x :: l, h => by
    rw [List.map_cons, List.find?_cons, List.find?_cons, h x (by simp)]
    cases q x with
    | true => rfl
    | false => exact find_map fun y hy => h y (List.mem_cons_of_mem _ hy)
theorem enumR_mem {rs : List RowM} {p : Nat × RowM} {n : Nat} (h : p ∈ enumR n rs) : p.2 ∈ rs := List.mem_of_getElem? (enumR_at h).2
theorem RenOk.rowFor (h : RenOk nm) (m : RenM nm a b) {rows : List RowM} (hr : ∀ r ∈ rows, RW r) {w : Str} : rowForM (rows.map (renR nm)) w b = (rowForM rows w a).map fun p => (p.1, renR nm p.2) := by
  unfold rowForM
  rw [enumR_map]
  refine find_map fun p hp => ?_
  unfold fitP
  show (decide (p.2.word = w) && fitsM (p.2.tests.map (renT nm)) b) = _
  rw [h.fits m (hr p.2 (enumR_mem hp)).ok.ts]
theorem learn_ren {d : Str} (hd : d ∈ XT.ds) (h : RenOk nm) : (renD nm d = "learn") ↔ d = "learn" := by
  have h1 := h.b
  unfold renB at h1
  rw [Bool.and_eq_true] at h1
  have h2 := List.all_eq_true.mp h1.2 ([], []) (by simp [ren2])
  simp only [Bool.and_eq_true, decide_eq_true_eq, List.all_eq_true] at h2
  have h3 := (h2.1.1.2 d hd).1.2
  constructor
  · intro e
    rw [e] at h3
    have h4 : hasSp "learn" = false := by decide +kernel
    rw [h4] at h3
    simp only [XT, List.mem_cons, List.not_mem_nil, or_false] at hd
    rcases hd with rfl | rfl | rfl
    · rfl
    · exact absurd h3 (by decide +kernel)
    · exact absurd h3 (by decide +kernel)
  · rintro rfl
    exact if_pos rfl
theorem learn_mem (h : RenOk nm) {ds : List Str} (hd : ∀ d ∈ ds, d ∈ XT.ds) : (("learn" : Str) ∈ ds.map (renD nm)) ↔ ("learn" : Str) ∈ ds := by
  constructor
  · intro q
    obtain ⟨d, h1, h2⟩ := List.mem_map.mp q
    rw [(learn_ren (hd d h1) h).mp h2] at h1
    exact h1
  · intro q
    exact List.mem_map.mpr ⟨_, q, if_pos rfl⟩
theorem RenOk.ans (h : RenOk nm) (m : RenM nm a b) {rows : List RowM} {w : Int} (hr : ∀ r ∈ rows, RW r) {n c : Int} : (ansS ⟨w, rows.map (renR nm)⟩ n b c).op = (ansS ⟨w, rows⟩ n a c).op ∧ (ansS ⟨w, rows.map (renR nm)⟩ n b c).n = (ansS ⟨w, rows⟩ n a c).n ∧ (ansS ⟨w, rows.map (renR nm)⟩ n b c).row = (ansS ⟨w, rows⟩ n a c).row ∧ RenM nm (ansS ⟨w, rows⟩ n a c).ms (ansS ⟨w, rows.map (renR nm)⟩ n b c).ms := by
  obtain ⟨e1, e2, -⟩ := h.at m
  unfold ansS
  rw [e1, e2]
  show _
  dsimp only
  rw [h.rowFor m hr]
  cases e : rowForM rows (wordM w (c - n)) a with
  | none => exact ⟨rfl, rfl, rfl, m⟩
  | some p =>
    have hp := hr p.2 (enumR_mem (List.mem_of_find?_eq_some e))
    have hl := learn_mem h hp.ok.ds
    refine ⟨rfl, ?_, rfl, h.behind m hp.ok.ds⟩
    show (if ("learn" : Str) ∈ p.2.deeds.map (renD nm) then c else n) = _
    by_cases q : ("learn" : Str) ∈ p.2.deeds
    · rw [if_pos (hl.mpr q)]; exact (if_pos q).symm
    · rw [if_neg fun z => q (hl.mp z)]; exact (if_neg q).symm
theorem RenOk.hse (h : RenOk nm) (m : RenM nm a b) {rows : List RowM} {w : Int} (hr : ∀ r ∈ rows, RW r) {n c : Int} : (hseS ⟨w, rows.map (renR nm)⟩ n b c).n = (hseS ⟨w, rows⟩ n a c).n ∧ (hseS ⟨w, rows.map (renR nm)⟩ n b c).row = (hseS ⟨w, rows⟩ n a c).row ∧ RenM nm (hseS ⟨w, rows⟩ n a c).ms (hseS ⟨w, rows.map (renR nm)⟩ n b c).ms := by
  obtain ⟨e1, e2, -⟩ := h.at m
  unfold hseS
  rw [e1, e2]
  dsimp only
  rw [h.rowFor m hr]
  by_cases q : n < c
  · rw [if_pos q, if_pos q]
    cases e : rowForM rows "house" a with
    | none => exact ⟨rfl, rfl, m⟩
    | some p =>
      have hp := hr p.2 (enumR_mem (List.mem_of_find?_eq_some e))
      have hl := learn_mem h hp.ok.ds
      refine ⟨?_, rfl, h.behind m hp.ok.ds⟩
      show (if ("learn" : Str) ∈ p.2.deeds.map (renD nm) then c else n) = _
      by_cases q : ("learn" : Str) ∈ p.2.deeds
      · rw [if_pos (hl.mpr q)]; exact (if_pos q).symm
      · rw [if_neg fun z => q (hl.mp z)]; exact (if_neg q).symm
  · rw [if_neg q, if_neg q]
    exact ⟨rfl, rfl, m⟩
theorem RenOk.never (h : RenOk nm) (m : RenM nm a b) {rows : List RowM} {w : Int} (hr : ∀ r ∈ rows, RW r) {n c : Int} : neverS ⟨w, rows.map (renR nm)⟩ n b c = neverS ⟨w, rows⟩ n a c := by
  obtain ⟨e1, e2, -, m2⟩ := h.ans m (w := w) hr (n := n) (c := c)
  obtain ⟨f1, -⟩ := h.ans m2 (w := w) hr (n := (ansS ⟨w, rows⟩ n a c).n) (c := c)
  unfold neverS
  rw [e1, e2, f1]
def RenP (nm : Str) (p q : PlS) : Prop := ∃ b, RenM nm p.s.ms b ∧ q = { p with s := { p.s with ms := b } }
theorem RenOk.step (h : RenOk nm) {rows : List RowM} {w : Int} (hr : ∀ r ∈ rows, RW r) {p q : PlS} (hp : RenP nm p q) {i : Nat} {e : Evt} : RenP nm (plStep ⟨w, rows⟩ i p e) (plStep ⟨w, rows.map (renR nm)⟩ i q e) := by
  obtain ⟨b, m, rfl⟩ := hp
  obtain ⟨⟨n, a, top, op, sh, lw⟩, o, dn, mt⟩ := p
  have key : ∀ {n : Int} {a b : List Str} {top : Int} {op : List Int} {sh : Int} {lw : List (Int × Bool)}, RenM nm a b → stuckS ⟨w, rows.map (renR nm)⟩ ⟨n, b, top, op, sh, lw⟩ = stuckS ⟨w, rows⟩ ⟨n, a, top, op, sh, lw⟩ := fun {n a b top op sh lw} m => by
    unfold stuckS
    dsimp only
    rw [h.never m hr]
  dsimp only at m
  cases e with
  | give =>
    refine ⟨b, m, ?_⟩
    unfold plStep evMet allF' evF evO evRow evC
    dsimp only
    rw [key m]
  | house =>
    obtain ⟨e1, e2, m2⟩ := h.hse m (w := w) hr (n := n) (c := top)
    refine ⟨_, m2, ?_⟩
    unfold plStep evMet allF' evF evO evRow evC
    dsimp only
    rw [e1, e2, key m2]
  | tr k =>
    obtain ⟨e1, e2, e3, m2⟩ := h.ans m (w := w) hr (n := n) (c := (k : Int))
    refine ⟨_, (show RenM nm (tryC ⟨w, rows⟩ ⟨n, a, top, op, sh, lw⟩ k).ms _ from by rw [tryC_n.2.1]; exact m2), ?_⟩
    unfold plStep evMet allF' evF evO evRow evC tryF tryC
    dsimp only
    rcases Bool.eq_false_or_eq_true (ansS ⟨w, rows⟩ n a k).op with hq | hq
    · simp only [e1, e2, e3, hq, if_true, openS, aftS, foundS, key m2]
      rfl
    · simp only [e1, e2, e3, hq, Bool.false_eq_true, if_false, aftS, shutS, key m2]
      rfl
theorem RenOk.all (h : RenOk nm) {rows : List RowM} {w : Int} (hr : ∀ r ∈ rows, RW r) : ∀ {es : List Evt} {i : Nat} {p q : PlS}, RenP nm p q → RenP nm (plAll ⟨w, rows⟩ i es p) (plAll ⟨w, rows.map (renR nm)⟩ i es q)
  | [], _, _, _, m => m
  | e :: es, i, p, q, m => RenOk.all (es := es) h hr (h.step hr m)
end
section
variable {a b : List RowM} {w n c : Int} {ms : List Str}
end
section
variable {ρ : Env'} {μ : Mu}
theorem q_dispW {ks : List Str} {r : RA} : mDispW ks r ρ μ = (r ρ μ).bind fun p => if (decide (ks.length ≤ 15) && decide ks.Nodup && p.1.all (fun w => w.below p.2.length)) = true then some (.loc p.2.length, p.2 ++ [.dW (ks.zip p.1)]) else none := by
  unfold mDispW
  cases r ρ μ <;> rfl
end
end DX
namespace DX
open PySem PySem.Spec L2 DK
local macro_rules
  | `(tactic| push_cast [$ts,*]) => `(tactic| simp only [q_seq, q_ifS, q_if, q_and, q_or, q_not, q_andV, q_orV, q_notV, q_test, q_op, q_un, q_asg, q_ret, q_drop, q_cons, q_dat, q_dat1, q_tup, q_lst, q_call, q_meth, q_for, q_lc, q_seqI, q_sl, q_var, q_c, q_nil, q_next, q_cont, q_break, q_retN, q_yes, q_noPart, q_partB, q_isN, q_ixB, q_fld, q_enum, q_par, q_body, varW_some, view_val, view_loc, viewM_lst, viewM_frz, isBl_bl, partW_int, name_set, ixW_val, ixF_l, ixF_t, fld_row_word, fld_row_tests, fld_row_deeds, fld_row_opens, fld_tool_window, fld_tool_rows, fld_tool_marks, recv_row, recv_tool, bodyE_rt, bodyE_nx, exit_any, exit_dst, negF_int, plusF_int, minusF_int, ltF_int, leF_int, gtF_int, geF_int, eqF_int, eqF_str, eqF_bl, intF_int, maxF_int, minF_int, lenF_l, lenF_t, lenF_s, tupF_l, tupF_t, lstF_l, lstF_t, strF_s, seqOf_t, seqOf_l, guard_val, guard_loc, isNW_val, isNW_loc, enumW_1, parW_2, tup_set, cons_set, nil_set, frzL_nil, frzL_cons, frz1_val, frz1_loc, frzM_lst, frzM_frz, ofS, ite_bind, Option.bind_some, then_nx, then_rt, then_ct, then_bk, start, List.length_cons, List.length_nil, List.map_cons, List.map_nil, List.replicate, List.cons_append, List.nil_append, List.append_nil, List.getElem?_cons_succ, List.getElem?_cons_zero, List.set_cons_succ, List.set_cons_zero, Nat.sub_self, Nat.reduceSub, Nat.reduceAdd, Nat.reduceEqDiff, if_true, if_false, reduceIte, decide_eq_true_eq, decide_true, decide_false, Bool.false_xor, Bool.true_xor, Nat.zero_add, eq_self, String.reduceEq, Bool.false_eq_true, wipeE, List.foldl_cons, List.foldl_nil, Bool.not_true, Bool.not_false, inF_strsT, inF_strsL, q_fldS, q_make, isNon_int, isNon_non, isNon_bl, isNon_str, isNon_tup, isNon_lst, q_lcM, q_setI, q_addM, addW_val, seqOf_loc, seqM_lst, seqM_frz, ixW_loc, ixM_lsW, ixM_lst, ixM_frz, setIW_loc, setIM_lst, exit_val, exit_loc, exitV_if, List.take_succ_cons, List.take_zero, List.take_nil, List.all_cons, List.all_nil, Bool.and_true, Bool.true_and, Bool.and_self, Nat.reduceLT, Nat.reduceLeDiff, Nat.zero_le, Nat.lt_add_one, exitM_lst, exitM_frz, below_lst, below_frz, below_dK, below_scr, below_lsW, below_ins, below_dW, wbelow_val, wbelow_loc, q_append, appA_loc, appW_1, appM_lst, q_lstOfM, lstM_lst, q_lstM, q_rng1, standB_none, standB_some, standM_lst, standM_frz, q_join, joinA_str, q_joined, q_jNil, q_jCons, jW_str, q_star, q_own1, ownW_val, okStr_str, isIns_row, isIns_tool, q_kget, kgetW_str, q_indexC, indexW_lst, q_makeL, mkL_cls, q_cmeth, cmW_cls, q_star1, star1W_cons, q_chain, chainW_bl, chainE_bl, q_eqOwn, fmtF_s, and_self, q_aug, augM_int, q_parN, setAll_cons, setAll_nil, q_never, intF_bl, q_extend, extA_loc, extW_1, extD_lst, extM_lst, q_asgT, uTup_tup, uCons_cons, uNil_nil, uName_eq, uFld_eq, ufW_loc, ufM_ins, fldSW_loc, fldSM_ins, fldW_loc, fldM_ins, look_cons, putW_nil, putW_cons, $ts,*])
variable {ρ : Env'} {μ : Mu}
section
variable {X : Txt} {T : ToolM}
theorem texts_sub {rs ss : List RowM} (hs : rs.Sublist ss) : (textsM rs).Sublist (textsM ss) := by
  unfold textsM
  induction hs with
  | slnil => exact List.Sublist.refl _
  | cons a _ ih => rw [List.flatMap_cons]; exact ih.trans (List.sublist_append_right _ _)
  | cons_cons a _ ih => rw [List.flatMap_cons, List.flatMap_cons]; exact (List.Sublist.refl _).append ih
theorem ToolOk.rows (h : ToolOk X T) {rs : List RowM} (hs : rs.Sublist T.rows) : ToolOk X ⟨T.window, rs⟩ := ⟨h.win, by
    have := texts_sub hs
    exact Nat.lt_of_le_of_lt this.length_le h.txt, Nat.le_trans hs.length_le h.len, fun r hr => h.row r (hs.subset hr), fun r hr => h.ok r (hs.subset hr)⟩
end
end DX
namespace DX
open PySem PySem.Spec L2 DK
end DX
namespace DX
open PySem PySem.Spec L2 DK
local macro_rules
  | `(tactic| push_cast [$ts,*]) => `(tactic| simp only [q_seq, q_ifS, q_if, q_and, q_or, q_not, q_andV, q_orV, q_notV, q_test, q_op, q_un, q_asg, q_ret, q_drop, q_cons, q_dat, q_dat1, q_tup, q_lst, q_call, q_meth, q_for, q_lc, q_seqI, q_sl, q_var, q_c, q_nil, q_next, q_cont, q_break, q_retN, q_yes, q_noPart, q_partB, q_isN, q_ixB, q_fld, q_enum, q_par, q_body, varW_some, view_val, view_loc, viewM_lst, viewM_frz, isBl_bl, partW_int, name_set, ixW_val, ixF_l, ixF_t, fld_row_word, fld_row_tests, fld_row_deeds, fld_row_opens, fld_tool_window, fld_tool_rows, fld_tool_marks, recv_row, recv_tool, bodyE_rt, bodyE_nx, exit_any, exit_dst, negF_int, plusF_int, minusF_int, ltF_int, leF_int, gtF_int, geF_int, eqF_int, eqF_str, eqF_bl, intF_int, maxF_int, minF_int, lenF_l, lenF_t, lenF_s, tupF_l, tupF_t, lstF_l, lstF_t, strF_s, seqOf_t, seqOf_l, guard_val, guard_loc, isNW_val, isNW_loc, enumW_1, parW_2, tup_set, cons_set, nil_set, frzL_nil, frzL_cons, frz1_val, frz1_loc, frzM_lst, frzM_frz, ofS, ite_bind, Option.bind_some, then_nx, then_rt, then_ct, then_bk, start, List.length_cons, List.length_nil, List.map_cons, List.map_nil, List.replicate, List.cons_append, List.nil_append, List.append_nil, List.getElem?_cons_succ, List.getElem?_cons_zero, List.set_cons_succ, List.set_cons_zero, Nat.sub_self, Nat.reduceSub, Nat.reduceAdd, Nat.reduceEqDiff, if_true, if_false, reduceIte, decide_eq_true_eq, decide_true, decide_false, Bool.false_xor, Bool.true_xor, Nat.zero_add, eq_self, String.reduceEq, Bool.false_eq_true, wipeE, List.foldl_cons, List.foldl_nil, Bool.not_true, Bool.not_false, inF_strsT, inF_strsL, q_fldS, q_make, isNon_int, isNon_non, isNon_bl, isNon_str, isNon_tup, isNon_lst, q_lcM, q_setI, q_addM, addW_val, seqOf_loc, seqM_lst, seqM_frz, ixW_loc, ixM_lsW, ixM_lst, ixM_frz, setIW_loc, setIM_lst, exit_val, exit_loc, exitV_if, List.take_succ_cons, List.take_zero, List.take_nil, List.all_cons, List.all_nil, Bool.and_true, Bool.true_and, Bool.and_self, Nat.reduceLT, Nat.reduceLeDiff, Nat.zero_le, Nat.lt_add_one, exitM_lst, exitM_frz, below_lst, below_frz, below_dK, below_scr, below_lsW, below_ins, below_dW, wbelow_val, wbelow_loc, q_append, appA_loc, appW_1, appM_lst, q_lstOfM, lstM_lst, q_lstM, q_rng1, standB_none, standB_some, standM_lst, standM_frz, q_join, joinA_str, q_joined, q_jNil, q_jCons, jW_str, q_star, q_own1, ownW_val, okStr_str, isIns_row, isIns_tool, q_kget, kgetW_str, q_indexC, indexW_lst, q_makeL, mkL_cls, q_cmeth, cmW_cls, q_star1, star1W_cons, q_chain, chainW_bl, chainE_bl, q_eqOwn, fmtF_s, and_self, q_aug, augM_int, q_parN, setAll_cons, setAll_nil, q_never, intF_bl, q_extend, extA_loc, extW_1, extD_lst, extM_lst, q_asgT, uTup_tup, uCons_cons, uNil_nil, uName_eq, uFld_eq, ufW_loc, ufM_ins, fldSW_loc, fldSM_ins, fldW_loc, fldM_ins, look_cons, putW_nil, putW_cons, $ts,*])
variable {ρ : Env'} {μ : Mu}
structure LawT (X : Txt) (T : ToolM) : Prop where
  ok : ToolOk X T
  x : TxtN X
  te : ∀ s ∈ X.ts, testOk s = true
  de : ∀ s ∈ X.ds, deedOk2 s = true
section
variable {X : Txt} {T : ToolM} {n c : Int} {ms : List Str}
theorem LawT.t (h : LawT X T) : ∀ r ∈ T.rows, r.tests.length ≤ 1000 ∧ ∀ t ∈ r.tests, testOk t = true := fun r hr => ⟨(h.ok.ok r hr).zt, fun t ht => h.te t ((h.ok.ok r hr).ts t ht)⟩
theorem LawT.d (h : LawT X T) : ∀ r ∈ T.rows, ∀ s ∈ r.deeds, deedOk2 s = true := fun r hr s hs => h.de s ((h.ok.ok r hr).ds s hs)
end
def aft : List Int → Int → List Int
  | [], _ => []
  | o :: O, k => if k ∈ O then aft O k else if o = k then O else []
theorem aft_snoc {k x : Int} : ∀ {O : List Int}, aft (O ++ [x]) k = if x = k then [] else if k ∈ O then aft O k ++ [x] else []
  | [] => by
    show (if k ∈ ([] : List Int) then aft [] k else if x = k then [] else []) = _
    simp
  | o :: O => by
    rw [List.cons_append, aft, aft_snoc (O := O)]
    by_cases q : x = k
    · subst q
      simp
    · have hk : k ∈ O ++ [x] ↔ k ∈ O := by simp [Ne.symm q]
      simp only [if_neg q]
      by_cases r : k ∈ O
      · rw [if_pos (hk.mpr r), if_pos r, if_pos (List.mem_cons_of_mem _ r)]
        rw [aft, if_pos r]
      · rw [if_neg fun z => r (hk.mp z)]
        by_cases t : o = k
        · rw [if_pos t, if_pos (by rw [t]; exact List.mem_cons_self ..), aft, if_neg r, if_pos t]
        · rw [if_neg t, if_neg (by simp [r, Ne.symm t])]
def lowO (O : List Int) (k : Int) : Bool := (aft O k).any fun o => decide (o < k)
theorem lowO_snoc {O : List Int} {k x : Int} : lowO (O ++ [x]) k = if x = k then false else (decide (k ∈ O) && (lowO O k || decide (x < k))) := by
  unfold lowO
  rw [aft_snoc]
  by_cases q : x = k
  · rw [if_pos q, if_pos q]; rfl
  · rw [if_neg q, if_neg q]
    by_cases r : k ∈ O
    · rw [if_pos r, decide_eq_true r, List.any_append]
      simp
    · rw [if_neg r, decide_eq_false r]
      rfl
theorem lowO_not {O : List Int} {k : Int} (h : k ∉ O) : lowO O k = false := by
  unfold lowO
  have : aft O k = [] := by
    induction O with
    | nil => rfl
    | cons o O ih =>
      rw [aft, if_neg fun z => h (List.mem_cons_of_mem _ z), if_neg fun z => h (by rw [z]; simp)]
  rw [this]
  rfl
theorem find_append_map {lw : List (Int × Bool)} {c o : Int} {b : Bool} : ((lw.map fun p => if p.1 = c then (p.1, b) else p).find? fun p => decide (p.1 = o)) = (lw.find? fun p => decide (p.1 = o)).map fun p => if p.1 = c then (p.1, b) else p := by
  refine find_map fun p _ => ?_
  split <;> rfl
theorem lwGet_putI {lw : List (Int × Bool)} {c o : Int} {b : Bool} : lwGet (putI lw c b) o = if o = c then b else lwGet lw o := by
  unfold putI
  by_cases q : (lw.any fun p => decide (p.1 = c)) = true
  · rw [if_pos q]
    unfold lwGet
    rw [find_append_map]
    by_cases r : o = c
    · subst r
      rw [if_pos rfl]
      obtain ⟨p, hp, hq⟩ := List.any_eq_true.mp q
      cases e : lw.find? fun p => decide (p.1 = o) with
      | none => exact absurd hq (by simpa using List.find?_eq_none.mp e p hp)
      | some p2 =>
        have h2 := List.find?_some e
        rw [Option.map_some, if_pos (of_decide_eq_true h2)]
        rfl
    · rw [if_neg r]
      cases e : lw.find? fun p => decide (p.1 = o) with
      | none => rfl
      | some p2 =>
        have h2 := List.find?_some e
        rw [Option.map_some, if_neg (by rw [of_decide_eq_true h2]; exact r)]
  · rw [if_neg q]
    unfold lwGet
    rw [List.find?_append]
    have hn : ∀ p ∈ lw, p.1 ≠ c := fun p hp z => q (List.any_eq_true.mpr ⟨p, hp, decide_eq_true z⟩)
    by_cases r : o = c
    · subst r
      rw [if_pos rfl]
      have : (lw.find? fun p => decide (p.1 = o)) = none := List.find?_eq_none.mpr fun p hp => by simpa using hn p hp
      rw [this]
      simp
    · rw [if_neg r]
      cases e : lw.find? fun p => decide (p.1 = o) with
      | some p2 => rfl
      | none =>
        simp [Ne.symm r]
theorem lwGet_low {k o : Int} : ∀ {op : List Int} {lw : List (Int × Bool)}, lwGet (lowS op k lw) o = (lwGet lw o || (decide (o ∈ op) && decide (k < o)))
  | [], lw => by
    show lwGet lw o = _
    simp
  | x :: op, lw => by
    show lwGet (lowS op k (putI lw x (lwGet lw x || decide (k < x)))) o = _
    rw [lwGet_low, lwGet_putI]
    by_cases q : o = x
    · subst q
      rw [if_pos rfl]
      cases lwGet lw o <;> cases decide (k < o) <;> cases decide (o ∈ op) <;> simp_all
    · rw [if_neg q]
      have : decide (o ∈ x :: op) = decide (o ∈ op) := by simp [q]
      rw [this]
structure LowR (O : List Int) (s : Crs) : Prop where
  m : ∀ c, c ∈ s.op ↔ c ∈ O
  l : ∀ c, lwGet s.lw c = lowO O c
theorem LowR.any {O : List Int} {s : Crs} (h : LowR O s) {k : Int} : (s.op.any fun o => decide (k < o)) = O.any fun o => decide (k < o) := by
  rw [Bool.eq_iff_iff, List.any_eq_true, List.any_eq_true]
  constructor
  · rintro ⟨x, h1, h2⟩
    exact ⟨x, (h.m x).mp h1, h2⟩
  · rintro ⟨x, h1, h2⟩
    exact ⟨x, (h.m x).mpr h1, h2⟩
theorem LowR.open {O : List Int} {s : Crs} (h : LowR O s) {k : Int} : LowR (O ++ [k]) (openS s k) := by
  refine ⟨fun c => ?_, fun c => ?_⟩
  · show c ∈ (s.op.filter fun o => !decide (o = k)) ++ [k] ↔ _
    rw [List.mem_append, List.mem_append, List.mem_filter, h.m c, List.mem_singleton]
    by_cases q : c = k <;> simp [q]
  · show lwGet (putI (lowS s.op k s.lw) k false) c = _
    rw [lwGet_putI, lowO_snoc, lwGet_low, h.l c]
    by_cases q : c = k
    · rw [if_pos q, if_pos q.symm]
    · have e : decide (c ∈ s.op) = decide (c ∈ O) := decide_eq_decide.mpr (h.m c)
      rw [if_neg q, if_neg (Ne.symm q), e]
      by_cases r : c ∈ O
      · simp [r]
      · rw [lowO_not r]
        simp [r]
theorem LowR.nil {n : Int} {ms : List Str} {top : Int} {sh : Int} : LowR [] ⟨n, ms, top, [], sh, []⟩ := ⟨fun c => by simp, fun c => rfl⟩
end DX
namespace DX
open PySem PySem.Spec L2 DK
local macro_rules
  | `(tactic| push_cast [$ts,*]) => `(tactic| simp only [q_seq, q_ifS, q_if, q_and, q_or, q_not, q_andV, q_orV, q_notV, q_test, q_op, q_un, q_asg, q_ret, q_drop, q_cons, q_dat, q_dat1, q_tup, q_lst, q_call, q_meth, q_for, q_lc, q_seqI, q_sl, q_var, q_c, q_nil, q_next, q_cont, q_break, q_retN, q_yes, q_noPart, q_partB, q_isN, q_ixB, q_fld, q_enum, q_par, q_body, varW_some, view_val, view_loc, viewM_lst, viewM_frz, isBl_bl, partW_int, name_set, ixW_val, ixF_l, ixF_t, fld_row_word, fld_row_tests, fld_row_deeds, fld_row_opens, fld_tool_window, fld_tool_rows, fld_tool_marks, recv_row, recv_tool, bodyE_rt, bodyE_nx, exit_any, exit_dst, negF_int, plusF_int, minusF_int, ltF_int, leF_int, gtF_int, geF_int, eqF_int, eqF_str, eqF_bl, intF_int, maxF_int, minF_int, lenF_l, lenF_t, lenF_s, tupF_l, tupF_t, lstF_l, lstF_t, strF_s, seqOf_t, seqOf_l, guard_val, guard_loc, isNW_val, isNW_loc, enumW_1, parW_2, tup_set, cons_set, nil_set, frzL_nil, frzL_cons, frz1_val, frz1_loc, frzM_lst, frzM_frz, ofS, ite_bind, Option.bind_some, then_nx, then_rt, then_ct, then_bk, start, List.length_cons, List.length_nil, List.map_cons, List.map_nil, List.replicate, List.cons_append, List.nil_append, List.append_nil, List.getElem?_cons_succ, List.getElem?_cons_zero, List.set_cons_succ, List.set_cons_zero, Nat.sub_self, Nat.reduceSub, Nat.reduceAdd, Nat.reduceEqDiff, if_true, if_false, reduceIte, decide_eq_true_eq, decide_true, decide_false, Bool.false_xor, Bool.true_xor, Nat.zero_add, eq_self, String.reduceEq, Bool.false_eq_true, wipeE, List.foldl_cons, List.foldl_nil, Bool.not_true, Bool.not_false, inF_strsT, inF_strsL, q_fldS, q_make, isNon_int, isNon_non, isNon_bl, isNon_str, isNon_tup, isNon_lst, q_lcM, q_setI, q_addM, addW_val, seqOf_loc, seqM_lst, seqM_frz, ixW_loc, ixM_lsW, ixM_lst, ixM_frz, setIW_loc, setIM_lst, exit_val, exit_loc, exitV_if, List.take_succ_cons, List.take_zero, List.take_nil, List.all_cons, List.all_nil, Bool.and_true, Bool.true_and, Bool.and_self, Nat.reduceLT, Nat.reduceLeDiff, Nat.zero_le, Nat.lt_add_one, exitM_lst, exitM_frz, below_lst, below_frz, below_dK, below_scr, below_lsW, below_ins, below_dW, wbelow_val, wbelow_loc, q_append, appA_loc, appW_1, appM_lst, q_lstOfM, lstM_lst, q_lstM, q_rng1, standB_none, standB_some, standM_lst, standM_frz, q_join, joinA_str, q_joined, q_jNil, q_jCons, jW_str, q_star, q_own1, ownW_val, okStr_str, isIns_row, isIns_tool, q_kget, kgetW_str, q_indexC, indexW_lst, q_makeL, mkL_cls, q_cmeth, cmW_cls, q_star1, star1W_cons, q_chain, chainW_bl, chainE_bl, q_eqOwn, fmtF_s, and_self, q_aug, augM_int, q_parN, setAll_cons, setAll_nil, q_never, intF_bl, q_extend, extA_loc, extW_1, extD_lst, extM_lst, q_asgT, uTup_tup, uCons_cons, uNil_nil, uName_eq, uFld_eq, ufW_loc, ufM_ins, fldSW_loc, fldSM_ins, fldW_loc, fldM_ins, look_cons, putW_nil, putW_cons, $ts,*])
variable {ρ : Env'} {μ : Mu}
def hnd (k : Nat) (n : Int) (ms : List Str) (top : Int) (O : List Int) (sh : Int) : MO := .dW [(("number" : Str), .val (.int n)), ("marks", .val (.tup (ms.map D.str))), ("top", .val (.int top)), ("opened", .val (.lst (O.map D.int))), ("shown", .val (.int sh)), ("tries", .loc k), ("done", .loc (k + 1)), ("met", .loc (k + 2))]
section
variable {μ0 : Mu} {A B C A' : List D} {H H' : MO} {n top sh : Int} {ms : List Str} {O : List Int}
section
variable {i : Nat} (hi : ρ[i]? = some (some (.loc (μ0.length + 3))))
include hi
end
structure LwOk (X : Txt) (T : ToolM) (p : PlS) (O : List Int) (j : Nat) : Prop where
  pl : PlOk X j p
  lr : LowR O p.s
  le : O.length ≤ j
  top : 0 ≤ p.s.top
  srt : srt p.s.ms = p.s.ms
def opO (T : ToolM) (s : Crs) (O : List Int) : Evt → List Int
  | .tr k => if (ansS T s.n s.ms k).op = true then O ++ [(k : Int)] else O
  | _ => O
section
variable {X : Txt} {T : ToolM} {p : PlS} {j : Nat} {e : Evt}
theorem LwOk.step (h : LawT X T) (w : LwOk X T p O j) {i : Nat} : LwOk X T (plStep T i p e) (opO T p.s O e) (j + 1) := by
  refine ⟨w.pl.step h.ok, ?_, ?_, ?_, ?_⟩
  · cases e with
    | give => exact ⟨w.lr.m, w.lr.l⟩
    | house => exact ⟨w.lr.m, w.lr.l⟩
    | tr k =>
      show LowR (if _ then _ else _) (tryC T p.s k)
      unfold tryC
      have h1 : LowR O (aftS T p.s k) := ⟨w.lr.m, w.lr.l⟩
      split
      · exact h1.open
      · exact h1
  · have := w.le
    cases e with
    | give => show O.length ≤ j + 1; omega
    | house => show O.length ≤ j + 1; omega
    | tr k =>
      unfold opO
      dsimp only
      split
      · rw [List.length_append, List.length_singleton]; omega
      · omega
  · have := w.top
    cases e with
    | give => show 0 ≤ p.s.top + 1; omega
    | house => exact this
    | tr k => show 0 ≤ (tryC T p.s k).top; rw [tryC_n.2.2]; exact this
  · cases e with
    | give => exact w.srt
    | house => exact hseS_srt
    | tr k => show DK.srt (tryC T p.s k).ms = (tryC T p.s k).ms; rw [tryC_n.2.1]; exact ansS_srt
end
end
end DX
namespace DX
open PySem PySem.Spec L2 DK
local macro_rules
  | `(tactic| push_cast [$ts,*]) => `(tactic| simp only [q_seq, q_ifS, q_if, q_and, q_or, q_not, q_andV, q_orV, q_notV, q_test, q_op, q_un, q_asg, q_ret, q_drop, q_cons, q_dat, q_dat1, q_tup, q_lst, q_call, q_meth, q_for, q_lc, q_seqI, q_sl, q_var, q_c, q_nil, q_next, q_cont, q_break, q_retN, q_yes, q_noPart, q_partB, q_isN, q_ixB, q_fld, q_enum, q_par, q_body, varW_some, view_val, view_loc, viewM_lst, viewM_frz, isBl_bl, partW_int, name_set, ixW_val, ixF_l, ixF_t, fld_row_word, fld_row_tests, fld_row_deeds, fld_row_opens, fld_tool_window, fld_tool_rows, fld_tool_marks, recv_row, recv_tool, bodyE_rt, bodyE_nx, exit_any, exit_dst, negF_int, plusF_int, minusF_int, ltF_int, leF_int, gtF_int, geF_int, eqF_int, eqF_str, eqF_bl, intF_int, maxF_int, minF_int, lenF_l, lenF_t, lenF_s, tupF_l, tupF_t, lstF_l, lstF_t, strF_s, seqOf_t, seqOf_l, guard_val, guard_loc, isNW_val, isNW_loc, enumW_1, parW_2, tup_set, cons_set, nil_set, frzL_nil, frzL_cons, frz1_val, frz1_loc, frzM_lst, frzM_frz, ofS, ite_bind, Option.bind_some, then_nx, then_rt, then_ct, then_bk, start, List.length_cons, List.length_nil, List.map_cons, List.map_nil, List.replicate, List.cons_append, List.nil_append, List.append_nil, List.getElem?_cons_succ, List.getElem?_cons_zero, List.set_cons_succ, List.set_cons_zero, Nat.sub_self, Nat.reduceSub, Nat.reduceAdd, Nat.reduceEqDiff, if_true, if_false, reduceIte, decide_eq_true_eq, decide_true, decide_false, Bool.false_xor, Bool.true_xor, Nat.zero_add, eq_self, String.reduceEq, Bool.false_eq_true, wipeE, List.foldl_cons, List.foldl_nil, Bool.not_true, Bool.not_false, inF_strsT, inF_strsL, q_fldS, q_make, isNon_int, isNon_non, isNon_bl, isNon_str, isNon_tup, isNon_lst, q_lcM, q_setI, q_addM, addW_val, seqOf_loc, seqM_lst, seqM_frz, ixW_loc, ixM_lsW, ixM_lst, ixM_frz, setIW_loc, setIM_lst, exit_val, exit_loc, exitV_if, List.take_succ_cons, List.take_zero, List.take_nil, List.all_cons, List.all_nil, Bool.and_true, Bool.true_and, Bool.and_self, Nat.reduceLT, Nat.reduceLeDiff, Nat.zero_le, Nat.lt_add_one, exitM_lst, exitM_frz, below_lst, below_frz, below_dK, below_scr, below_lsW, below_ins, below_dW, wbelow_val, wbelow_loc, q_append, appA_loc, appW_1, appM_lst, q_lstOfM, lstM_lst, q_lstM, q_rng1, standB_none, standB_some, standM_lst, standM_frz, q_join, joinA_str, q_joined, q_jNil, q_jCons, jW_str, q_star, q_own1, ownW_val, okStr_str, isIns_row, isIns_tool, q_kget, kgetW_str, q_indexC, indexW_lst, q_makeL, mkL_cls, q_cmeth, cmW_cls, q_star1, star1W_cons, q_chain, chainW_bl, chainE_bl, q_eqOwn, fmtF_s, and_self, q_aug, augM_int, q_parN, setAll_cons, setAll_nil, q_never, intF_bl, q_extend, extA_loc, extW_1, extD_lst, extM_lst, q_asgT, uTup_tup, uCons_cons, uNil_nil, uName_eq, uFld_eq, ufW_loc, ufM_ins, fldSW_loc, fldSM_ins, fldW_loc, fldM_ins, look_cons, putW_nil, putW_cons, $ts,*])
variable {ρ : Env'} {μ : Mu}
theorem tr_ne {c : Nat} (h : EvOk (.tr c)) : (trS c = ("give" : Str)) = False ∧ (trS c = ("house" : Str)) = False := by
  have h1 := (cut_card h).1
  refine ⟨eq_false fun z => ?_, eq_false fun z => ?_⟩ <;> rw [z] at h1 <;> exact absurd h1 (by decide +kernel)
section
variable {μ0 : Mu} {X : Txt} {T : ToolM} {p : PlS} {O : List Int} {j i : Nat} {e : Evt} {x1 x5 x6 x7 x8 x9 x10 x11 x12 : Option W}
end
section
variable {μ0 : Mu} {X : Txt} {T : ToolM}
end
end DX
namespace DX
open PySem PySem.Spec L2 DK
local macro_rules
  | `(tactic| push_cast [$ts,*]) => `(tactic| simp only [q_seq, q_ifS, q_if, q_and, q_or, q_not, q_andV, q_orV, q_notV, q_test, q_op, q_un, q_asg, q_ret, q_drop, q_cons, q_dat, q_dat1, q_tup, q_lst, q_call, q_meth, q_for, q_lc, q_seqI, q_sl, q_var, q_c, q_nil, q_next, q_cont, q_break, q_retN, q_yes, q_noPart, q_partB, q_isN, q_ixB, q_fld, q_enum, q_par, q_body, varW_some, view_val, view_loc, viewM_lst, viewM_frz, isBl_bl, partW_int, name_set, ixW_val, ixF_l, ixF_t, fld_row_word, fld_row_tests, fld_row_deeds, fld_row_opens, fld_tool_window, fld_tool_rows, fld_tool_marks, recv_row, recv_tool, bodyE_rt, bodyE_nx, exit_any, exit_dst, negF_int, plusF_int, minusF_int, ltF_int, leF_int, gtF_int, geF_int, eqF_int, eqF_str, eqF_bl, intF_int, maxF_int, minF_int, lenF_l, lenF_t, lenF_s, tupF_l, tupF_t, lstF_l, lstF_t, strF_s, seqOf_t, seqOf_l, guard_val, guard_loc, isNW_val, isNW_loc, enumW_1, parW_2, tup_set, cons_set, nil_set, frzL_nil, frzL_cons, frz1_val, frz1_loc, frzM_lst, frzM_frz, ofS, ite_bind, Option.bind_some, then_nx, then_rt, then_ct, then_bk, start, List.length_cons, List.length_nil, List.map_cons, List.map_nil, List.replicate, List.cons_append, List.nil_append, List.append_nil, List.getElem?_cons_succ, List.getElem?_cons_zero, List.set_cons_succ, List.set_cons_zero, Nat.sub_self, Nat.reduceSub, Nat.reduceAdd, Nat.reduceEqDiff, if_true, if_false, reduceIte, decide_eq_true_eq, decide_true, decide_false, Bool.false_xor, Bool.true_xor, Nat.zero_add, eq_self, String.reduceEq, Bool.false_eq_true, wipeE, List.foldl_cons, List.foldl_nil, Bool.not_true, Bool.not_false, inF_strsT, inF_strsL, q_fldS, q_make, isNon_int, isNon_non, isNon_bl, isNon_str, isNon_tup, isNon_lst, q_lcM, q_setI, q_addM, addW_val, seqOf_loc, seqM_lst, seqM_frz, ixW_loc, ixM_lsW, ixM_lst, ixM_frz, setIW_loc, setIM_lst, exit_val, exit_loc, exitV_if, List.take_succ_cons, List.take_zero, List.take_nil, List.all_cons, List.all_nil, Bool.and_true, Bool.true_and, Bool.and_self, Nat.reduceLT, Nat.reduceLeDiff, Nat.zero_le, Nat.lt_add_one, exitM_lst, exitM_frz, below_lst, below_frz, below_dK, below_scr, below_lsW, below_ins, below_dW, wbelow_val, wbelow_loc, q_append, appA_loc, appW_1, appM_lst, q_lstOfM, lstM_lst, q_lstM, q_rng1, standB_none, standB_some, standM_lst, standM_frz, q_join, joinA_str, q_joined, q_jNil, q_jCons, jW_str, q_star, q_own1, ownW_val, okStr_str, isIns_row, isIns_tool, q_kget, kgetW_str, q_indexC, indexW_lst, q_makeL, mkL_cls, q_cmeth, cmW_cls, q_star1, star1W_cons, q_chain, chainW_bl, chainE_bl, q_eqOwn, fmtF_s, and_self, q_aug, augM_int, q_parN, setAll_cons, setAll_nil, q_never, intF_bl, q_extend, extA_loc, extW_1, extD_lst, extM_lst, q_asgT, uTup_tup, uCons_cons, uNil_nil, uName_eq, uFld_eq, ufW_loc, ufM_ins, fldSW_loc, fldSM_ins, fldW_loc, fldM_ins, look_cons, putW_nil, putW_cons, $ts,*])
variable {ρ : Env'} {μ : Mu}
structure LvS where
  T : ToolM
  es : List Evt
  pa : List (ToolM × List Evt)
section
variable {A : Mu} {m m' : MO}
end
section
variable {A : Mu} {L : LvS} {X : Txt} {e : Evt}
end
end DX
namespace DX
open PySem PySem.Spec L2 DK
local macro_rules
  | `(tactic| push_cast [$ts,*]) => `(tactic| simp only [q_seq, q_ifS, q_if, q_and, q_or, q_not, q_andV, q_orV, q_notV, q_test, q_op, q_un, q_asg, q_ret, q_drop, q_cons, q_dat, q_dat1, q_tup, q_lst, q_call, q_meth, q_for, q_lc, q_seqI, q_sl, q_var, q_c, q_nil, q_next, q_cont, q_break, q_retN, q_yes, q_noPart, q_partB, q_isN, q_ixB, q_fld, q_enum, q_par, q_body, varW_some, view_val, view_loc, viewM_lst, viewM_frz, isBl_bl, partW_int, name_set, ixW_val, ixF_l, ixF_t, fld_row_word, fld_row_tests, fld_row_deeds, fld_row_opens, fld_tool_window, fld_tool_rows, fld_tool_marks, recv_row, recv_tool, bodyE_rt, bodyE_nx, exit_any, exit_dst, negF_int, plusF_int, minusF_int, ltF_int, leF_int, gtF_int, geF_int, eqF_int, eqF_str, eqF_bl, intF_int, maxF_int, minF_int, lenF_l, lenF_t, lenF_s, tupF_l, tupF_t, lstF_l, lstF_t, strF_s, seqOf_t, seqOf_l, guard_val, guard_loc, isNW_val, isNW_loc, enumW_1, parW_2, tup_set, cons_set, nil_set, frzL_nil, frzL_cons, frz1_val, frz1_loc, frzM_lst, frzM_frz, ofS, ite_bind, Option.bind_some, then_nx, then_rt, then_ct, then_bk, start, List.length_cons, List.length_nil, List.map_cons, List.map_nil, List.replicate, List.cons_append, List.nil_append, List.append_nil, List.getElem?_cons_succ, List.getElem?_cons_zero, List.set_cons_succ, List.set_cons_zero, Nat.sub_self, Nat.reduceSub, Nat.reduceAdd, Nat.reduceEqDiff, if_true, if_false, reduceIte, decide_eq_true_eq, decide_true, decide_false, Bool.false_xor, Bool.true_xor, Nat.zero_add, eq_self, String.reduceEq, Bool.false_eq_true, wipeE, List.foldl_cons, List.foldl_nil, Bool.not_true, Bool.not_false, inF_strsT, inF_strsL, q_fldS, q_make, isNon_int, isNon_non, isNon_bl, isNon_str, isNon_tup, isNon_lst, q_lcM, q_setI, q_addM, addW_val, seqOf_loc, seqM_lst, seqM_frz, ixW_loc, ixM_lsW, ixM_lst, ixM_frz, setIW_loc, setIM_lst, exit_val, exit_loc, exitV_if, List.take_succ_cons, List.take_zero, List.take_nil, List.all_cons, List.all_nil, Bool.and_true, Bool.true_and, Bool.and_self, Nat.reduceLT, Nat.reduceLeDiff, Nat.zero_le, Nat.lt_add_one, exitM_lst, exitM_frz, below_lst, below_frz, below_dK, below_scr, below_lsW, below_ins, below_dW, wbelow_val, wbelow_loc, q_append, appA_loc, appW_1, appM_lst, q_lstOfM, lstM_lst, q_lstM, q_rng1, standB_none, standB_some, standM_lst, standM_frz, q_join, joinA_str, q_joined, q_jNil, q_jCons, jW_str, q_star, q_own1, ownW_val, okStr_str, isIns_row, isIns_tool, q_kget, kgetW_str, q_indexC, indexW_lst, q_makeL, mkL_cls, q_cmeth, cmW_cls, q_star1, star1W_cons, q_chain, chainW_bl, chainE_bl, q_eqOwn, fmtF_s, and_self, q_aug, augM_int, q_parN, setAll_cons, setAll_nil, q_never, intF_bl, q_extend, extA_loc, extW_1, extD_lst, extM_lst, q_asgT, uTup_tup, uCons_cons, uNil_nil, uName_eq, uFld_eq, ufW_loc, ufM_ins, fldSW_loc, fldSM_ins, fldW_loc, fldM_ins, look_cons, putW_nil, putW_cons, $ts,*])
variable {ρ : Env'} {μ : Mu}
theorem exitW' {μ : Mu} {n : Nat} {d : D} {R : Mu} (hn : μ.length = n) (h : μ.all (MO.below n) = true) : exitF true n (.val d) (μ ++ R) = some (.val d, μ) := by
  have e : (μ ++ R).take n = μ := by rw [← hn, List.take_left]
  unfold exitF
  rw [show frzRet true n (.val d) (μ ++ R) = (.val d, μ ++ R) from rfl]
  dsimp only
  rw [if_pos (by rw [List.length_append]; omega), e, if_pos ⟨rfl, h⟩]
section
variable {A : Mu} {L : LvS} {X : Txt} {e : Evt}
end
end DX
namespace DX
open PySem PySem.Spec PyProof.Rows L2 DK
variable {K : PySem.W.Frag} [HasW K] {ρ : Env'} {μ : Mu}
def cO (s : Str) : Prop := ∀ c ∈ s.cps.toList, c < 0x110000
theorem cO.all {s : Str} (h : cO s) : s.cps.all (· < 0x110000) = true := by
  rw [Array.all_eq_true_iff_forall_mem]
  intro c hc
  exact decide_eq_true (h c (by simpa using hc))
theorem cO.of {s : Str} (h : s.cps.all (· < 0x110000) = true) : cO s := fun c hc => by
  have := Array.all_eq_true_iff_forall_mem.mp h c (by simpa using hc)
  simpa using this
theorem cO.app {a b : Str} (ha : cO a) (hb : cO b) : cO (a ++ b) := fun c hc => by
  rw [show (a ++ b).cps = a.cps ++ b.cps from rfl, Array.toList_append, List.mem_append] at hc
  exact hc.elim (ha c) (hb c)
end DX
namespace DX
open PySem PySem.Spec L2 DK
local macro_rules
  | `(tactic| push_cast [$ts,*]) => `(tactic| simp only [q_seq, q_ifS, q_if, q_and, q_or, q_not, q_andV, q_orV, q_notV, q_test, q_op, q_un, q_asg, q_ret, q_drop, q_cons, q_dat, q_dat1, q_tup, q_lst, q_call, q_meth, q_for, q_lc, q_seqI, q_sl, q_var, q_c, q_nil, q_next, q_cont, q_break, q_retN, q_yes, q_noPart, q_partB, q_isN, q_ixB, q_fld, q_enum, q_par, q_body, varW_some, view_val, view_loc, viewM_lst, viewM_frz, isBl_bl, partW_int, name_set, ixW_val, ixF_l, ixF_t, fld_row_word, fld_row_tests, fld_row_deeds, fld_row_opens, fld_tool_window, fld_tool_rows, fld_tool_marks, recv_row, recv_tool, bodyE_rt, bodyE_nx, exit_any, exit_dst, negF_int, plusF_int, minusF_int, ltF_int, leF_int, gtF_int, geF_int, eqF_int, eqF_str, eqF_bl, intF_int, maxF_int, minF_int, lenF_l, lenF_t, lenF_s, tupF_l, tupF_t, lstF_l, lstF_t, strF_s, seqOf_t, seqOf_l, guard_val, guard_loc, isNW_val, isNW_loc, enumW_1, parW_2, tup_set, cons_set, nil_set, frzL_nil, frzL_cons, frz1_val, frz1_loc, frzM_lst, frzM_frz, ofS, ite_bind, Option.bind_some, then_nx, then_rt, then_ct, then_bk, start, List.length_cons, List.length_nil, List.map_cons, List.map_nil, List.replicate, List.cons_append, List.nil_append, List.append_nil, List.getElem?_cons_succ, List.getElem?_cons_zero, List.set_cons_succ, List.set_cons_zero, Nat.sub_self, Nat.reduceSub, Nat.reduceAdd, Nat.reduceEqDiff, if_true, if_false, reduceIte, decide_eq_true_eq, decide_true, decide_false, Bool.false_xor, Bool.true_xor, Nat.zero_add, eq_self, String.reduceEq, Bool.false_eq_true, wipeE, List.foldl_cons, List.foldl_nil, Bool.not_true, Bool.not_false, inF_strsT, inF_strsL, q_fldS, q_make, isNon_int, isNon_non, isNon_bl, isNon_str, isNon_tup, isNon_lst, q_lcM, q_setI, q_addM, addW_val, seqOf_loc, seqM_lst, seqM_frz, ixW_loc, ixM_lsW, ixM_lst, ixM_frz, setIW_loc, setIM_lst, exit_val, exit_loc, exitV_if, List.take_succ_cons, List.take_zero, List.take_nil, List.all_cons, List.all_nil, Bool.and_true, Bool.true_and, Bool.and_self, Nat.reduceLT, Nat.reduceLeDiff, Nat.zero_le, Nat.lt_add_one, exitM_lst, exitM_frz, below_lst, below_frz, below_dK, below_scr, below_lsW, below_ins, below_dW, wbelow_val, wbelow_loc, q_append, appA_loc, appW_1, appM_lst, q_lstOfM, lstM_lst, q_lstM, q_rng1, standB_none, standB_some, standM_lst, standM_frz, q_join, joinA_str, q_joined, q_jNil, q_jCons, jW_str, q_star, q_own1, ownW_val, okStr_str, isIns_row, isIns_tool, q_kget, kgetW_str, q_indexC, indexW_lst, q_makeL, mkL_cls, q_cmeth, cmW_cls, q_star1, star1W_cons, q_chain, chainW_bl, chainE_bl, q_eqOwn, fmtF_s, and_self, q_aug, augM_int, q_parN, setAll_cons, setAll_nil, q_never, intF_bl, q_extend, extA_loc, extW_1, extD_lst, extM_lst, q_asgT, uTup_tup, uCons_cons, uNil_nil, uName_eq, uFld_eq, ufW_loc, ufM_ins, fldSW_loc, fldSM_ins, fldW_loc, fldM_ins, look_cons, putW_nil, putW_cons, $ts,*])
variable {ρ : Env'} {μ : Mu}
theorem range_len {a : Int} {n : Nat} : (rangeD a n).length = n := by
  unfold rangeD
  simp
end DX
namespace DX
open PySem PySem.Spec L2 DK
local macro_rules
  | `(tactic| push_cast [$ts,*]) => `(tactic| simp only [q_seq, q_ifS, q_if, q_and, q_or, q_not, q_andV, q_orV, q_notV, q_test, q_op, q_un, q_asg, q_ret, q_drop, q_cons, q_dat, q_dat1, q_tup, q_lst, q_call, q_meth, q_for, q_lc, q_seqI, q_sl, q_var, q_c, q_nil, q_next, q_cont, q_break, q_retN, q_yes, q_noPart, q_partB, q_isN, q_ixB, q_fld, q_enum, q_par, q_body, varW_some, view_val, view_loc, viewM_lst, viewM_frz, isBl_bl, partW_int, name_set, ixW_val, ixF_l, ixF_t, fld_row_word, fld_row_tests, fld_row_deeds, fld_row_opens, fld_tool_window, fld_tool_rows, fld_tool_marks, recv_row, recv_tool, bodyE_rt, bodyE_nx, exit_any, exit_dst, negF_int, plusF_int, minusF_int, ltF_int, leF_int, gtF_int, geF_int, eqF_int, eqF_str, eqF_bl, intF_int, maxF_int, minF_int, lenF_l, lenF_t, lenF_s, tupF_l, tupF_t, lstF_l, lstF_t, strF_s, seqOf_t, seqOf_l, guard_val, guard_loc, isNW_val, isNW_loc, enumW_1, parW_2, tup_set, cons_set, nil_set, frzL_nil, frzL_cons, frz1_val, frz1_loc, frzM_lst, frzM_frz, ofS, ite_bind, Option.bind_some, then_nx, then_rt, then_ct, then_bk, start, List.length_cons, List.length_nil, List.map_cons, List.map_nil, List.replicate, List.cons_append, List.nil_append, List.append_nil, List.getElem?_cons_succ, List.getElem?_cons_zero, List.set_cons_succ, List.set_cons_zero, Nat.sub_self, Nat.reduceSub, Nat.reduceAdd, Nat.reduceEqDiff, if_true, if_false, reduceIte, decide_eq_true_eq, decide_true, decide_false, Bool.false_xor, Bool.true_xor, Nat.zero_add, eq_self, String.reduceEq, Bool.false_eq_true, wipeE, List.foldl_cons, List.foldl_nil, Bool.not_true, Bool.not_false, inF_strsT, inF_strsL, q_fldS, q_make, isNon_int, isNon_non, isNon_bl, isNon_str, isNon_tup, isNon_lst, q_lcM, q_setI, q_addM, addW_val, seqOf_loc, seqM_lst, seqM_frz, ixW_loc, ixM_lsW, ixM_lst, ixM_frz, setIW_loc, setIM_lst, exit_val, exit_loc, exitV_if, List.take_succ_cons, List.take_zero, List.take_nil, List.all_cons, List.all_nil, Bool.and_true, Bool.true_and, Bool.and_self, Nat.reduceLT, Nat.reduceLeDiff, Nat.zero_le, Nat.lt_add_one, exitM_lst, exitM_frz, below_lst, below_frz, below_dK, below_scr, below_lsW, below_ins, below_dW, wbelow_val, wbelow_loc, q_append, appA_loc, appW_1, appM_lst, q_lstOfM, lstM_lst, q_lstM, q_rng1, standB_none, standB_some, standM_lst, standM_frz, q_join, joinA_str, q_joined, q_jNil, q_jCons, jW_str, q_star, q_own1, ownW_val, okStr_str, isIns_row, isIns_tool, q_kget, kgetW_str, q_indexC, indexW_lst, q_makeL, mkL_cls, q_cmeth, cmW_cls, q_star1, star1W_cons, q_chain, chainW_bl, chainE_bl, q_eqOwn, fmtF_s, and_self, q_aug, augM_int, q_parN, setAll_cons, setAll_nil, q_never, intF_bl, q_extend, extA_loc, extW_1, extD_lst, extM_lst, q_asgT, uTup_tup, uCons_cons, uNil_nil, uName_eq, uFld_eq, ufW_loc, ufM_ins, fldSW_loc, fldSM_ins, fldW_loc, fldM_ins, look_cons, putW_nil, putW_cons, $ts,*])
variable {ρ : Env'} {μ : Mu}
theorem evL_map {es : List Evt} : evL es = (es.map evS).map D.str := by unfold evL; rw [List.map_map]; rfl
theorem isIns_story {es : List Evt} : isIns "Story" μ (.val (storyD es)) = true := by
  show decide (("Story" : Str) = "Story") = true
  simp
def needsT (es : List Evt) : D := .tup [.int (needsS es).skips, .bl (needsS es).el, .bl (es.any isHouse)]
theorem lneeds_loop {a : Option W} : ∀ {es : List Evt} {m : Nat} {s : NS} {x y : Option W}, (∀ e ∈ es, EvOk e) → posAll m es = true → s.many = (m : Nat) → ∃ x' y', loopR (hName 5) m_law_needs_1 none (evL es) [a, some (.val (.int s.many)), some (.val (.int s.best)), some (.val (.int s.skips)), some (.val (.bl s.el)), x, y] [] = some (.nx [a, some (.val (.int (es.foldl nstep s).many)), some (.val (.int (es.foldl nstep s).best)), some (.val (.int (es.foldl nstep s).skips)), some (.val (.bl (es.foldl nstep s).el)), x', y'] [])
  | [], m, s, x, y, _, _, _ => ⟨x, y, rfl⟩
  | e :: es, m, s, x, y, ho, hp, hm => by
    rw [posAll, Bool.and_eq_true] at hp
    have he := ho e (by simp)
    have hstep : ∃ y1, m_law_needs_1 [a, some (.val (.int s.many)), some (.val (.int s.best)), some (.val (.int s.skips)), some (.val (.bl s.el)), some (.val (.str (evS e))), y] [] = some (.nx [a, some (.val (.int (nstep s e).many)), some (.val (.int (nstep s e).best)), some (.val (.int (nstep s e).skips)), some (.val (.bl (nstep s e).el)), some (.val (.str (evS e))), y1] []) := by
      cases e with
      | give =>
        refine ⟨y, ?_⟩
        unfold m_law_needs_1 m_law_needs_p8 m_law_needs_p2 m_law_needs_p3
        push_cast [evS, nstep]
      | house =>
        refine ⟨y, ?_⟩
        unfold m_law_needs_1 m_law_needs_p8 m_law_needs_p7
        push_cast [evS, nstep]
      | tr c =>
        obtain ⟨n1, n2⟩ := tr_ne he
        have hc := (cut_card he).2
        have hcut : slF (some 4) none (.str (trS c)) = some (.str (cutS (trS c) (some 4) none)) := rfl
        have hle : ((c : Nat) : Int) ≤ s.many := by
          have := hp.1
          unfold posB at this
          have := of_decide_eq_true this
          omega
        have hd : decide (((c : Nat) : Int) < s.many) = !decide (((c : Nat) : Int) = s.many) := by
          by_cases q : ((c : Nat) : Int) = s.many
          · rw [decide_eq_true q, decide_eq_false (by omega)]
            rfl
          · rw [decide_eq_false q, decide_eq_true (by omega)]
            rfl
        refine ⟨some (.val (.int (c : Nat))), ?_⟩
        unfold m_law_needs_1 m_law_needs_p8 m_law_needs_p7 m_law_needs_p4 m_law_needs_p5 m_law_needs_p6
        push_cast [evS, nstep, n1, n2, hcut, hc]
        cases s.el with
        | true => simp
        | false => simp [hd]
    obtain ⟨y1, hs⟩ := hstep
    have hm2 : (nstep s e).many = ((giveN m e : Nat) : Int) := by
      unfold giveN
      cases e with
      | give => show s.many + 1 = _; rw [hm]; rfl
      | house => exact hm
      | tr c => exact hm
    obtain ⟨x', y', hr⟩ := lneeds_loop (a := a) (es := es) (m := giveN m e) (s := nstep s e) (x := some (.val (.str (evS e)))) (y := y1) (fun f hf => ho f (List.mem_cons_of_mem _ hf)) hp.2 hm2
    refine ⟨x', y', ?_⟩
    show loopR (hName 5) m_law_needs_1 none (.str (evS e) :: evL es) _ _ = _
    rw [loop_cons]
    simp only [name_set, Option.bind_some, List.set_cons_succ, List.set_cons_zero]
    rw [hs]
    simp only [Option.bind_some, standB, if_true]
    rw [hr]
    rfl
theorem any_house {es : List Evt} (ho : ∀ e ∈ es, EvOk e) : decide (("house" : Str) ∈ es.map evS) = es.any isHouse := by
  induction es with
  | nil => rfl
  | cons e es ih =>
    have ih := ih fun f hf => ho f (List.mem_cons_of_mem _ hf)
    rw [List.map_cons, List.any_cons, ← ih]
    have he : decide (("house" : Str) = evS e) = isHouse e := by
      cases e with
      | give => decide +kernel
      | house => decide +kernel
      | tr c =>
        have := (tr_ne (ho (.tr c) (by simp))).2
        show decide (("house" : Str) = trS c) = false
        exact decide_eq_false fun z => of_eq_false this z.symm
    rw [← he]
    simp [List.mem_cons]
theorem e_lneeds {es : List Evt} (ho : ∀ e ∈ es, EvOk e) (hp : posAll 0 es = true) : callX f_law_needs [.val (.lst (evL es))] μ = some (.val (needsT es), μ) := by
  refine callX_pure rfl ?_
  obtain ⟨x', y', hr⟩ := lneeds_loop (a := some (.val (.lst (evL es)))) (es := es) (m := 0) (s := ⟨0, 0, 0, false⟩) (x := none) (y := none) ho hp rfl
  have h3 : (3 ≤ LB) = True := eq_true (by decide)
  have hin : inF false (.str "house") (.lst (evL es)) = some (.bl (es.any isHouse)) := by
    rw [evL_map, inF_strsL, any_house ho]
    simp
  unfold f_law_needs m_law_needs m_law_needs_p1 m_law_needs_p9 m_law_needs_p10
  push_cast [hr, hin, h3]
  rfl
end DX
namespace DK
open PySem PySem.Spec PyProof.Rows L2
end DK
namespace DX
open PySem PySem.Spec PyProof.Rows L2 DK
section
variable {K : PySem.W.Frag} [HasW K] {ρ : Env'} {μ μ1 μ2 : Mu} {ta tb : TE}
end
end DX
namespace DK
open PySem PySem.Spec PyProof.Rows L2
section
variable {α β : Type}
def atP : List (NestedKey × α × β) → NestedKey → Option β
  | [], _ => none
  | p :: r, k => if NestedKey.beq p.1 k = true then some p.2.2 else atP r k
def repP (k : NestedKey) (y : β) : List (NestedKey × α × β) → List (NestedKey × α × β)
  | [] => []
  | p :: r => (if NestedKey.beq p.1 k = true then (p.1, p.2.1, y) else p) :: repP k y r
def putP (l : List (NestedKey × α × β)) (k : NestedKey) (a : α) (y : β) : List (NestedKey × α × β) := match atP l k with
  | some _ => repP k y l
  | none => l ++ [(k, a, y)]
theorem beq_iff {a b : NestedKey} : NestedKey.beq a b = true ↔ a = b := ⟨NestedKey.eq_of_beq a b, fun e => by rw [e]; exact NestedKey.beq_self b⟩
end
abbrev ES : List (NestedKey × Addr × V) → List (NestedKey × Addr × Value) → Prop := Paired fun p q => p.1 = q.1 ∧ p.2.1 = q.2.1 ∧ RelV p.2.2 q.2.2
theorem ES.len {es : List (NestedKey × Addr × V)} {xs : List (NestedKey × Addr × Value)} (r : ES es xs) : es.length = xs.length := Paired.length r
theorem ES.at' {es : List (NestedKey × Addr × V)} {xs : List (NestedKey × Addr × Value)} (r : ES es xs) (k : NestedKey) : RelO (atP es k) ((atKey xs k).map (·.2)) := by
  induction r with
  | nil => exact True.intro
  | @cons p q ps qs h t ih =>
    by_cases c : NestedKey.beq p.1 k = true
    · have e : q.1 = k := h.1.symm.trans (beq_iff.mp c)
      rw [show atKey (q :: qs) k = some q.2 by simp [atKey, List.find?_cons, e]]
      unfold atP
      rw [if_pos c]
      exact h.2.2
    · have e : ¬ q.1 = k := fun z => c (beq_iff.mpr (h.1.trans z))
      rw [show atKey (q :: qs) k = atKey qs k by simp [atKey, List.find?_cons, e]]
      unfold atP
      rw [if_neg c]
      exact ih
theorem ES.rep {es : List (NestedKey × Addr × V)} {xs : List (NestedKey × Addr × Value)} (r : ES es xs) (k : NestedKey) {y : V} {u : Value} (ry : RelV y u) : ES (repP k y es) (xs.map (putAt k u)) := by
  induction r with
  | nil => exact .nil
  | @cons p q ps qs h t ih =>
    refine .cons ?_ ih
    unfold putAt
    by_cases c : NestedKey.beq p.1 k = true
    · rw [if_pos c, if_pos (h.1.symm.trans (beq_iff.mp c))]
      exact ⟨h.1, h.2.1, ry⟩
    · rw [if_neg c, if_neg (fun z => c (beq_iff.mpr (h.1.trans z)))]
      exact h
theorem ES.put {es : List (NestedKey × Addr × V)} {xs : List (NestedKey × Addr × Value)} (r : ES es xs) (k : NestedKey) (b : Addr) {y : V} {u : Value} (ry : RelV y u) : ES (putP es k b y) (storedH xs k b u) := by
  have e := r.at' k
  unfold putP
  cases c : atP es k with
  | some z =>
    rw [c] at e
    cases d : atKey xs k with
    | none => rw [d] at e; exact (show False from e).elim
    | some p => rw [storedH_old d]; exact r.rep k ry
  | none =>
    rw [c] at e
    cases d : atKey xs k with
    | some p => rw [d] at e; exact (show False from e).elim
    | none => rw [storedH_new d]; exact Paired.snoc r ⟨rfl, rfl, ry⟩
section
variable {X : Cx} {pins : List (Addr × Obj)} {σ : L2.St} {H : Hp} {s : Shared} {a : Addr} {A : Around} {E : Value → Shared → Prop}
end
section
variable {X : Cx} {o i e value : Expr} {pos pos' tpos : Pos} {td ty tv : TE}
theorem at_some {es : List (NestedKey × Addr × V)} {xs : List (NestedKey × Addr × Value)} (r : ES es xs) (k : NestedKey) : (atKey xs k).isSome = (atP es k).isSome := by
  have := (r.at' k).isSome_eq
  rw [Option.isSome_map] at this
  exact this.symm
end
end DK
namespace DK
open PySem PySem.Spec PyProof.Rows L2
section
variable {X : Cx}
end
end DK
namespace DK
open PySem PySem.Spec PyProof.Rows L2
end DK
namespace DX
open PySem PySem.Spec PyProof.Rows L2 DK
section
variable {X : Cx} {d : Addr}
end
section
variable {K : PySem.W.Frag} [HasW K] {w : World}
end
end DX
namespace DX
open PySem PySem.Spec PyProof.Rows L2 DK
def pick {α : Type} (π : List Nat) (xs : List α) : List α := π.filterMap fun i => xs[i]?
theorem vals_pick {vs : List V} {us : List Value} (r : Vals vs us) : ∀ π : List Nat, Vals (pick π vs) (pick π us)
  | [] => .nil
  | i :: π => by
    have ih := vals_pick r π
    unfold pick at ih ⊢
    cases e : vs[i]? with
    | none =>
      have hu : us[i]? = none := by
        rw [List.getElem?_eq_none_iff] at e ⊢
        rw [← r.length]
        exact e
      rw [List.filterMap_cons_none e, List.filterMap_cons_none hu]
      exact ih
    | some v =>
      obtain ⟨u, hu, hr⟩ := r.get e
      rw [List.filterMap_cons_some e, List.filterMap_cons_some hu]
      exact .cons hr ih
section
variable {K : PySem.W.Frag} [HasW K] {x qual : Str} {params : Arguments} {body : List Stmt} {scope : Scope} {dvs : List V} {kws : List (Str × V)} {f : Addr} {fd : FuncData} {ps : List Str}
theorem kbnD (F : FunD K x qual params body scope dvs kws f fd) (n : Nat) (ks : List Str) (π : List Nat) (j : Nat) (hd : dvs ≠ []) (hj : dvs.length = j)
    (h : ∀ (T : Addr) (kV doc pm : Value) (an : Option Addr) (cdv ct : Value) (us its ws : List Value), us.length = n → its.length = j → ws.length = ks.length →
      ∃ k, bindArgs (PySem.W.fnOf x qual params body scope (.ref T) kV doc pm an cdv ct) ⟨us, ks.zip ws⟩ = seqItems? (.ref T) >>= k ∧ k (some its.toArray) = pure (ps.zip (us ++ pick π ws))) :
    KBn K fd ps n ks (fun us ws => us ++ pick π ws) (fun vs zs => vs ++ pick π zs) := by
  obtain ⟨its, hb⟩ := F.kbindsD n ks (fun us _ ws => us ++ pick π ws) hd (fun r1 _ r3 => r1.append (vals_pick r3 π)) fun T kV doc pm an cdv ct us its ws h1 h2 h3 => h T kV doc pm an cdv ct us its ws h1 (h2.trans hj) h3
  exact hb
end
section
variable {K : PySem.W.Frag} [HasW K]
theorem repws_pick {G : Hp} {as : List Addr} {ws : List W} {vs : List V} (r : RepWs K G as ws vs) : ∀ π : List Nat, RepWs K G as (pick π ws) (pick π vs)
  | [] => rfl
  | i :: π => by
    have ih := repws_pick r π
    unfold pick at ih ⊢
    cases e : ws[i]? with
    | none =>
      have hu : vs[i]? = none := by
        rw [List.getElem?_eq_none_iff] at e ⊢
        rw [r.length]
        exact e
      rw [List.filterMap_cons_none e, List.filterMap_cons_none hu]
      exact ih
    | some v =>
      obtain ⟨u, hu, hr⟩ := r.get e
      rw [List.filterMap_cons_some e, List.filterMap_cons_some hu]
      exact ⟨_, _, rfl, hr, ih⟩
end
section
variable {X : Cx} {CX : CXT} {k : Nat} {f C : Addr} {fd : FuncData} {ps ks : List Str} {sp : Sp} {E : XK} {x m : Str} {p pos apos : Pos} {o : Expr} {kws : List Keyword} {ta : TE} {tk : TA} {π : List Nat} {nk : Nat}
end
end DX
namespace DX
open PySem PySem.Spec PyProof.Rows L2 DK
section
variable {K : PySem.W.Frag} [HasW K] {x qual : Str} {params : Arguments} {body : List Stmt} {scope : Scope} {dvs : List V} {kws : List (Str × V)} {f : Addr} {fd : FuncData} {ps : List Str}
end
section
variable {X : Cx} {CX : CXT} {k n m : Nat} {f C : Addr} {fd : FuncData} {ps ks : List Str} {sp : Sp} {E : XK} {x : Str} {p pos : Pos} {e : Expr} {es : List Expr} {kws : List Keyword} {t tk : TA} {π : List (Bool × Nat)} {dvs : List V}
end
section
variable {K : PySem.W.Frag} [HasW K] {ρ : Env'} {μ : Mu}
end
end DX
namespace DK
open PySem PySem.Spec PyProof.Rows L2
section
variable {X : Cx}
end
end DK
namespace DK
open PySem PySem.Spec PyProof.Rows L2
section
variable {K : PySem.W.Frag} [HasW K] {ρ ρ1 ρ2 : Env'} {μ μ1 μ2 μ3 : Mu} {ta tb te tc : TE} {w : W} {a b d : D} {i : Nat}
end
end DK
namespace DK
open PySem PySem.Spec PyProof.Rows L2
section
variable {K : PySem.W.Frag} {G : Hp}
theorem RepN.len : ∀ {kvs : List (NestedKey × D × D)} {es : List (NestedKey × Addr × V)}, RepN K G kvs es → es.length = kvs.length
  | [], _, h => by rw [show _ = [] from h]; rfl
  | (_, _, _) :: _, _, ⟨_, _, _, e, _, _, _, h⟩ => by rw [e, List.length_cons, List.length_cons, RepN.len h]
theorem RepN.at' {q : NestedKey} : ∀ {kvs : List (NestedKey × D × D)} {es : List (NestedKey × Addr × V)}, RepN K G kvs es → (atP kvs q = none ∧ atP es q = none) ∨ ∃ v y, atP kvs q = some v ∧ atP es q = some y ∧ Rep K G v y
  | [], _, h => by rw [show _ = [] from h]; exact .inl ⟨rfl, rfl⟩
  | (k, d, v) :: r, _, ⟨b, y, t, ev, h0, h1, h2, h3⟩ => by
    rw [ev]
    unfold atP
    by_cases c : NestedKey.beq k q = true
    · rw [if_pos c, if_pos c]; exact .inr ⟨v, y, rfl, rfl, h2⟩
    · rw [if_neg c, if_neg c]; exact RepN.at' h3
theorem RepN.rep {q : NestedKey} {v : D} {y : V} (hv : Rep K G v y) : ∀ {kvs : List (NestedKey × D × D)} {es : List (NestedKey × Addr × V)}, RepN K G kvs es → RepN K G (repP q v kvs) (repP q y es)
  | [], _, h => by rw [show _ = [] from h]; exact rfl
  | (k, d, u) :: r, _, ⟨b, x, t, ev, h0, h1, h2, h3⟩ => by
    rw [ev]
    by_cases c : NestedKey.beq k q = true
    · show RepN K G ((if NestedKey.beq k q = true then _ else _) :: _) ((if NestedKey.beq k q = true then _ else _) :: _)
      rw [if_pos c, if_pos c]
      exact ⟨b, y, _, rfl, h0, h1, hv, RepN.rep hv h3⟩
    · show RepN K G ((if NestedKey.beq k q = true then _ else _) :: _) ((if NestedKey.beq k q = true then _ else _) :: _)
      rw [if_neg c, if_neg c]
      exact ⟨b, x, _, rfl, h0, h1, h2, RepN.rep hv h3⟩
theorem RepN.app {q : NestedKey} {d v : D} {b : Addr} {y : V} (h0 : nkT d = some q) (h1 : Rep K G d (.ref b)) (h2 : Rep K G v y) : ∀ {kvs : List (NestedKey × D × D)} {es : List (NestedKey × Addr × V)}, RepN K G kvs es → RepN K G (kvs ++ [(q, d, v)]) (es ++ [(q, b, y)])
  | [], _, h => by rw [show _ = [] from h]; exact ⟨b, y, [], rfl, h0, h1, h2, rfl⟩
  | (k, e, u) :: r, _, ⟨c, x, t, ev, k0, k1, k2, k3⟩ => by
    rw [ev]
    exact ⟨c, x, _, rfl, k0, k1, k2, RepN.app h0 h1 h2 k3⟩
theorem RepN.put {q : NestedKey} {d v : D} {b : Addr} {y : V} {kvs : List (NestedKey × D × D)} {es : List (NestedKey × Addr × V)} (h : RepN K G kvs es) (h0 : nkT d = some q) (h1 : Rep K G d (.ref b)) (h2 : Rep K G v y) : RepN K G (putP kvs q d v) (putP es q b y) := by
  unfold putP
  rcases h.at' (q := q) with ⟨e1, e2⟩ | ⟨u, x, e1, e2, _⟩
  · rw [e1, e2]; exact RepN.app h0 h1 h2 h
  · rw [e1, e2]; exact RepN.rep h2 h
end
end DK
namespace DX
open PySem PySem.Spec PyProof.Rows L2 DK
section
variable {K : PySem.W.Frag} [HasW K] {G H : Hp} {as : List Addr} {P : Addr → Prop} {ρ : Env'} {μ : Mu} {σ : L2.St}
inductive DcN (K : PySem.W.Frag) [HasW K] (g : TG) (tt : TT) (tk tv : TE) (vs : List Nat) (C : Mu → Prop) (ρ : Env') : List D → Mu → List (NestedKey × D × D) → Mu → List (NestedKey × D × D) → Prop where
  | nil {μ : Mu} {acc : List (NestedKey × D × D)} : DcN K g tt tk tv vs C ρ [] μ acc μ acc
  | skip {x : D} {xs : List D} {ρ1 : Env'} {μ μ1 μ' : Mu} {acc out : List (NestedKey × D × D)} : EvGc K g x vs ρ ρ1 → EvB K tt ρ1 μ false μ1 → C μ1 → DcN K g tt tk tv vs C ρ xs μ1 acc μ' out → DcN K g tt tk tv vs C ρ (x :: xs) μ acc μ' out
  | take {x y d : D} {k : NestedKey} {xs : List D} {ρ1 : Env'} {μ μ1 μ2 μ3 μ' : Mu} {acc out : List (NestedKey × D × D)} : EvGc K g x vs ρ ρ1 → EvB K tt ρ1 μ true μ1 → Ev K tk ρ1 μ1 (.val d) μ2 → nkT d = some k → Ev K tv ρ1 μ2 (.val y) μ3 → C μ3 →
      DcN K g tt tk tv vs C ρ xs μ3 (putP acc k d y) μ' out → DcN K g tt tk tv vs C ρ (x :: xs) μ acc μ' out
end
end DX
namespace DX
open PySem PySem.Spec L2 DK
end DX
namespace DX
open PySem PySem.Spec PyProof.Rows L2 DK
section
variable {K : PySem.W.Frag} [HasW K]
end
section
variable {K : PySem.W.Frag}
end
end DX
namespace DX
open PySem PySem.Spec PyProof.Rows L2 DK
section
variable {K : PySem.W.Frag} [HasW K]
end
end DX
namespace DX
open PySem PySem.Spec PyProof.Rows L2 DK
section
variable {K : PySem.W.Frag} [HasW K]
end
end DX
namespace DX
open PySem PySem.Spec PyProof.Rows L2 DK
section
variable {K : PySem.W.Frag} [HasW K] {G H : Hp} {as : List Addr} {P : Addr → Prop} {ρ : Env'} {μ : Mu} {σ : L2.St}
end
end DX
namespace DX
open PySem PySem.Spec L2 DK
def m_Terms_str : RS :=
  (mSeq (mAsg (mOp plusF (mOp timesF (mLst (mCons (mC (.str "elder")) mNil)) (mUn intF (mFld "Terms" "elder" (mVar 0)))) (mOp timesF (mLst (mCons (mC (.str "house")) mNil)) (mUn intF (mFld "Terms" "house" (mVar 0))))) (hName 1))
      (mRet (mJoin (mC (.str " ")) (mLst (mCons (mC (.str "skips")) (mCons (mIf (mTest (mIsN false (mFld "Terms" "skips" (mVar 0)))) (mC (.str "any")) (mUn strF (mFld "Terms" "skips" (mVar 0)))) (mStar (mVar 1) mNil)))))))
def f_Terms_str : FX := bodyF true 1 2 m_Terms_str
end DX
namespace DX
open PySem PySem.Spec L2 DK
def m_Terms_lets : RS :=
  (mSeq (mAsg (mFld "Story" "needs" (mVar 1)) (hName 2))
      (mSeq (mIfS (mAnd (mTest (mIsN true (mFld "Terms" "skips" (mVar 0)))) (mTest (mOp gtF (mFld "Terms" "skips" (mVar 2)) (mFld "Terms" "skips" (mVar 0))))) (mRet (mC (.bl false))) mNext)
      (mRet (mAndV (mOrV (mFld "Terms" "elder" (mVar 0)) (mNotV (mFld "Terms" "elder" (mVar 2)))) (mOrV (mFld "Terms" "house" (mVar 0)) (mNotV (mFld "Terms" "house" (mVar 2))))))))
def f_Terms_lets : FX := bodyF true 2 3 m_Terms_lets
end DX
namespace DK
open PySem PySem.Spec PyProof.Rows L2
def rDUpd : V → List V → Hp → VK → Prop := fun x xs H Q => ∃ (a o : Addr) (kvs more : List (Key × V)), x = .ref a ∧ xs = [.ref o] ∧ a ≠ o ∧ H a = some (.dK kvs) ∧ H o = some (.dK more) ∧ kvs.length + more.length ≤ 1000 ∧ Q .non (upd H a (.dK (mergeK kvs more)))
theorem mt_dupd {X : Cx} : MtR X "dict.update" rDUpd := by
  intro pins s σ H x xs v us Q I rx r hr
  obtain ⟨a, o, kvs, more, rfl, rfl, ne, ha, ho, hz, q⟩ := hr
  obtain rfl : v = Value.ref a := rx
  rw [Vals.ref1 r]
  obtain ⟨z1, hd1, vs, rel1, dd1⟩ := dk_of I.hok ha
  obtain ⟨z2, hd2, rs, rel2, dd2⟩ := dk_of I.hok ho
  have hl : (mergeK kvs more).length ≤ sizeLine := by
    have := length_mergeK more kvs
    rw [sizeLine_eq]
    omega
  refine call_meetsIn PySem.F.slot_dict_update dd1.typeIs PySem.F.entry_dict_update (PySem.F.args_dict_update_2 _ _) (meets_dict_update (mixKind X.prog X.w) a o ne hd2) ⟨vs, rs, dd1, dd2, by rw [← rel1.length, ← rel2.length, sizeLine_eq]; omega, fun h' d1 d2 sb => ?_⟩
  have he : ∃ q, h'.get? a = some q := let ⟨q, _, _, hq, _⟩ := d1; ⟨q, hq⟩
  exact ⟨.non, _, d_write (t' := s.toks) I (by rw [ha]; exact True.intro) sb he (dk_new hl hd1 (KV.merge rel2 rel1) d1), rfl, q⟩
section
variable {P : Program} {w : World} {A : Around} {E : Value → Shared → Prop} {s : Shared}
theorem nsSet_new {a : Addr} {acc : List (Key × Value)} {name : Str} {v : Value} {Q : Unit → Shared → Prop} (hd : s.heap.DictOf (mixKind P w) a acc) (hn : (Sum.inr name : Key) ∉ acc.map (·.1))
    (h : ∀ h', h'.DictOf (mixKind P w) a (acc ++ [(.inr name, v)]) → Heap.SameBut a s.heap h' → Q () { s with heap := h', toks := s.toks + 1 }) : wpAny (model P w) A (nsSet a name v) Q E s := fun Γ p _ => by
  obtain ⟨o, es, ep, ho, hc, hdat, hk, hp, hnd⟩ := hd
  have isk : ∀ tk : Tok, (mixKind P w).is (.inr name) (.str name tk) = true := fun tk => kV_is (show RelV (kV (.inr name)) (.str name tk) from ⟨tk, rfl⟩)
  have nokey : ∀ e ∈ es.toList, e.key.isStr name = false := by
    have key : ∀ {l : List DictEntry} {kv : List (Key × Value)}, Pairs (mixKind P w) l kv → (Sum.inr name : Key) ∉ kv.map (·.1) → ∀ e ∈ l, e.key.isStr name = false := by
      intro l kv hp
      induction hp with
      | nil => intro _ e he; cases he
      | @cons e0 kv0 l kvs h1 h2 _ ih =>
        intro hno e he
        rw [List.map_cons, List.mem_cons, not_or] at hno
        rcases List.mem_cons.mp he with q | q
        · subst q
          cases hs : e.key.isStr name with
          | false => rfl
          | true =>
            exfalso
            have hk2 : (mixKind P w).is (.inr name) e.key = true := ((mixKind P w).strs (.inr name) name 0 e.key (isk 0)).trans hs
            exact hno.1 ((mixKind P w).inj _ _ _ hk2 h1)
        · exact ih hno.2 e q
    exact key hp hn
  have hi : es.findIdx? (·.key.isStr name) = none := by
    rw [Array.findIdx?_eq_none_iff]
    intro e he
    exact nokey e (Array.mem_toList_iff.mpr he)
  have hany : es.any (·.refKey) = false := by
    rw [Array.any_eq_false']
    intro e he
    obtain ⟨k, hk1, _⟩ := hk e he
    rcases keyIs_shape (show keyIs k e.key = true from hk1) with ⟨i, t, _, q⟩ | ⟨x, t, _, q⟩ <;> simp [DictEntry.refKey, q]
  simp only [nsSet, strHash, Sem.wp_bind', Sem.wp_cmd_ask, Sem.wp_pure', Sem.wp_cmd_mkText]
  rw [Sem.wp_loadPart_of (model P w) Γ _ p { s with toks := s.toks + 1 } (o := o) _ ho]
  simp only [hdat, aRefKeyMayBeTheName_eq, aRefKeyMayBeTheNameByArray, hany, Bool.and_false, Bool.false_eq_true, if_false, Sem.wp_cmd_updatePart]
  refine ⟨by rw [ho]; rfl, h _ ?_ (Heap.SameBut.update ..)⟩
  obtain ⟨c, d, dt, sl⟩ := o
  subst hdat
  refine ⟨_, _, ep + 1, Heap.get?_update_self _ ho (by simp only [Obj.putName_eq, Obj.putNameByArray, hi]; rfl), ?_, by simp only [Obj.putName_eq, Obj.putNameByArray, hi]; rfl, hk.push (k := .inr name) (isk _) v, ?_, ?_⟩
  · simp only [Obj.putName_eq, Obj.putNameByArray, hi]
    exact hc
  · have := hp.append (k := .inr name) (key := .str name s.toks) (isk _) ((mixKind P w).hash (.inr name)) v
    rw [Array.toList_push]
    exact this
  · rw [List.map_append, List.map_cons, List.map_nil, List.nodup_append]
    refine ⟨hnd, by simp, fun x hx y hy => ?_⟩
    rw [List.mem_singleton] at hy
    subst hy
    rintro rfl
    exact hn hx
end
end DK
namespace DK
open PySem PySem.Spec PyProof.Rows L2 PySem.W
section
variable {M : Model} {A : Around} {E : Value → Shared → Prop} {s : Shared} {pos : Pos} {f : Value} {first : List Value} {Q : Value → Shared → Prop}
theorem callWith_KS {P : Heap → Prop} {args : List (Bool × Sem Value)} {keywords : List (Option Str × Sem Value)} (hst : (args.any (·.1) || keywords.any (·.1.isNone)) = true)
    (hk : ∀ h, P h → ∃ k, (k = Keeper.frame ∨ k = Keeper.machine ∨ k = Keeper.boundFrame) ∧ Looks M h (keeperOf f) k)
    (h : wpAny M A (evalArgs f true args keywords) (fun a s₁ => P s₁.heap ∧ wpAny M A (call f (first ++ a.pos) a.kw) Q E s₁) E s) : wpAny M A (callWith pos f first args keywords) Q E s := by
  unfold callWith
  refine wpAny_bind (wpAny_holding (wpAny_mono h (fun a s₁ h₁ => wpAny_bind (wpAny_standAt ?_)) fun _ _ x => x))
  obtain ⟨k, hk', L⟩ := hk _ h₁.1
  simp only [hst]
  refine wpAny_bind (L.here ?_)
  have tail : ∀ {t : Sem Value}, wpAny M A t Q E s₁ → wpAny M A (t >>= fun r => holding [r] point >>= fun _ => pure r) Q E s₁ :=
    fun ht => wpAny_bind (wpAny_mono ht (fun r s₂ hr => wpAny_bind (wpAny_holding (wpAny_point (wpAny_pure hr)))) fun _ _ x => x)
  rcases hk' with rfl | rfl | rfl
  · dsimp only
    refine tail ?_
    unfold callMarked
    exact Calls.wpAny_keep h₁.2
  · dsimp only
    exact tail (wpAny_operate' h₁.2)
  · dsimp only
    exact tail (wpAny_operate' h₁.2)
end
section
variable {P : Program} {w : World} {A : Around} {E : Value → Shared → Prop} {s : Shared}
theorem find_none {es : Array DictEntry} {acc : List (Key × Value)} {k : Key} (hp : Pairs (mixKind P w) es.toList acc) (hn : k ∉ acc.map (·.1)) : (es.findIdx? fun e => (mixKind P w).is k e.key) = none := by
  rw [Array.findIdx?_eq_none_iff]
  intro e he
  have key' : ∀ {l : List DictEntry} {kv : List (Key × Value)}, Pairs (mixKind P w) l kv → k ∉ kv.map (·.1) → ∀ e ∈ l, (mixKind P w).is k e.key = false := by
    intro l kv hp
    induction hp with
    | nil => intro _ e he; cases he
    | @cons e0 kv0 l kvs h1 h2 _ ih =>
      intro hno e he
      rw [List.map_cons, List.mem_cons, not_or] at hno
      rcases List.mem_cons.mp he with q | q
      · subst q
        cases hs : (mixKind P w).is k e.key with
        | false => rfl
        | true => exact absurd ((mixKind P w).inj _ _ _ hs h1) hno.1
      · exact ih hno.2 e q
  exact key' hp hn e (Array.mem_toList_iff.mpr he)
theorem dictPut_new {d : Addr} {acc : List (Key × Value)} {k : Key} {key v : Value} {Q : Unit → Shared → Prop} (hd : s.heap.DictOf (mixKind P w) d acc) (hk : (mixKind P w).is k key = true) (hn : k ∉ acc.map (·.1)) (hz : acc.length < 1000)
    (h : ∀ h', h'.DictOf (mixKind P w) d (acc ++ [(k, v)]) → Heap.SameBut d s.heap h' → Q () { s with heap := h' }) : wpAny (model P w) A (dictPut d ((mixKind P w).hash k) key v) Q E s := by
  obtain ⟨o, es, ep, ho, hc, hdat, hko, hp, hnd⟩ := hd
  have hi := find_none hp hn
  have hsz : es.size = acc.length := by rw [← hp.length]; simp
  unfold dictPut
  refine wpAny_bind (wpAny_dictFind_of hk ho hdat hko ?_)
  rw [hi]
  dsimp only
  have hes : (es.push ⟨(mixKind P w).hash k, key, v⟩).size ≤ sizeLine + 1 := by rw [Array.size_push, hsz, sizeLine_eq]; omega
  refine wpAny_updateDictKeysTo ho hdat (h _ ⟨_, _, ep + 1, Heap.get?_update_self _ ho (Obj.isFreed_of_dict (Obj.data_mapDictKeys hdat _)), hc.mapDictKeys _, Obj.data_mapDictKeys hdat _, hko.push hk _, ?_, ?_⟩ (Heap.SameBut.update ..)) hes
  · have := hp.append hk ((mixKind P w).hash k) v
    rw [Array.toList_push]
    exact this
  · rw [List.map_append, List.map_cons, List.map_nil, List.nodup_append]
    refine ⟨hnd, by simp, fun x hx y hy => ?_⟩
    rw [List.mem_singleton] at hy
    subst hy
    rintro rfl
    exact hn hx
end
end DK
namespace DK
open PySem PySem.Spec PyProof.Rows L2
section
variable {P : Program} {w : World} {A : Around} {E : Value → Shared → Prop} {s : Shared}
theorem merge_fresh {d o : Addr} {more : List (Key × Value)} {Q : Unit → Shared → Prop} (hd : s.heap.DictOf (mixKind P w) d []) (ho : s.heap.DictOf (mixKind P w) o more) (ne : d ≠ o) (hoS : (o == sysModules) = false) (hz : more.length < 1000)
    (h : ∀ h', h'.DictOf (mixKind P w) d more → h'.DictOf (mixKind P w) o more → Heap.SameBut d s.heap h' → Q () { s with heap := h' }) : wpAny (model P w) A (mergeMapping d (.ref o) true) Q E s := by
  obtain ⟨od, esd, epd, hod, hcd, hdd, hkd, hpd, hnd⟩ := id hd
  obtain ⟨oo, eso, epo, hoo, hco, hdo, hko, hpo, hno⟩ := id ho
  have hlen : eso.size = more.length := by rw [← hpo.length]; simp
  have hemp : esd = #[] := by
    have := hpd.length
    simp at this
    exact this
  unfold mergeMapping
  refine wpAny_bind (wpAny_isInstance ho.typeIs isSubtype_dict_dict ?_)
  simp only [if_true]
  refine wpAny_bind (wpAny_specialOf ho.typeIs PySem.F.slot_dict_iter.lookup (wpAny_bind (wpAny_pure ?_)))
  simp only [beq_self_eq_true]
  rw [hoS]
  simp only [Bool.false_eq_true, if_false]
  refine wpAny_bind (wpAny_dictEntries hod hdd ?_)
  rw [if_pos (by rw [hemp]; rfl)]
  refine wpAny_bind (wpAny_dictEntries hoo hdo ?_)
  refine wpAny_bind ?_
  have nokey : ∀ e ∈ eso.toList, ∀ a, e.key ≠ .ref a := fun e he a => by
    obtain ⟨k, hk, _⟩ := hko e (Array.mem_toList_iff.mp he)
    rcases keyIs_shape (show keyIs k e.key = true from hk) with ⟨i, t, _, q⟩ | ⟨x, t, _, q⟩ <;> (rw [q]; exact nofun)
  rw [← Array.forIn_toList]
  refine wpAny_forIn_list _ (fun rest r s' => s' = s ∧ ∀ e ∈ rest, ∀ a, e.key ≠ .ref a) _ ?_ ?_ _ _ ⟨rfl, nokey⟩
  · rintro e rest r s' ⟨rfl, hall⟩
    have h1 := hall e List.mem_cons_self
    have h2 : ∀ e ∈ rest, ∀ a, e.key ≠ .ref a := fun x hx => hall x (List.mem_cons_of_mem _ hx)
    split
    · rename_i a ha
      exact absurd ha (h1 a)
    · exact wpAny_pure ⟨rfl, h2⟩
  rintro r s' ⟨rfl, _⟩
  refine wpAny_bind (wpAny_dictEntries hoo hdo ?_)
  refine wpAny_bind (wpAny_dictEpoch hoo hdo ?_)
  refine wpAny_bind ?_
  refine wpAny_forIn_list _ (fun rest r s2 => ∃ h' i, s2 = { s' with heap := h' } ∧ rest = List.range' i (eso.size - i) ∧ i ≤ eso.size ∧ h'.DictOf (mixKind P w) d (more.take i) ∧ h'.get? o = some oo ∧ Heap.SameBut d s'.heap h') _ ?_ ?_ _ _ ⟨s'.heap, 0, rfl, by rw [List.range_eq_range']; rfl, Nat.zero_le _, by simpa using hd, hoo, Heap.SameBut.refl _ _⟩
  · rintro x rest b s2 ⟨h', i, rfl, hr, hi, hd', hoo', hs'⟩
    have hlt : i < eso.size := by
      rcases Nat.lt_or_ge i eso.size with q | q
      · exact q
      · rw [Nat.sub_eq_zero_of_le q] at hr; simp at hr
    obtain ⟨rfl, hrest⟩ : x = i ∧ rest = List.range' (i + 1) (eso.size - (i + 1)) := by
      have e : eso.size - i = (eso.size - (i + 1)) + 1 := by omega
      rw [e, List.range'_succ] at hr
      injection hr with h1 h2
      exact ⟨h1, h2⟩
    refine wpAny_bind (wpAny_dictEntries hoo' hdo ?_)
    rw [Array.getElem?_eq_getElem hlt]
    obtain ⟨kv, hkv⟩ : ∃ kv, more[x]? = some kv := ⟨more[x]'(by rw [← hlen]; exact hlt), List.getElem?_eq_getElem _⟩
    obtain ⟨k, v⟩ := kv
    obtain ⟨hkey, hval⟩ := hpo.get? (e := eso[x]) (by simp [hlt]) hkv
    obtain ⟨k', hkey', hhash⟩ := hko eso[x] (Array.getElem_mem hlt)
    obtain rfl : k' = k := (mixKind P w).inj _ _ _ hkey' hkey
    dsimp only
    have hfresh : k' ∉ (more.take x).map (·.1) := fun hm => by
      have hx : x < more.length := by rw [← hlen]; exact hlt
      have e1 : more.take (x + 1) = more.take x ++ [(k', v)] := by rw [List.take_add_one, hkv]; rfl
      have h1 : ((more.take (x + 1)).map (·.1)).Nodup := List.Sublist.nodup (List.Sublist.map _ (List.take_sublist _ _)) hno
      rw [e1, List.map_append, List.nodup_append] at h1
      exact h1.2.2 _ hm k' (by simp) rfl
    rw [hhash, hval]
    refine wpAny_bind (wpAny_holding ?_)
    obtain ⟨o2, es2, ep2, ho2, hc2, hd2, hk2, hp2, hn2⟩ := id hd'
    refine wpAny_bind (wpAny_dictFind_of hkey' ho2 hd2 hk2 ?_)
    have hi2 := find_none hp2 hfresh
    rw [hi2]
    simp only [Option.isSome_none, Bool.false_eq_true, if_false]
    refine dictPut_new (s := { s' with heap := h' }) hd' hkey' hfresh (by rw [List.length_take]; omega) fun h'' hd'' hs'' => ?_
    have hoo'' : h''.get? o = some oo := (hs''.2 o (Ne.symm ne)).trans hoo'
    refine wpAny_bind (wpAny_dictEpoch hoo'' hdo ?_)
    rw [if_neg (by simp)]
    exact wpAny_pure ⟨h'', x + 1, rfl, hrest, hlt, by rw [List.take_add_one, hkv]; exact hd'', hoo'', hs'.trans hs''⟩
  · rintro b s2 ⟨h', i, rfl, hr, hi, hd', hoo', hs'⟩
    have hin : i = eso.size := by
      rcases Nat.lt_or_ge i eso.size with q | q
      · have e : eso.size - i = (eso.size - (i + 1)) + 1 := by omega
        rw [e, List.range'_succ] at hr; exact nomatch hr
      · exact Nat.le_antisymm hi q
    rw [hin, hlen, List.take_length] at hd'
    refine wpAny_pure (h h' hd' ⟨oo, eso, epo, hoo', hco, hdo, hko, hpo, hno⟩ hs')
end
end DK
namespace DK
open PySem PySem.Spec PyProof.Rows L2
section
variable {P : Program} {w : World} {A : Around} {E : Value → Shared → Prop} {s : Shared}
def kwsOf : List (Key × Value) → List (Str × Value)
  | [] => []
  | (.inr k, v) :: r => (k, v) :: kwsOf r
  | (.inl _, _) :: r => kwsOf r
theorem kwIn {f : Value} {d : Addr} {rs : List (Key × Value)} {Q : List (Str × Value) → Shared → Prop} (hd : s.heap.DictOf (mixKind P w) d rs) (hk : ∀ p ∈ rs, ∃ k, p.1 = .inr k) (h : Q (kwsOf rs) s) : wpAny (model P w) A (keywordsIn f d) Q E s := by
  obtain ⟨o, es, ep, ho, hc, hdat, hko, hp, hnd⟩ := hd
  have gen : ∀ {l : List DictEntry} {r : List (Key × Value)}, Pairs (mixKind P w) l r → (∀ p ∈ r, ∃ k, p.1 = .inr k) → ∀ (f2 : DictEntry → List (Str × Value) → Sem (ForInStep (List (Str × Value)))) (acc : List (Str × Value)),
      (∀ e k t acc, e.key = .str k t → f2 e acc = pure (.yield (acc ++ [(k, e.val)]))) → ∀ (Q : List (Str × Value) → Shared → Prop), Q (acc ++ kwsOf r) s → wpAny (model P w) A (forIn l acc f2) Q E s := by
    intro l r hp
    induction hp with
    | nil =>
      intro _ f2 acc _ Q hQ
      rw [show acc ++ kwsOf [] = acc from List.append_nil _] at hQ
      exact wpAny_pure hQ
    | @cons e kv l r h1 h2 _ ih =>
      intro hk f2 acc hf Q hQ
      obtain ⟨k, v⟩ := kv
      obtain ⟨k', hk'⟩ := hk (k, v) List.mem_cons_self
      dsimp only at hk' h1 h2
      subst hk'
      rcases keyIs_shape (show keyIs (.inr k') e.key = true from h1) with ⟨i, t, q, _⟩ | ⟨x, t, q, q2⟩
      · cases q
      · cases q
        rw [List.forIn_cons, hf e k' t acc q2]
        refine wpAny_bind (wpAny_pure ?_)
        dsimp only
        refine ih (fun p hp => hk p (List.mem_cons_of_mem _ hp)) f2 _ hf Q ?_
        rw [List.append_assoc, h2]
        exact hQ
  unfold keywordsIn
  refine wpAny_bind (wpAny_dictEntries ho hdat ?_)
  refine wpAny_bind ?_
  rw [← Array.forIn_toList]
  refine gen hp hk _ [] ?_ _ ?_
  · intro e k t acc he
    rw [he]
  · exact wpAny_pure h
end
end DK
namespace DK
open PySem PySem.Spec PyProof.Rows L2
section
variable {P : Program} {w : World} {A : Around} {E : Value → Shared → Prop} {s : Shared}
def dict0 : Obj := { cls := .type "dict", data := .dict #[] }
theorem merged_one {f : Value} {x : Sem Value} {Q : Addr → Shared → Prop}
    (h : wpAny (model P w) A x (fun v s1 => ∃ o more, v = .ref o ∧ s1.heap.DictOf (mixKind P w) s.heap.objs.size [] ∧ s1.heap.DictOf (mixKind P w) o more ∧ s.heap.objs.size ≠ o ∧ (o == sysModules) = false ∧ more.length < 1000 ∧
      ∀ h', h'.DictOf (mixKind P w) s.heap.objs.size more → h'.DictOf (mixKind P w) o more → Heap.SameBut s.heap.objs.size s1.heap h' → Q s.heap.objs.size { s1 with heap := h' }) E { s with heap := s.heap.push dict0 }) :
    wpAny (model P w) A (mergedKeywords f [(none, x)]) Q E s := by
  unfold mergedKeywords
  refine wpAny_bind (wpAny_alloc ?_)
  refine wpAny_bind (wpAny_holding ?_)
  dsimp only
  rw [List.forIn_cons]
  refine wpAny_bind (wpAny_bind ?_)
  dsimp only
  refine wpAny_bind (wp_if_pos rfl (wpAny_pure ?_))
  refine wpAny_bind (wpAny_mono h (fun v s1 ⟨o, more, e, d1, d2, ne, hoS, hz, q⟩ => ?_) fun _ _ z => z)
  subst e
  refine wpAny_bind (wpAny_onRaise (wpAny_holding (wpAny_tryCatch (wpAny_onRaise (merge_fresh d1 d2 ne hoS hz fun h' q1 q2 sb => ?_)))))
  refine wpAny_pure ?_
  dsimp only
  refine wpAny_pure ?_
  refine wp_if_pos rfl (wpAny_pure ?_)
  exact wpAny_pure (q h' q1 q2 sb)
theorem evalArgs_kw1 {f : Value} {x : Sem Value} {Q : Args → Shared → Prop}
    (h : wpAny (model P w) A x (fun v s1 => ∃ o more, v = .ref o ∧ s1.heap.DictOf (mixKind P w) s.heap.objs.size [] ∧ s1.heap.DictOf (mixKind P w) o more ∧ s.heap.objs.size ≠ o ∧ (o == sysModules) = false ∧ more.length < 1000 ∧ (∀ p ∈ more, ∃ k, p.1 = .inr k) ∧
      ∀ h', h'.DictOf (mixKind P w) s.heap.objs.size more → h'.DictOf (mixKind P w) o more → Heap.SameBut s.heap.objs.size s1.heap h' → Q ⟨[], kwsOf more⟩ { s1 with heap := h' }) E { s with heap := s.heap.push dict0 }) :
    wpAny (model P w) A (evalArgs f true [] [(none, x)]) Q E s := by
  unfold evalArgs
  refine wpAny_bind (Calls.spliced_nil (wpAny_bind (wpAny_pure ?_)))
  dsimp only
  refine wpAny_holding ?_
  refine wp_if_neg (by simp) ?_
  refine wpAny_bind (merged_one (wpAny_mono h (fun v s1 ⟨o, more, e, d1, d2, ne, hoS, hz, hk, q⟩ => ⟨o, more, e, d1, d2, ne, hoS, hz, fun h' q1 q2 sb => ?_⟩) fun _ _ z => z))
  refine wpAny_bind (wpAny_pure ?_)
  refine wpAny_bind (wpAny_holding (kwIn (s := { s1 with heap := h' }) q1 hk ?_))
  exact wpAny_pure (q h' q1 q2 sb)
end
end DK
namespace DK
open PySem PySem.Spec PyProof.Rows L2 PySem.W
def kvS (ks : List Str) (zs : List V) : List (Key × V) := (ks.zip zs).map fun p => (.inr p.1, p.2)
def tMakeSS (C : Addr) (ks : List Str) (sp : Sp) (gV : List V → List V → List V) (E : XK) (te : TE) : TE := fun σ H Q => ∀ d, H d = none → te σ (upd H d (.dK [])) fun x H1 => ∃ o zs, x = .ref o ∧ o ≠ d ∧ H1 o = some (.dK (kvS ks zs)) ∧ H1 d = some (.dK []) ∧ zs.length = ks.length ∧ ks.length < 100 ∧
  ∀ y dx, upd H1 d (.dK (kvS ks zs)) y = none → upd H1 d (.dK (kvS ks zs)) dx = none → dx ≠ y → sp (gV [.ref y] zs) (upd (upd (upd H1 d (.dK (kvS ks zs))) dx (.own y)) y (.ins C dx [])) (fun v H3 => v = .non ∧ Q (.ref y) H3) E
theorem kws_vals : ∀ {ks : List Str} {zs : List V} {rs : List (Key × Value)}, KV (kvS ks zs) rs → zs.length = ks.length → ∃ ws, kwsOf rs = ks.zip ws ∧ Vals zs ws
  | [], [], rs, h, _ => by
    cases h
    exact ⟨[], rfl, .nil⟩
  | k :: ks, z :: zs, rs, h, hl => by
    have h2 : KV ((.inr k, z) :: kvS ks zs) rs := h
    cases h2 with
    | cons a b =>
      rename_i q r
      obtain ⟨ws, e, v⟩ := kws_vals b (by simpa using hl)
      obtain ⟨k2, u⟩ := q
      obtain ⟨e1, e2⟩ := a
      dsimp only at e1 e2
      subst e1
      exact ⟨u :: ws, by rw [kwsOf, e]; rfl, .cons e2 v⟩
  | [], _ :: _, _, _, hl => by simp at hl
  | _ :: _, [], _, _, hl => by simp at hl
section
variable {X : Cx} {CX : CXT} {k : Nat} {f C : Addr} {fd : FuncData} {ps ks : List Str} {sp : Sp} {E : XK} {x : Str} {p pos kp : Pos} {e : Expr} {te : TE} {g : List Value → List Value → List Value} {gV : List V → List V → List V}
theorem pe_makeSS (M : Mk X.K C f) (F : FnOk X.prog X.w X.K X.mg X.base CX k f fd ps sp) (hr : Room (k + 1) X.A) (hg : Gl X x) (hm : X.mg x = some (.ref C)) (hb : KBn X.K fd ps 1 ks g gV) (hx : Passes CX X E) (he : PE X e te)
    (hdb : (x == ("__debug__" : Str)) = false := by decide) : PE X (.Call (.Name x p) [] [⟨none, e, kp⟩] pos) (tMakeSS C ks sp gV E te) := by
  refine ⟨fun pins s σ H Q I h => ?_⟩
  refine wpAny_Call_Name_kw (ld_glob I hg hm ?_ hdb)
  refine callWith_KS (P := fun h => X.K.In h) (by rfl) (keeps_K M.kp) ?_
  have hd0 : H s.heap.objs.size = none := I.hok.fresh (Nat.le_refl _)
  have I0 : Inv X pins σ (upd H s.heap.objs.size (.dK [])) { s with heap := s.heap.push dict0 } :=
    I.laid (t' := s.toks) (fun _ _ e => Heap.get?_push_of_some _ e) (Nat.le_refl _) (dk_empty s.heap I.big)
  show wpAny _ _ (evalArgs (.ref C) true [] [(none, eval e X.env >>= fun v => standAt pos >>= fun _ => pure v)]) _ _ s
  refine evalArgs_kw1 (wpAny_bind (thn (he.run pins _ σ _ _ I0 (h _ hd0)) fun v s1 ⟨y, H1, I1, r, o, zs, ey, ne, ho, hd, hl, hk, q⟩ => wpAny_bind (wpAny_standAt (wpAny_pure ?_))))
  subst ey
  obtain rfl : v = Value.ref o := r
  obtain ⟨z1, hs1, vs, rel1, dd1⟩ := dk_of I1.hok hd
  obtain ⟨z2, hs2, rs, rel2, dd2⟩ := dk_of I1.hok ho
  have e1 : vs = [] := by cases rel1; rfl
  subst e1
  obtain ⟨ws, ek, rz⟩ := kws_vals rel2 hl
  have hkeys : ∀ q ∈ rs, ∃ k, q.1 = .inr k := fun q hq => by
    have h1 : q.1 ∈ (kvS ks zs).map (·.1) := by
      rw [rel2.keys]
      exact List.mem_map_of_mem hq
    obtain ⟨a, ha, ea⟩ := List.mem_map.mp h1
    obtain ⟨b, hb, eb⟩ := List.mem_map.mp ha
    exact ⟨b.1, by rw [← ea, ← eb]⟩
  have hrl : rs.length < 1000 := by
    rw [← rel2.length]
    show ((ks.zip zs).map _).length < 1000
    rw [List.length_map, List.length_zip]
    omega
  refine ⟨o, rs, rfl, dd1, dd2, Ne.symm ne, hs2, hrl, hkeys, fun h' q1 q2 sb => ?_⟩
  have hz : (kvS ks zs).length ≤ sizeLine := by
    rw [rel2.length, sizeLine_eq]
    omega
  have hex : ∃ q, h'.get? s.heap.objs.size = some q := let ⟨q, _, _, hq, _⟩ := q1; ⟨q, hq⟩
  have I2 : Inv X pins σ (upd H1 s.heap.objs.size (.dK (kvS ks zs))) { s1 with heap := h' } := d_write (t' := s1.toks) I1 (by rw [hd]; exact True.intro) sb hex (dk_new hz hs1 rel2 q1)
  refine ⟨I2.kIn, ?_⟩
  rw [ek]
  exact run_makeN (n := 0) M F hr hb hx I2 (us := []) (vs := []) .nil rz rfl hl q
end
end DK
namespace DK
open PySem PySem.Spec PyProof.Rows L2
def setAll (d : Addr) (kw : List (Str × Value)) : Sem PUnit := forIn kw PUnit.unit fun x _ => do
  nsSet d x.1 x.2
  pure (ForInStep.yield PUnit.unit)
section
variable {P : Program} {w : World} {A : Around} {E : Value → Shared → Prop}
theorem setAll_ok {d : Addr} : ∀ (kw : List (Str × Value)) (acc : List (Key × Value)) (s : Shared) {Q : PUnit → Shared → Prop}, s.heap.DictOf (mixKind P w) d acc → ((acc ++ kw.map fun p => ((.inr p.1 : Key), p.2)).map (·.1)).Nodup →
    (∀ h' tk, h'.DictOf (mixKind P w) d (acc ++ kw.map fun p => ((.inr p.1 : Key), p.2)) → Heap.SameBut d s.heap h' → Q () { s with heap := h', toks := tk }) → wpAny (model P w) A (setAll d kw) Q E s
  | [], acc, s, Q, hd, _, h => by
    refine wpAny_pure (h s.heap s.toks ?_ (Heap.SameBut.refl _ _))
    rw [List.map_nil, List.append_nil]
    exact hd
  | (k, v) :: kw, acc, s, Q, hd, hn, h => by
    unfold setAll
    rw [List.forIn_cons]
    have e1 : acc ++ ((k, v) :: kw).map (fun p => ((.inr p.1 : Key), p.2)) = (acc ++ [((.inr k : Key), v)]) ++ kw.map fun p => ((.inr p.1 : Key), p.2) := by simp
    have hfresh : (Sum.inr k : Key) ∉ acc.map (·.1) := fun hm => by
      rw [List.map_append, List.nodup_append] at hn
      exact hn.2.2 _ hm (.inr k) (by simp) rfl
    refine wpAny_bind (wpAny_bind (nsSet_new hd hfresh fun h' hd' sb => wpAny_pure ?_))
    dsimp only
    refine setAll_ok kw _ _ hd' (by rw [← e1]; exact hn) fun h2 tk hd2 sb2 => ?_
    refine h h2 tk ?_ (sb.trans sb2)
    rw [e1]
    exact hd2
end
def FnKw (P : Program) (w : World) (K : PySem.W.Frag) (mg : Str → Option Value) (base : Heap) (CX : CXT) (k : Nat) (f : Addr) (ks : List Str) (sp : Sp) : Prop :=
  ∀ (A : Around) (outer : List Env) (s : Shared) (H : Hp) (u : Value) (v : V) (ws : List Value) (zs : List V) (Q : VK) (E : XK), Room k A → Env0 P w K mg base A outer s H → RelV v u → Vals zs ws → zs.length = ks.length →
    (∀ d, H d = none → sp [v, .ref d] (upd H d (.dK (kvS ks zs))) Q E) → codeAny (model P w) A (.call (.ref f) ⟨[u], ks.zip ws⟩) (CR CX outer P w H s Q E) s
theorem kvS_rel : ∀ {ks : List Str} {zs : List V} {ws : List Value}, Vals zs ws → zs.length = ks.length → KV (kvS ks zs) ((ks.zip ws).map fun p => ((.inr p.1 : Key), p.2))
  | [], [], _, .nil, _ => .nil
  | k :: ks, _ :: _, _ :: _, .cons a r, hl => .cons ⟨rfl, a⟩ (kvS_rel (ks := ks) r (by simpa using hl))
  | [], _ :: _, _, _, hl => by simp at hl
  | _ :: _, [], _, _, hl => by simp at hl
theorem kvS_keys : ∀ {ks : List Str} {ws : List Value}, ws.length = ks.length → ((ks.zip ws).map fun p => ((.inr p.1 : Key), p.2)).map (·.1) = ks.map Sum.inr
  | [], [], _ => rfl
  | k :: ks, w :: ws, h => by
    rw [List.zip_cons_cons, List.map_cons, List.map_cons, List.map_cons, kvS_keys (by simpa using h)]
  | [], _ :: _, h => by simp at h
  | _ :: _, [], h => by simp at h
theorem env0_new {P : Program} {w : World} {K : PySem.W.Frag} {mg : Str → Option Value} {base : Heap} {A : Around} {outer : List Env} {s : Shared} {H : Hp} {u : HO} {h' : Heap} {tk : Nat} (e0 : Env0 P w K mg base A outer s H) (kp : ∀ b x, s.heap.get? b = some x → h'.get? b = some x) (hz : s.heap.objs.size ≤ h'.objs.size) (new : ObjOk P w (upd H s.heap.objs.size u) h' s.heap.objs.size u) :
    Env0 P w K mg base A outer { s with heap := h', toks := tk } (upd H s.heap.objs.size u) := by
  refine ⟨e0.frames, e0.mod, fun b x e => ⟨kp b x (e0.bs b x e).1, ?_⟩, Nat.le_trans e0.bsz hz, Heap.FunFrames.of_keeps (fun b x e _ => ⟨x, kp b x e, rfl⟩) e0.funs, fun b hb => ?_, e0.hok.laid kp (Nat.le_refl _) new, e0.bare⟩
  · rw [upd_ne (Nat.ne_of_lt (Heap.lt_size (e0.bs b x e).1))]
    exact (e0.bs b x e).2
  · obtain ⟨_, x, hx, _⟩ := e0.funs.mem hb
    rw [upd_ne (Nat.ne_of_lt (Heap.lt_size hx))]
    exact e0.frf b hb
section
variable {CX : CXT} {P : Program} {w : World} {K : PySem.W.Frag} {mg : Str → Option Value} {base : Heap} {k : Nat} {f : Addr} {name qual : Str} {params : Arguments} {body : List Stmt} {scope : Scope} {dV kV doc pm cdv ct oc : Value} {an od : Option Addr}
  {osl : Array (Option Value)} {N : List Str} {sp : Sp} {ks : List Str} {p1 pd : Str}
theorem fn_kw (lk : K.lookup f = some ⟨oc, od, .func (PySem.W.fnOf name qual params body scope dV kV doc pm an cdv ct), osl⟩) (hcd : PySem.W.codeIn K cdv qual = true) (S : FnScope N [p1, pd] scope) (hCX : StX.CXUp CX) (hnd : ks.Nodup) (hks : ks.length < 1000)
    (hb : ∀ (u : Value) (ws : List Value), ws.length = ks.length → bindArgs (PySem.W.fnOf name qual params body scope dV kV doc pm an cdv ct) ⟨[u], ks.zip ws⟩ = ((alloc dict0 : Sem Addr) >>= fun d => setAll d (ks.zip ws) >>= fun _ => pure [(p1, u), (pd, Value.ref d)]))
    (hbody : ∀ (A : Around) (outer : List Env) (s : Shared) (H : Hp) (vs : List V) (Q : VK) (E : XK), Room k (A.deeper (envOfC qual scope s.heap.objs.size f cdv)) → sp vs H Q E →
      ∃ t, PSs (cxOf CX P w K mg base N qual scope f cdv A outer s H E) body t ∧ t { nx := fun _ H' => Q .non H', rt := Q } (start N vs) H) :
    FnKw P w K mg base CX (k + 1) f ks sp := by
  intro A outer s H u v ws zs Q E hr e0 ru rz hl hq
  have hwl : ws.length = ks.length := rz.length.symm.trans hl
  have hn : H s.heap.objs.size = none := e0.hok.fresh (Nat.le_refl _)
  refine StX.run_bnd lk hcd S hr e0 (G := fun xs H2 => ∃ d, H d = none ∧ xs = [v, V.ref d] ∧ H2 = upd H d (.dK (kvS ks zs))) (fun A' Ex Q' h => ?_) fun s2 H2 xs ⟨d, hd, ex, eH⟩ hr' => ?_
  · rw [hb u ws hwl]
    refine wpAny_bind (wpAny_alloc ?_)
    have sys : (s.heap.objs.size == sysModules) = false := beq_eq_false_iff_ne.mpr (Ne.symm (Nat.ne_of_lt (StX.env0_big e0)))
    have d0 : (s.heap.push dict0).DictOf (mixKind P w) s.heap.objs.size [] := Heap.DictOf.new s.heap
    refine wpAny_bind (setAll_ok (ks.zip ws) [] _ d0 ?_ fun h' tk hd' sb => wpAny_pure ?_)
    · rw [List.nil_append, kvS_keys hwl]
      exact List.Pairwise.map _ (fun a b hab e => hab (Sum.inr.inj e)) hnd
    rw [List.nil_append] at hd'
    have kp : ∀ b x, s.heap.get? b = some x → h'.get? b = some x := fun b x e => (sb.2 b (Nat.ne_of_lt (Heap.lt_size e))).trans (Heap.get?_push_of_some _ e)
    have hz : s.heap.objs.size ≤ h'.objs.size := by
      obtain ⟨ob, _, _, ho, _⟩ := hd'
      exact Nat.le_of_lt (Heap.lt_size ho)
    have new : ObjOk P w (upd H s.heap.objs.size (.dK (kvS ks zs))) h' s.heap.objs.size (.dK (kvS ks zs)) := dk_new (by
      show ((ks.zip zs).map _).length ≤ sizeLine
      rw [List.length_map, List.length_zip, sizeLine_eq]
      omega) sys (kvS_rel rz hl) hd'
    have e1 := env0_new (tk := tk) e0 kp hz new
    have un : Un (frs outer) [] H (upd H s.heap.objs.size (.dK (kvS ks zs))) s.heap h' := Un.laid kp (Nat.le_refl _) hn
    exact h _ _ [v, V.ref s.heap.objs.size] [u, Value.ref s.heap.objs.size] e1 un rfl (fun e s' => hCX outer s H _ _ E e s' un kp rfl) (.cons ru (.cons rfl .nil)) rfl ⟨_, hn, rfl, rfl⟩
  · subst ex eH
    exact hbody A outer s2 _ _ Q E hr' (hq d hd)
end
section
variable {CX : CXT} {P : Program} {w : World} {K : PySem.W.Frag} {mg : Str → Option Value} {base : Heap} {k : Nat} {f : Addr} {x qual : Str} {params : Arguments} {body : List Stmt} {scope : Scope} {kws : List (Str × V)} {fd : FuncData}
  {N : List Str} {sp : Sp} {ks : List Str} {p1 pd : Str}
theorem funKw (F : FunD K x qual params body scope [] kws f fd) (S : FnScope N [p1, pd] scope) (hCX : StX.CXUp CX) (hnd : ks.Nodup) (hks : ks.length < 1000)
    (hb : ∀ (kV doc pm : Value) (an : Option Addr) (cdv ct : Value) (u : Value) (ws : List Value), ws.length = ks.length → bindArgs (PySem.W.fnOf x qual params body scope .none kV doc pm an cdv ct) ⟨[u], ks.zip ws⟩ = ((alloc dict0 : Sem Addr) >>= fun d => setAll d (ks.zip ws) >>= fun _ => pure [(p1, u), (pd, Value.ref d)]))
    (hbody : ∀ (cdv : Value) (A : Around) (outer : List Env) (s : Shared) (H : Hp) (vs : List V) (Q : VK) (E : XK), Room k (A.deeper (envOfC qual scope s.heap.objs.size f cdv)) → sp vs H Q E →
      ∃ t, PSs (cxOf CX P w K mg base N qual scope f cdv A outer s H E) body t ∧ t { nx := fun _ H' => Q .non H', rt := Q } (start N vs) H) :
    FnKw P w K mg base CX (k + 1) f ks sp := by
  obtain ⟨oc, od, dV, kV, doc, pm, an, cdv, ct, osl, rfl, lk, hcd, hD, _⟩ := F.ex
  obtain rfl : dV = .none := by
    rcases hD with ⟨_, e⟩ | ⟨e, _⟩
    · exact e
    · exact absurd rfl e
  exact fn_kw lk hcd S hCX hnd hks (fun u ws hl => hb kV doc pm an cdv ct u ws hl) (fun A outer s H vs Q E hr h => hbody cdv A outer s H vs Q E hr h)
end
def tMethKw (C : Addr) (m : Str) (ks : List Str) (sp : Sp) (E : XK) (ta : TE) (tk : TA) : TE := fun σ H Q => ta σ H fun x H1 => ∃ a dx fs, x = V.ref a ∧ H1 a = some (.ins C dx fs) ∧ fs.lookup m = none ∧ tk σ H1 fun zs H2 => zs.length = ks.length ∧ ∀ d, H2 d = none → sp [.ref a, .ref d] (upd H2 d (.dK (kvS ks zs))) Q E
section
variable {X : Cx} {CX : CXT} {k : Nat} {f C : Addr} {ks : List Str} {sp : Sp} {E : XK} {m : Str} {pos apos : Pos} {o : Expr} {kws : List Keyword} {ta : TE} {tk : TA}
theorem pe_methKw {pl : Sem Bool} (he : PE X o ta) (c : Cls X.K C) (hm : Meth X.K C m f) (F : FnKw X.prog X.w X.K X.mg X.base CX k f ks sp) (hr : Room k X.A) (hx : Passes CX X E) (hkw : PK X kws tk)
    (hall : (backToKw pos (keywordEach kws X.env)).all (·.1.isSome) = true := by rfl) (hks : (backToKw pos (keywordEach kws X.env)).filterMap (·.1) = ks := by rfl)
    (hpl : ((backTo pos (starEach [] X.env)).any (·.1) || (backToKw pos (keywordEach kws X.env)).any (·.1.isNone)) = false := by rfl)
    (ht : eval (.Call (.Attribute o m apos) [] kws pos) X.env = (do
      let ov ← eval o X.env
      standAt apos.atName
      let (f, first) ← holding [ov] (getMethod ov m pl)
      callWith pos f first (backTo pos (starEach [] X.env)) (backToKw pos (keywordEach kws X.env))) := by rfl) :
    PE X (.Call (.Attribute o m apos) [] kws pos) (tMethKw C m ks sp E ta tk) := by
  refine ⟨fun pins s σ H Q I h => ?_⟩
  refine PySem.W.methodCall_KW (pl := pl) (thn (he.run pins s σ H _ I h) fun u s1 ⟨x, H1, I1, rx, a, dx, fs, ex, ea, l, q⟩ => ?_) ht
  subst ex
  obtain rfl : u = Value.ref a := rx
  refine getmeth_ok I1 ea c hm l ?_
  refine PySem.W.callWith_KW0 (first := [.ref a]) (h₀ := X.base) I.ok.mod.kin hm.kp hall ?_ hpl
  refine thn (hkw.run pos pins s1 σ H1 _ I1 q) fun ws s2 ⟨zs, H2, I2, rz, l2, q2⟩ => ⟨I2.kIn, ?_⟩
  rw [hks]
  refine wpAny_call (codeAny_mono (F X.A X.stack s2 H2 (.ref a) (.ref a) ws zs Q E hr I2.env0 rfl rz l2 q2) fun r s' hq => ?_)
  cases r with
  | error e => exact hx pins σ H2 s2 e s' I2 hq
  | ok fl =>
    cases fl with
    | ret u => exact I2.after hq
    | next => exact False.elim hq
    | brk => exact False.elim hq
    | cont => exact False.elim hq
end
end DK
namespace DX
open PySem PySem.Spec PyProof.Rows L2 DK
def mergeR {α : Type} (fs gs : List (Str × α)) : List (Str × α) := gs.foldl (fun acc p => putR p.1 p.2 acc) fs
section
variable {K : PySem.W.Frag} [HasW K] {G H : Hp} {as : List Addr} {P : Addr → Prop} {ρ : Env'} {μ : Mu} {σ : L2.St}
theorem mergeR_rep : ∀ {gs : List (Str × W)} {us : List (Str × V)} {fs : List (Str × W)} {vs : List (Str × V)}, RepFs K G as gs us → RepFs K G as fs vs → RepFs K G as (mergeR fs gs) (mergeR vs us)
  | [], us, fs, vs, h, hf => by
    rw [show us = [] from h]
    exact hf
  | (s, w) :: gs, us, fs, vs, h, hf => by
    obtain ⟨v, r, e, rw_, hr⟩ := h
    subst e
    show RepFs K G as (mergeR (putR s w fs) gs) (mergeR (putR s v vs) r)
    exact mergeR_rep hr (putR_rep rw_ hf)
theorem mergeR_below {n : Nat} : ∀ {gs fs : List (Str × W)}, (MO.dW gs).below n = true → (MO.dW fs).below n = true → (MO.dW (mergeR fs gs)).below n = true
  | [], fs, _, hf => hf
  | (s, w) :: gs, fs, h, hf => by
    have h1 : (w.below n && (MO.dW gs).below n) = true := h
    rw [Bool.and_eq_true] at h1
    show (MO.dW (mergeR (putR s w fs) gs)).below n = true
    exact mergeR_below (gs := gs) h1.2 (putR_below h1.1 hf)
theorem mergeR_kS : ∀ {us vs : List (Str × V)}, mergeK (vs.map kS) (us.map kS) = (mergeR vs us).map kS
  | [], vs => rfl
  | (s, v) :: us, vs => by
    show mergeK (putK (vs.map kS) (.inr s) v) (us.map kS) = _
    rw [← putR_kS, mergeR_kS]
    rfl
def mDUpdW (a b : RE) : RE := fun ρ μ => match a ρ μ with
  | some (.loc j, μ1) => match μ1[j]?, b ρ μ1 with
    | some (.dW _), some (.loc i, μ2) => match μ2[j]?, μ2[i]? with
      | some (.dW fs), some (.dW gs) => if i ≠ j ∧ (mergeR fs gs).length ≤ 100 then some (.val .non, μ2.set j (.dW (mergeR fs gs))) else none
      | _, _ => none
    | _, _ => none
  | _ => none
theorem sn_dUpdW {ta tb : TE} {a b : RE} (ha : SnE K ta a) (hb : SnE K tb b) : SnE K (tBM K "dict" rDUpd ta (tCons tb tNil)) (mDUpdW a b) := fun ρ μ w μ' h => by
  unfold mDUpdW at h
  split at h
  · rename_i j μ1 e1
    split at h
    · rename_i fs0 i μ2 hj0 e2
      split at h
      · rename_i fs gs hj hi
        split at h
        · rename_i hc
          cases h
          refine fun P as σ G H R Q q => ha _ _ _ _ e1 P as σ G H R _ fun x as1 G1 H1 n1 R1 r1 => ?_
          obtain ⟨a, ha1, rfl⟩ := r1
          obtain ⟨g0, z0, vs0, hh0, rf0⟩ := R1.mu j a _ ha1 hj0
          refine ⟨.inr (.inr (.inl ⟨rfl, .inl ⟨_, hh0⟩⟩)), hb _ _ _ _ e2 P as1 σ G1 H1 R1 _ fun y as2 G2 H2 n2 R2 r2 => ?_⟩
          obtain ⟨o, ho1, rfl⟩ := r2
          have ha2 := at_pre n2.pre ha1
          obtain ⟨g, z, vs, hh, rf⟩ := R2.mu j a _ ha2 hj
          obtain ⟨g', z', us, hh', rf'⟩ := R2.mu i o _ ho1 hi
          have ne : a ≠ o := fun e => by
            subst e
            exact hc.1 ((List.getElem?_inj (List.getElem?_eq_some_iff.mp ho1).1 R2.nd).mp (ho1.trans ha2.symm))
          refine ⟨a, o, vs.map kS, us.map kS, rfl, rfl, ne, hh, hh', ?_, ?_⟩
          · rw [List.length_map, List.length_map]
            have h1 : vs.length = fs.length := rf.length
            have h2 : us.length = gs.length := rf'.length
            omega
          · rw [mergeR_kS]
            obtain ⟨R3, n3⟩ := R2.put (o := .dK ((mergeR vs us).map kS)) (m' := .dW (mergeR fs gs)) ha2 hj g ⟨g, hc.2, _, upd_same, mergeR_rep rf' rf⟩ (mergeR_below (R2.wf _ (List.mem_of_getElem? hi)) (R2.wf _ (List.mem_of_getElem? hj)))
            exact q _ as2 G2 _ ((n1.trans n2).trans n3) R3 rfl
        · cases h
      · cases h
    · cases h
  · cases h
def mMakeSS (c : Str) (f : FX) (ks : List Str) (π : List Nat) (a : RE) : RE := fun ρ μ => match a ρ μ with
  | some (.loc j, μ1) => match μ1[j]? with
    | some (.dW fs) => if fs.map (·.1) = ks ∧ ks.length < 100 then makeX c f (pick π (fs.map (·.2))) μ1 else none
    | _ => none
  | _ => none
theorem repFs_ws {G : Hp} {as : List Addr} : ∀ {fs : List (Str × W)} {vs : List (Str × V)}, RepFs K G as fs vs → RepWs K G as (fs.map (·.2)) (vs.map (·.2)) ∧ vs.map (·.1) = fs.map (·.1)
  | [], vs, h => by
    rw [show vs = [] from h]
    exact ⟨rfl, rfl⟩
  | (s, w) :: fs, vs, h => by
    obtain ⟨v, r, e, rw_, hr⟩ := h
    subst e
    obtain ⟨h1, h2⟩ := repFs_ws hr
    exact ⟨⟨v, _, rfl, rw_, h1⟩, by rw [List.map_cons, List.map_cons, h2]⟩
theorem kvS_of {ks : List Str} : ∀ {vs : List (Str × V)}, vs.map (·.1) = ks → vs.map kS = kvS ks (vs.map (·.2)) := by
  induction ks with
  | nil =>
    intro vs h
    rw [List.map_eq_nil_iff.mp h]
    rfl
  | cons k ks ih =>
    intro vs h
    cases vs with
    | nil => cases h
    | cons p vs =>
      rw [List.map_cons] at h
      injection h with h1 h2
      show kS p :: vs.map kS = ((.inr k : Key), p.2) :: kvS ks (vs.map (·.2))
      rw [ih h2, ← h1]
      rfl
theorem sn_makeSS {c : Str} {f : FX} {ks : List Str} {π : List Nat} {E : XK} {ta : TE} {a : RE} (ck : ClsOk K (He.ga K c)) (ha : SnE K ta a) : SnE K (tMakeSS (He.ga K c) ks (spF K f) (fun vs zs => vs ++ pick π zs) E ta) (mMakeSS c f ks π a) := fun ρ μ w μ' h => by
  unfold mMakeSS at h
  split at h
  · rename_i j μ1 e1
    split at h
    · rename_i fs hj
      split at h
      · rename_i hc
        intro P as σ G H R Q q d hd
        have np : ∀ a, P a → a ≠ d := fun a ha z => (R.pro a ha).2.1 (by rw [z]; exact hd)
        have gd : G d = none := R.sub.free hd
        have R1 : Rl K G (upd H d (.dK [])) as (fun a => P a ∨ a = d) ρ μ σ := (R.junk hd (.dK [])).1.guard gd (by rw [upd_same]; simp) (fun z => R.here z hd) (R.tb.ne hd)
        refine ha _ _ _ _ e1 (fun a => P a ∨ a = d) as σ G _ R1 _ fun x as1 G1 H1 n1 R2 r1 => ?_
        obtain ⟨o, ho, rfl⟩ := r1
        obtain ⟨g, z, vs, hh, rf⟩ := R2.mu j o _ ho hj
        obtain ⟨rws, hks⟩ := repFs_ws rf
        have hk2 : vs.map (·.1) = ks := hks.trans hc.1
        have ne : o ≠ d := fun e => (R2.pro d (.inr rfl)).2.2 (by rw [← e]; exact List.mem_of_getElem? ho)
        have h1d : H1 d = some (.dK []) := (n1.kp d (.inr rfl)).trans upd_same
        refine ⟨o, vs.map (·.2), rfl, ne, by rw [hh, kvS_of hk2], h1d, by rw [List.length_map, ← hk2, List.length_map], hc.2, ?_⟩
        have R3 := (R2.touch (p := d) (.inr rfl) (.dK (kvS ks (vs.map (·.2))))).weak (P := P) fun a ha => .inl ha
        have n3 : Nx P as G H as1 G1 (upd H1 d (.dK (kvS ks (vs.map (·.2))))) := ⟨n1.pre, n1.gr, fun a ha => by rw [upd_ne (np a ha)]; exact (n1.kp a (.inl ha)).trans (upd_ne (np a ha))⟩
        intro y dx hy hdx hne
        exact make_fx R3 (repws_pick rws π) ck h (fun v as2 G2 H2 n2 R4 r4 => q v as2 G2 H2 (n3.trans n2) R4 r4) y dx hy hdx hne
      · cases h
    · cases h
  · cases h
def mMethKw (c m : Str) (f : FX) (ks : List Str) (o : RE) (a : RA) : RE := fun ρ μ => match o ρ μ with
  | some (x, μ1) => if recvOk c m μ1 x = true then match a ρ μ1 with
    | some (ws, μ2) => if ws.length = ks.length ∧ ks.length ≤ 100 ∧ ws.all (W.below μ2.length) = true then match callX f [x, .loc μ2.length] (μ2 ++ [.dW (ks.zip ws)]) with
      | some (.val d, μ3) => if μ2.length ≤ μ3.length ∧ (μ3.take μ2.length).all (MO.below μ2.length) = true then some (.val d, μ3.take μ2.length) else none
      | _ => none
      else none
    | none => none
    else none
  | none => none
theorem repFs_zip {G : Hp} {as : List Addr} : ∀ {ks : List Str} {ws : List W} {vs : List V}, RepWs K G as ws vs → ws.length = ks.length → RepFs K G as (ks.zip ws) (ks.zip vs)
  | [], [], vs, h, _ => by
    rw [show vs = [] from h]
    rfl
  | k :: ks, w :: ws, vs, h, hl => by
    obtain ⟨v, r, e, r1, r2⟩ := h
    subst e
    exact ⟨v, _, rfl, r1, repFs_zip r2 (by simpa using hl)⟩
  | [], _ :: _, _, _, hl => by simp at hl
  | _ :: _, [], _, _, hl => by simp at hl
theorem sn_methKw {c m : Str} {f : FX} {ks : List Str} {E : XK} {to : TE} {ta : TA} {o : RE} {a : RA} (ho : SnE K to o) (ha : SnA K ta a) : SnE K (tMethKw (He.ga K c) m ks (spF K f) E to ta) (mMethKw c m f ks o a) := fun ρ μ w μ' h => by
  unfold mMethKw at h
  split at h
  · rename_i x μ1 e1
    split at h
    · rename_i hr
      split at h
      · rename_i ws μ2 e2
        split at h
        · rename_i hc
          split at h
          · rename_i d μ3 e3
            split at h
            · rename_i hcut
              cases h
              refine fun P as σ G H R Q q => ho _ _ _ _ e1 P as σ G H R _ fun v as1 G1 H1 n1 R1 r1 => ?_
              obtain ⟨a', dx, fs, ev, hh, hl⟩ := recv_rep R1 r1 hr
              refine ⟨a', dx, fs, ev, hh, hl, ?_⟩
              refine ha _ _ _ _ e2 P as1 σ G1 H1 R1 _ fun us as2 G2 H2 n2 R2 r2 => ?_
              refine ⟨r2.length.trans hc.1, fun da hda => ?_⟩
              have hlen := R2.len
              have ekv : kvS ks us = (ks.zip us).map kS := rfl
              obtain ⟨R3, n3⟩ := R2.mut (m := .dW (ks.zip ws)) (o := .dK (kvS ks us)) hda ⟨R2.sub.free hda, by rw [List.length_zip]; omega, ks.zip us, by rw [upd_same, ekv], RepFs.mono (Same.refl _) ⟨[da], rfl⟩ (repFs_zip r2 hc.1)⟩ (by
                show ((ks.zip ws).all fun p => p.2.below (μ2.length + 1)) = true
                refine List.all_eq_true.mpr fun p hp => ?_
                have h1 := List.all_eq_true.mp hc.2.2 p.2 (List.of_mem_zip hp).2
                cases hp2 : p.2 with
                | val _ => rfl
                | loc j =>
                  rw [hp2] at h1
                  exact decide_eq_true (Nat.lt_succ_of_lt (of_decide_eq_true h1)))
              have hloc : (as2 ++ [da])[μ2.length]? = some da := by
                rw [← hlen, List.getElem?_append_right (Nat.le_refl _)]
                simp
              rw [← ev]
              refine call_fx (ws := [x, .loc μ2.length]) R3 ⟨v, _, rfl, (r1.mono n2.gr n2.pre).mono n3.gr n3.pre, .ref da, [], rfl, ⟨da, hloc, rfl⟩, rfl⟩ e3 fun v3 as3 G3 H3 n4 R4 r4 => ?_
              obtain ⟨t, et⟩ := pre_tr n3.pre n4.pre
              have ea : as3.take μ2.length = as2 := by rw [et, ← hlen, List.take_left]
              have R5 := rl_cut R4 hcut.1 (List.all_eq_true.mp hcut.2)
              rw [ea] at R5
              have R6 : Rl K G3 H3 as2 P ρ (μ3.take μ2.length) σ := R5.to R2.sz fun k w hk => by
                obtain ⟨v, h1, h2⟩ := R2.env k w hk
                exact ⟨v, h1, h2.mono (n3.gr.trans n4.gr) ⟨[], by simp⟩⟩
              have n6 := n3.trans n4
              exact q v3 as2 G3 H3 ((n1.trans n2).trans ⟨⟨[], by simp⟩, n6.gr, n6.kp⟩) R6 r4
            · cases h
          · cases h
        · cases h
      · cases h
    · cases h
  · cases h
end
end DX
namespace DX
open PySem PySem.Spec L2 DK
def m_Terms_but : RS :=
  (mSeq (mAsg (mDispW ["skips", "elder", "house"] (mCons (mFld "Terms" "skips" (mVar 0)) (mCons (mFld "Terms" "elder" (mVar 0)) (mCons (mFld "Terms" "house" (mVar 0)) mNil)))) (hName 2))
      (mSeq (mDrop (mDUpdW (mVar 2) (mVar 1)))
      (mRet (mMakeSS "Terms" f_Terms_init ["skips", "elder", "house"] [0, 1, 2] (mVar 2)))))
def f_Terms_but : FX := bodyF true 2 3 m_Terms_but
end DX
namespace DX
open PySem PySem.Spec PyProof.Rows L2 DK
section
variable {X : Cx}
end
end DX
namespace DX
open PySem PySem.Spec PyProof.Rows L2 DK
variable {K : PySem.W.Frag} [HasW K] {ρ : Env'} {μ : Mu}
end DX
namespace DX
open PySem PySem.Spec PyProof.Rows L2 DK
variable {K : PySem.W.Frag} [HasW K]
section
variable {G G3 G4 : Hp}
end
section
variable {G H : Hp} {as : List Addr} {P : Addr → Prop} {ρ : Env'} {μ : Mu} {σ : L2.St}
end
section
variable {G G2 : Hp} {as : List Addr} {μ : Mu}
end
variable {ρ : Env'} {μ : Mu}
end DX
namespace DX.K14
open PySem PySem.Spec L2 DK
def m_law_lets_p1 : RS :=
  mAsg (mCall f_law_needs [] (mCons (mVar 1) mNil)) (hTup 3 (hCons (hName 2) (hCons (hName 3) (hCons (hName 4) hNil))))
def m_law_lets_p2 : RS :=
  mRet (mC (.bl false))
def m_law_lets_p3 : RS :=
  mIfS (mAnd (mTest (mIsN true (mIx (mVar 0) (mC (.int 0))))) (mTest (mOp gtF (mVar 2) (mIx (mVar 0) (mC (.int 0)))))) (m_law_lets_p2) mNext
def m_law_lets_p4 : RS :=
  mRet (mAndV (mOrV (mIx (mVar 0) (mC (.int 1))) (mNotV (mVar 3))) (mOrV (mIx (mVar 0) (mC (.int 2))) (mNotV (mVar 4))))
def m_law_lets : RS :=
  (mSeq (m_law_lets_p1)
      (mSeq (m_law_lets_p3)
      (m_law_lets_p4)))
def f_law_lets : FX := bodyF true 2 5 m_law_lets
def m_law_one : RS :=
  (mRet (mTup (mCons (mCall f_law_pick [] (mCons (mVar 0) (mCons (mLst (mCons (mC .non) (mCons (mC (.int 0)) (mCons (mC (.int 1)) (mCons (mC (.int 2)) (mCons (mC (.int 3)) mNil)))))) mNil))) (mCons (mOp gtF (mCall f_law_draw [] (mCons (mVar 0) (mCons (mC (.int 3)) mNil))) (mC (.int 0))) (mCons (mOp gtF (mCall f_law_draw [] (mCons (mVar 0) (mCons (mC (.int 3)) mNil))) (mC (.int 0))) mNil)))))
def f_law_one : FX := bodyF true 1 1 m_law_one
def m_law_less_right_p1 : RS :=
  mAsg (mFld "Story" "needs" (mVar 0)) (hName 1)
def m_law_less_right_p2 : RS :=
  mRet (mC (.bl false))
def m_law_less_right_p3 : RS :=
  mIfS (mOr (mNot (mTest (mMeth "Terms" "lets" f_Terms_lets [] (mVar 1) (mCons (mVar 0) mNil)))) (mNot (mTest (mMeth "Terms" "lets" f_Terms_lets [] (mMake "Terms" f_Terms_init [] (mCons (mC .non) (mCons (mC (.bl true)) (mCons (mC (.bl true)) mNil)))) (mCons (mVar 0) mNil))))) (m_law_less_right_p2) mNext
def m_law_less_right_p4 : RS :=
  mRet (mC (.bl false))
def m_law_less_right_p5 : RS :=
  mIfS (mAnd (mTest (mOp gtF (mFld "Terms" "skips" (mVar 1)) (mC (.int 0)))) (mTest (mMeth "Terms" "lets" f_Terms_lets [] (mMethKw "Terms" "but" f_Terms_but ["skips", "elder", "house"] (mVar 1) (mCons (mOp minusF (mFld "Terms" "skips" (mVar 1)) (mC (.int 1))) (mCons (mC (.bl true)) (mCons (mC (.bl true)) mNil)))) (mCons (mVar 0) mNil)))) (m_law_less_right_p4) mNext
def m_law_less_right_p6 : RS :=
  mRet (mC (.bl false))
def m_law_less_right_p7 : RS :=
  mIfS (mAnd (mTest (mFld "Terms" "elder" (mVar 1))) (mTest (mMeth "Terms" "lets" f_Terms_lets [] (mMethKw "Terms" "but" f_Terms_but ["skips", "elder", "house"] (mVar 1) (mCons (mC .non) (mCons (mC (.bl false)) (mCons (mC (.bl true)) mNil)))) (mCons (mVar 0) mNil)))) (m_law_less_right_p6) mNext
def m_law_less_right_p8 : RS :=
  mRet (mOrV (mNotV (mFld "Terms" "house" (mVar 1))) (mNotV (mMeth "Terms" "lets" f_Terms_lets [] (mMethKw "Terms" "but" f_Terms_but ["skips", "elder", "house"] (mVar 1) (mCons (mC .non) (mCons (mC (.bl true)) (mCons (mC (.bl false)) mNil)))) (mCons (mVar 0) mNil))))
def m_law_less_right : RS :=
  (mSeq (m_law_less_right_p1)
      (mSeq (m_law_less_right_p3)
      (mSeq (m_law_less_right_p5)
      (mSeq (m_law_less_right_p7)
      (m_law_less_right_p8)))))
def f_law_less_right : FX := bodyF true 1 2 m_law_less_right
def m_law_p1 : RS :=
  mAsg (mCall f_law_deal [] (mCons (mVar 0) (mCons (mC (.int 0)) mNil))) (hName 1)
def m_law_p2 : RS :=
  mAsg (mCall f_law_events [] (mCons (mVar 1) (mCons (mCall f_law_draw [] (mCons (mVar 1) (mCons (mC (.int 25)) mNil))) (mCons (mCall f_law_pick [] (mCons (mVar 1) (mCons (mLst (mCons (mC (.int 3)) (mCons (mC (.int 9)) mNil))) mNil))) mNil)))) (hName 3)
def m_law_p3 : RS :=
  mAsg (mMake "Story" f_Story_init [] (mCons (mVar 3) mNil)) (hName 4)
def m_law_p4 : RS :=
  mRet (mC (.bl false))
def m_law_p5 : RS :=
  mIfS (mNot (mTest (mCall f_law_less_right [] (mCons (mVar 4) mNil)))) (m_law_p4) mNext
def m_law_p6 : RS :=
  mAsg (mCall f_law_one [] (mCons (mVar 1) mNil)) (hName 6)
def m_law_p7 : RS :=
  mAsg (mMake "Terms" f_Terms_init [] (mCons (mIx (mVar 6) (mC (.int 0))) (mCons (mIx (mVar 6) (mC (.int 1))) (mCons (mIx (mVar 6) (mC (.int 2))) mNil)))) (hName 7)
def m_law_p8 : RS :=
  mRet (mC (.bl false))
def m_law_p9 : RS :=
  mIfS (mTest (mReprC true (mMeth "Terms" "lets" f_Terms_lets [] (mVar 7) (mCons (mVar 4) mNil)) (mCall f_law_lets [] (mCons (mVar 6) (mCons (mVar 3) mNil))))) (m_law_p8) mNext
def m_law_p10 : RS :=
  mAsg (mIf (mTest (mOp (eqF false) (mCall f_law_draw [] (mCons (mVar 1) (mCons (mC (.int 2)) mNil))) (mC (.int 0)))) (mMethKw "Terms" "but" f_Terms_but ["elder"] (mVar 7) (mCons (mC (.bl true)) mNil)) (mMethKw "Terms" "but" f_Terms_but ["skips"] (mVar 7) (mCons (mC .non) mNil))) (hName 8)
def m_law_p11 : RS :=
  mRet (mC (.bl false))
def m_law_p12 : RS :=
  mIfS (mAnd (mTest (mMeth "Terms" "lets" f_Terms_lets [] (mVar 7) (mCons (mVar 4) mNil))) (mNot (mTest (mMeth "Terms" "lets" f_Terms_lets [] (mVar 8) (mCons (mVar 4) mNil))))) (m_law_p11) mNext
def m_law_p13 : RS :=
  mIfS (mNot (mTest (mMeth "Terms" "lets" f_Terms_lets [] (mVar 7) (mCons (mVar 4) mNil)))) (mCont) mNext
def m_law_p14 : RS :=
  mRet (mC (.bl false))
def m_law_p15 : RS :=
  mIfS (mTest (mOp (eqF true) (mLc (kRng1 (mCons (mOwn1 "Story" okLen f_Story_len (mVar 4)) mNil)) (hName 9) (mNot (mTest (mMeth "Terms" "lets" f_Terms_lets [] (mVar 7) (mCons (mMeth "Story" "upto" f_Story_upto [] (mVar 4) (mCons (mVar 9) mNil)) mNil)))) (mVar 9) [9]) (mLst mNil))) (m_law_p14) mNext
def m_law_1 : RS :=
  (mSeq (m_law_p6)
      (mSeq (m_law_p7)
      (mSeq (m_law_p9)
      (mSeq (m_law_p10)
      (mSeq (m_law_p12)
      (mSeq (m_law_p13)
      (m_law_p15)))))))
def m_law_p16 : RS :=
  mFor (kRng1 (mCons (mC (.int 6)) mNil)) (hName 5) (mCut m_law_1)
def m_law_2 : RS :=
  (mSeq (m_law_p2)
      (mSeq (m_law_p3)
      (mSeq (m_law_p5)
      (m_law_p16))))
def m_law_p17 : RS :=
  mFor (kRng1 (mCons (mC (.int 10)) mNil)) (hName 2) (mCut m_law_2)
def m_law_p18 : RS :=
  mAsg (mLst (mCons (mTup (mCons (mC (.str "-")) (mCons (mC (.str "skips 0")) mNil))) (mCons (mTup (mCons (mC (.str "give; give; give")) (mCons (mC (.str "skips 2")) mNil))) (mCons (mTup (mCons (mC (.str "give; try 1; give; try 2")) (mCons (mC (.str "skips 0")) mNil))) mNil)))) (hName 10)
def m_law_p19 : RS :=
  mAsg (mOp plusF (mVar 10) (mLst (mCons (mTup (mCons (mC (.str "give; give; try 1; give; give")) (mCons (mC (.str "skips 2 elder")) mNil))) mNil))) (hName 10)
def m_law_p20 : RS :=
  mAsg (mOp plusF (mVar 10) (mLst (mCons (mTup (mCons (mC (.str "give; house; give; try 2; try 2")) (mCons (mC (.str "skips 1 house")) mNil))) mNil))) (hName 10)
def m_law_p21 : RS :=
  mAsg (mOp plusF (mVar 10) (mLst (mCons (mTup (mCons (mC (.str "give; give; give; try 2; give; try 4; give")) (mCons (mC (.str "skips 2 elder")) mNil))) mNil))) (hName 10)
def m_law_p22 : RS :=
  mAsg (mOp plusF (mVar 10) (mLst (mCons (mTup (mCons (mC (.str "give; give; try 2; try 1; give")) (mCons (mC (.str "skips 1 elder")) mNil))) mNil))) (hName 10)
def m_law_p23 : RS :=
  mRet (mOp (eqF false) (mLc (kSeq (mVar 10)) (hTup 2 (hCons (hName 11) (hCons (hName 12) hNil))) mYes (mOwn1 "Terms" okStr f_Terms_str (mFld "Story" "needs" (mCMeth "Story" f_Story_read [] (mC (.cls "Story")) (mCons (mVar 11) mNil)))) [11, 12]) (mLc (kSeq (mVar 10)) (hTup 2 (hCons (hName 11) (hCons (hName 12) hNil))) mYes (mVar 12) [11, 12]))
def m_law : RS :=
  (mSeq (m_law_p1)
      (mSeq (m_law_p17)
      (mSeq (m_law_p18)
      (mSeq (m_law_p19)
      (mSeq (m_law_p20)
      (mSeq (m_law_p21)
      (mSeq (m_law_p22)
      (m_law_p23))))))))
def f_law : FX := bodyF true 1 13 m_law
end DX.K14
namespace DX.K14
open PySem PySem.Spec PyProof.Rows L2 DK
abbrev nm_is_integer : List Str := ["value"]
abbrev ps_is_integer : List Str := ["value"]
theorem sc_is_integer : FnScope nm_is_integer ps_is_integer (defScope st_is_integer) := ⟨rfl, rfl, rfl, by decide +kernel, rfl, by decide +kernel, by decide +kernel⟩
abbrev sp_is_integer (K : PySem.W.Frag) [HasW K] : Sp := spF K f_is_integer
abbrev nm_is_number : List Str := ["value"]
abbrev ps_is_number : List Str := ["value"]
theorem sc_is_number : FnScope nm_is_number ps_is_number (defScope st_is_number) := ⟨rfl, rfl, rfl, by decide +kernel, rfl, by decide +kernel, by decide +kernel⟩
abbrev sp_is_number (K : PySem.W.Frag) [HasW K] : Sp := spF K f_is_number
abbrev nm_is_sequence : List Str := ["value"]
abbrev ps_is_sequence : List Str := ["value"]
theorem sc_is_sequence : FnScope nm_is_sequence ps_is_sequence (defScope st_is_sequence) := ⟨rfl, rfl, rfl, by decide +kernel, rfl, by decide +kernel, by decide +kernel⟩
abbrev sp_is_sequence (K : PySem.W.Frag) [HasW K] : Sp := spF K f_is_sequence
abbrev nm_number_in : List Str := ["word", "digits", "sign"]
abbrev ps_number_in : List Str := ["word", "digits"]
theorem sc_number_in : FnScope nm_number_in ps_number_in (defScope st_number_in) := ⟨rfl, rfl, rfl, by decide +kernel, rfl, by decide +kernel, by decide +kernel⟩
abbrev sp_number_in (K : PySem.W.Frag) [HasW K] : Sp := spF K f_number_in
abbrev nm_Terms_init : List Str := ["self", "skips", "elder", "house"]
abbrev ps_Terms_init : List Str := ["self", "skips", "elder", "house"]
theorem sc_Terms_init : FnScope nm_Terms_init ps_Terms_init (defScope st_Terms_init) := ⟨rfl, rfl, rfl, by decide +kernel, rfl, by decide +kernel, by decide +kernel⟩
abbrev sp_Terms_init (K : PySem.W.Frag) [HasW K] : Sp := spF K f_Terms_init
abbrev nm_Terms_lets : List Str := ["self", "story", "needs"]
abbrev ps_Terms_lets : List Str := ["self", "story"]
theorem sc_Terms_lets : FnScope nm_Terms_lets ps_Terms_lets (defScope st_Terms_lets) := ⟨rfl, rfl, rfl, by decide +kernel, rfl, by decide +kernel, by decide +kernel⟩
abbrev sp_Terms_lets (K : PySem.W.Frag) [HasW K] : Sp := spF K f_Terms_lets
abbrev nm_Terms_but : List Str := ["self", "others", "values"]
abbrev ps_Terms_but : List Str := ["self", "others"]
theorem sc_Terms_but : FnScope nm_Terms_but ps_Terms_but (defScope st_Terms_but) := ⟨rfl, rfl, rfl, by decide +kernel, rfl, by decide +kernel, by decide +kernel⟩
abbrev sp_Terms_but (K : PySem.W.Frag) [HasW K] : Sp := spF K f_Terms_but
abbrev nm_Terms_str : List Str := ["self", "some"]
abbrev ps_Terms_str : List Str := ["self"]
theorem sc_Terms_str : FnScope nm_Terms_str ps_Terms_str (defScope st_Terms_str) := ⟨rfl, rfl, rfl, by decide +kernel, rfl, by decide +kernel, by decide +kernel⟩
abbrev sp_Terms_str (K : PySem.W.Frag) [HasW K] : Sp := spF K f_Terms_str
abbrev nm_parse : List Str := ["value", "words", "card"]
abbrev ps_parse : List Str := ["value"]
theorem sc_parse : FnScope nm_parse ps_parse (defScope st_parse) := ⟨rfl, rfl, rfl, by decide +kernel, rfl, by decide +kernel, by decide +kernel⟩
abbrev sp_parse (K : PySem.W.Frag) [HasW K] : Sp := spF K f_parse
abbrev nm_is_possible : List Str := ["event", "given"]
abbrev ps_is_possible : List Str := ["event", "given"]
theorem sc_is_possible : FnScope nm_is_possible ps_is_possible (defScope st_is_possible) := ⟨rfl, rfl, rfl, by decide +kernel, rfl, by decide +kernel, by decide +kernel⟩
abbrev sp_is_possible (K : PySem.W.Frag) [HasW K] : Sp := spF K f_is_possible
abbrev nm_needs_of : List Str := ["parsed", "many", "best", "skips", "is_elder", "event"]
abbrev ps_needs_of : List Str := ["parsed"]
theorem sc_needs_of : FnScope nm_needs_of ps_needs_of (defScope st_needs_of) := ⟨rfl, rfl, rfl, by decide +kernel, rfl, by decide +kernel, by decide +kernel⟩
abbrev sp_needs_of (K : PySem.W.Frag) [HasW K] : Sp := spF K f_needs_of
abbrev nm_Story_init : List Str := ["self", "events", "told", "many", "at", "value", "event"]
abbrev ps_Story_init : List Str := ["self", "events"]
theorem sc_Story_init : FnScope nm_Story_init ps_Story_init (defScope st_Story_init) := ⟨rfl, rfl, rfl, by decide +kernel, rfl, by decide +kernel, by decide +kernel⟩
abbrev sp_Story_init (K : PySem.W.Frag) [HasW K] : Sp := spF K f_Story_init
abbrev nm_Story_read : List Str := ["cls", "text", "found", "e"]
abbrev ps_Story_read : List Str := ["cls", "text"]
theorem sc_Story_read : FnScope nm_Story_read ps_Story_read (defScope st_Story_read) := ⟨rfl, rfl, rfl, by decide +kernel, rfl, by decide +kernel, by decide +kernel⟩
abbrev sp_Story_read (K : PySem.W.Frag) [HasW K] : Sp := spF K f_Story_read
abbrev nm_Story_upto : List Str := ["self", "many"]
abbrev ps_Story_upto : List Str := ["self", "many"]
theorem sc_Story_upto : FnScope nm_Story_upto ps_Story_upto (defScope st_Story_upto) := ⟨rfl, rfl, rfl, by decide +kernel, rfl, by decide +kernel, by decide +kernel⟩
abbrev sp_Story_upto (K : PySem.W.Frag) [HasW K] : Sp := spF K f_Story_upto
abbrev nm_Story_len : List Str := ["self"]
abbrev ps_Story_len : List Str := ["self"]
theorem sc_Story_len : FnScope nm_Story_len ps_Story_len (defScope st_Story_len) := ⟨rfl, rfl, rfl, by decide +kernel, rfl, by decide +kernel, by decide +kernel⟩
abbrev sp_Story_len (K : PySem.W.Frag) [HasW K] : Sp := spF K f_Story_len
abbrev nm_law_deal : List Str := ["_law_script", "_law_base", "_law_cell", "_law_cells", "_law_mixed"]
abbrev ps_law_deal : List Str := ["_law_script", "_law_base"]
theorem sc_law_deal : FnScope nm_law_deal ps_law_deal (defScope st_law_deal) := ⟨rfl, rfl, rfl, by decide +kernel, rfl, by decide +kernel, by decide +kernel⟩
abbrev sp_law_deal (K : PySem.W.Frag) [HasW K] : Sp := spF K f_law_deal
abbrev nm_law_draw : List Str := ["_law_deal_here", "_law_many", "_law_rest"]
abbrev ps_law_draw : List Str := ["_law_deal_here", "_law_many"]
theorem sc_law_draw : FnScope nm_law_draw ps_law_draw (defScope st_law_draw) := ⟨rfl, rfl, rfl, by decide +kernel, rfl, by decide +kernel, by decide +kernel⟩
abbrev sp_law_draw (K : PySem.W.Frag) [HasW K] : Sp := spF K f_law_draw
abbrev nm_law_needs : List Str := ["_law_events_here", "_law_top", "_law_tried", "_law_lost", "_law_is_elder", "_law_event", "_law_card"]
abbrev ps_law_needs : List Str := ["_law_events_here"]
theorem sc_law_needs : FnScope nm_law_needs ps_law_needs (defScope st_law_needs) := ⟨rfl, rfl, rfl, by decide +kernel, rfl, by decide +kernel, by decide +kernel⟩
abbrev sp_law_needs (K : PySem.W.Frag) [HasW K] : Sp := spF K f_law_needs
abbrev nm_law_lets : List Str := ["_law_terms", "_law_events_here", "_law_lost", "_law_is_elder", "_law_has_house"]
abbrev ps_law_lets : List Str := ["_law_terms", "_law_events_here"]
theorem sc_law_lets : FnScope nm_law_lets ps_law_lets (defScope st_law_lets) := ⟨rfl, rfl, rfl, by decide +kernel, rfl, by decide +kernel, by decide +kernel⟩
abbrev sp_law_lets (K : PySem.W.Frag) [HasW K] : Sp := spF K f_law_lets
abbrev nm_law_pick : List Str := ["_law_deal_here", "_law_some"]
abbrev ps_law_pick : List Str := ["_law_deal_here", "_law_some"]
theorem sc_law_pick : FnScope nm_law_pick ps_law_pick (defScope st_law_pick) := ⟨rfl, rfl, rfl, by decide +kernel, rfl, by decide +kernel, by decide +kernel⟩
abbrev sp_law_pick (K : PySem.W.Frag) [HasW K] : Sp := spF K f_law_pick
abbrev nm_law_events : List Str := ["_law_deal_here", "_law_many", "_law_most", "_law_found", "_law_top", "_law_turn", "_law_form"]
abbrev ps_law_events : List Str := ["_law_deal_here", "_law_many", "_law_most"]
theorem sc_law_events : FnScope nm_law_events ps_law_events (defScope st_law_events) := ⟨rfl, rfl, rfl, by decide +kernel, rfl, by decide +kernel, by decide +kernel⟩
abbrev sp_law_events (K : PySem.W.Frag) [HasW K] : Sp := spF K f_law_events
abbrev nm_law_one : List Str := ["_law_deal_here"]
abbrev ps_law_one : List Str := ["_law_deal_here"]
theorem sc_law_one : FnScope nm_law_one ps_law_one (defScope st_law_one) := ⟨rfl, rfl, rfl, by decide +kernel, rfl, by decide +kernel, by decide +kernel⟩
abbrev sp_law_one (K : PySem.W.Frag) [HasW K] : Sp := spF K f_law_one
abbrev nm_law_less_right : List Str := ["_law_made", "_law_needs_here"]
abbrev ps_law_less_right : List Str := ["_law_made"]
theorem sc_law_less_right : FnScope nm_law_less_right ps_law_less_right (defScope st_law_less_right) := ⟨rfl, rfl, rfl, by decide +kernel, rfl, by decide +kernel, by decide +kernel⟩
abbrev sp_law_less_right (K : PySem.W.Frag) [HasW K] : Sp := spF K f_law_less_right
abbrev nm_law : List Str := ["_law_script", "_law_deal_here", "_law_turn", "_law_events_here", "_law_made", "_law_more", "_law_one_here", "_law_terms", "_law_wide", "_law_size", "_law_some", "_law_text", "_law_due"]
abbrev ps_law : List Str := ["_law_script"]
theorem sc_law : FnScope nm_law ps_law (defScope st_law) := ⟨rfl, rfl, rfl, by decide +kernel, rfl, by decide +kernel, by decide +kernel⟩
abbrev sp_law (K : PySem.W.Frag) [HasW K] : Sp := spF K f_law
def dv_Story_init_1 (K : PySem.W.Frag) : List V := (dfl_Story_init.map (He.Dv.v K)).drop 0
def t_is_integer (K : PySem.W.Frag) [HasW K] : TS :=
  (tRet (tAndV (tCB (rIsi K) (tCons (tVar 0) (tCons (tC (.ty "int")) tNil))) (tNotV (tCB (rIsi K) (tCons (tVar 0) (tCons (tC (.ty "bool")) tNil))))))
def t_is_sequence (K : PySem.W.Frag) [HasW K] : TS :=
  (tRet (tIsSeq K (tVar 0)))
def t_number_in (K : PySem.W.Frag) [HasW K] : TS :=
  (tSeq (tIfS (tOr (tNot (tTest (tChain (rLe') (rLe') (tC (.int 1)) (tCB (rLenA K) (tCons (tVar 0) tNil)) (tVar 1)))) (tNot (tB (tCB (rAll K) (tCons (tLc (iStr (tVar 0)) (gName 2) tYes (tOp (rInn K) (tVar 2) (tC (.str "0123456789"))) [2]) tNil))))) (tRet (tC .non)) tNext)
      (tRet (tIf (tOr (tTest (tOp (rEqq K) (tVar 0) (tC (.str "0")))) (tTest (tOp (rNee K) (tOp (rIx K) (tVar 0) (tC (.int 0))) (tC (.str "0"))))) (tCB (rIntA) (tCons (tVar 0) tNil)) (tC .non))))
def t_Terms_lets (K : PySem.W.Frag) [HasW K] : TS :=
  (tSeq (tAsg (tFld K (tVar 1) "needs") (gName 2))
      (tSeq (tIfS (tAnd (tTest (tOp (rNotN) (tFld K (tVar 0) "skips") (tC .non))) (tTest (tOp (rGt') (tFld K (tVar 2) "skips") (tFld K (tVar 0) "skips")))) (tRet (tC (.bl false))) tNext)
      (tRet (tAndV (tOrV (tFld K (tVar 0) "elder") (tNotV (tFld K (tVar 2) "elder"))) (tOrV (tFld K (tVar 0) "house") (tNotV (tFld K (tVar 2) "house")))))))
def t_Terms_str (K : PySem.W.Frag) [HasW K] : TS :=
  (tSeq (tAsg (tOp (rPlus K) (tOp (rTimes K) (tLst (tCons (tC (.str "elder")) tNil)) (tCB (rInt1) (tCons (tFld K (tVar 0) "elder") tNil))) (tOp (rTimes K) (tLst (tCons (tC (.str "house")) tNil)) (tCB (rInt1) (tCons (tFld K (tVar 0) "house") tNil)))) (gName 1))
      (tRet (tM1 (rJoin K) (tC (.str " ")) (tLst (tCons (tC (.str "skips")) (tCons (tIf (tTest (tOp (rIsN) (tFld K (tVar 0) "skips") (tC .non))) (tC (.str "any")) (tCB (rStrS) (tCons (tFld K (tVar 0) "skips") tNil))) (StX.tStar K (tVar 1) tNil)))))))
def t_is_possible (K : PySem.W.Frag) [HasW K] : TS :=
  (tSeq (tIfS (tTest (tOp (rIsN) (tVar 0) (tC .non))) (tRet (tC (.bl false))) tNext)
      (tRet (tOrV (tOp (rEqq K) (tOp (rIx K) (tVar 0) (tC (.int 0))) (tC (.str "give"))) (tAndV (tOp (rGt') (tVar 1) (tC (.int 0))) (tOrV (tOp (rEqq K) (tOp (rIx K) (tVar 0) (tC (.int 0))) (tC (.str "house"))) (tChain (rLe') (rLe') (tC (.int 1)) (tOp (rIx K) (tVar 0) (tC (.int 1))) (tVar 1)))))))
def t_Story_len (K : PySem.W.Frag) [HasW K] : TS :=
  (tRet (tCB (rLenA K) (tCons (tFld K (tVar 0) "events") tNil)))
def t_law_deal (K : PySem.W.Frag) [HasW K] : TS :=
  (tSeq (tAsg (tLc (iSeq K (tSl (rSlc K) (tVar 0) (tPart (tVar 1)) (tPart (tC (.int 60))))) (gName 2) tYes (tCB (rAbs) (tCons (tVar 2) tNil)) [2]) (gName 3))
      (tSeq (tAsg (tOp (rPlus K) (tC (.int 36195017)) (tOp (rTimes K) (tC (.int 43)) (tVar 1))) (gName 4))
      (tSeq (tFor (iSeq K (tVar 3)) (gName 2) (tAsg (tOp (rMd) (tCB (rInt1) (tCons (tOp (rPlus K) (tOp (rTimes K) (tVar 4) (tC (.int 16807))) (tOp (rMd) (tCB (rInt1) (tCons (tVar 2) tNil)) (tC (.int 2147483629)))) tNil)) (tC (.int 2147483647))) (gName 4)))
      (tRet (tLst (tCons (tRevL K (tLc (iSeq K (tVar 3)) (gName 2) (tTest (tOp (rGe') (tVar 2) (tOp (rPw) (tC (.int 10)) (tC (.int 18))))) (tVar 2) [2])) (tCons (tVar 4) tNil)))))))
def t_law_draw (K : PySem.W.Frag) [HasW K] : TS :=
  (tSeq (tWhile (tAnd (tTest (tOp (rNee K) (tOp (rIx K) (tVar 0) (tC (.int 0))) (tLst tNil))) (tTest (tOp (rEqq K) (tOp (rIx K) (tOp (rIx K) (tVar 0) (tC (.int 0))) (tUn (rU fun i => .int (-i)) (tC (.int 1)))) (tC (.int 0))))) (tDrop (tBM0 K "list" rPop (tOp (rIx K) (tVar 0) (tC (.int 0))))))
      (tSeq (tIfS (tTest (tOp (rNee K) (tOp (rIx K) (tVar 0) (tC (.int 0))) (tLst tNil))) (tSeq (tAsg (tBM0 K "list" rPop (tOp (rIx K) (tVar 0) (tC (.int 0)))) (gName 2))
      (tSeq (tDrop (tBM K "list" rAppend (tOp (rIx K) (tVar 0) (tC (.int 0))) (tCons (tOp (rFd) (tVar 2) (tVar 1)) tNil)))
      (tRet (tOp (rMd) (tCB (rInt1) (tCons (tVar 2) tNil)) (tVar 1))))) tNext)
      (tSeq (tAsg (tOp (rMd) (tCB (rInt1) (tCons (tOp (rPlus K) (tOp (rTimes K) (tOp (rIx K) (tVar 0) (tC (.int 1))) (tC (.int 48271))) (tC (.int 11))) tNil)) (tC (.int 2147483647))) (gSub (tVar 0) (tC (.int 1)) rSetL))
      (tRet (tOp (rMd) (tCB (rInt1) (tCons (tOp (rFd) (tOp (rIx K) (tVar 0) (tC (.int 1))) (tC (.int 8))) tNil)) (tVar 1))))))
def t_law_needs (K : PySem.W.Frag) [HasW K] : TS :=
  (tSeq (tAsg (tTup (tCons (tC (.int 0)) (tCons (tC (.int 0)) (tCons (tC (.int 0)) (tCons (tC (.bl false)) tNil))))) (gTup K 4 (gCons (gName 1) (gCons (gName 2) (gCons (gName 3) (gCons (gName 4) gNil))))))
      (tSeq (tFor (iSeq K (tVar 0)) (gName 5) (tIfS (tTest (tOp (rEqq K) (tVar 5) (tC (.str "give")))) (tSeq (tAsg (tCB (rMax2) (tCons (tCB (rInt1) (tCons (tVar 3) tNil)) (tCons (tCB (rInt1) (tCons (tOp (rMinus) (tVar 1) (tVar 2)) tNil)) tNil))) (gName 3))
      (tAsg (tOp (rPlus K) (tVar 1) (tC (.int 1))) (gName 1))) (tIfS (tTest (tOp (rNee K) (tVar 5) (tC (.str "house")))) (tSeq (tAsg (tCB (rIntA) (tCons (tSl (rSlc K) (tVar 5) (tPart (tC (.int 4))) tNoPart) tNil)) (gName 6))
      (tSeq (tAsg (tOrV (tVar 4) (tOp (rLt') (tVar 6) (tVar 1))) (gName 4))
      (tAsg (tCB (rMax2) (tCons (tVar 2) (tCons (tVar 6) tNil))) (gName 2)))) tNext)))
      (tRet (tTup (tCons (tVar 3) (tCons (tVar 4) (tCons (tOp (rInn K) (tC (.str "house")) (tVar 0)) tNil)))))))
def t_is_number (K : PySem.W.Frag) [HasW K] : TS :=
  (tRet (tAndV (tCall (sp_is_integer K) [] E0 (tCons (tVar 0) tNil)) (tOp (rGe') (tVar 0) (tC (.int 0)))))
def t_parse (K : PySem.W.Frag) [HasW K] : TS :=
  (tSeq (tAsg (tIf (tB (tCB (rIsi K) (tCons (tVar 0) (tCons (tC (.ty "str")) tNil)))) (tM1 rSplit (tVar 0) (tC (.str " "))) (tLst tNil)) (gName 1))
      (tSeq (tIfS (tTest (tOp (rInn2 K) (tVar 1) (tTup (tCons (tLst (tCons (tC (.str "give")) tNil)) (tCons (tLst (tCons (tC (.str "house")) tNil)) tNil))))) (tRet (tTup (tCons (tOp (rIx K) (tVar 1) (tC (.int 0))) tNil))) tNext)
      (tSeq (tAsg (tIf (tAnd (tTest (tOp (rEqq K) (tCB (rLenA K) (tCons (tVar 1) tNil)) (tC (.int 2)))) (tTest (tOp (rEqq K) (tOp (rIx K) (tVar 1) (tC (.int 0))) (tC (.str "try"))))) (tCall (sp_number_in K) [] E0 (tCons (tOp (rIx K) (tVar 1) (tC (.int 1))) (tCons (tC (.int 2)) tNil))) (tC .non)) (gName 2))
      (tRet (tIf (tTest (tOp (rIsN) (tVar 2) (tC .non))) (tC .non) (tTup (tCons (tC (.str "try")) (tCons (tVar 2) tNil))))))))
def t_law_lets (K : PySem.W.Frag) [HasW K] : TS :=
  (tSeq (tAsg (tCall (sp_law_needs K) [] E0 (tCons (tVar 1) tNil)) (gTup K 3 (gCons (gName 2) (gCons (gName 3) (gCons (gName 4) gNil)))))
      (tSeq (tIfS (tAnd (tTest (tOp (rNotN) (tOp (rIx K) (tVar 0) (tC (.int 0))) (tC .non))) (tTest (tOp (rGt') (tVar 2) (tOp (rIx K) (tVar 0) (tC (.int 0)))))) (tRet (tC (.bl false))) tNext)
      (tRet (tAndV (tOrV (tOp (rIx K) (tVar 0) (tC (.int 1))) (tNotV (tVar 3))) (tOrV (tOp (rIx K) (tVar 0) (tC (.int 2))) (tNotV (tVar 4)))))))
def t_law_pick (K : PySem.W.Frag) [HasW K] : TS :=
  (tRet (tOp (rIx K) (tVar 1) (tCall (sp_law_draw K) [] E0 (tCons (tVar 0) (tCons (tCB (rLenA K) (tCons (tVar 1) tNil)) tNil)))))
def t_law_events (K : PySem.W.Frag) [HasW K] : TS :=
  (tSeq (tPar 3 4 (tCons (tLstM tNil) (tCons (tC (.int 0)) tNil)))
      (tSeq (tFor (iRng1 (tCons (tVar 1) tNil)) (gName 5) (tSeq (tAsg (tCall (sp_law_draw K) [] E0 (tCons (tVar 0) (tCons (tC (.int 6)) tNil))) (gName 6))
      (tIfS (tOr (tTest (tOp (rEqq K) (tVar 4) (tC (.int 0)))) (tAnd (tTest (tOp (rLt') (tVar 6) (tC (.int 2)))) (tTest (tOp (rLt') (tVar 4) (tVar 2))))) (tSeq (tDrop (tBM K "list" rAppend (tVar 3) (tCons (tC (.str "give")) tNil)))
      (tAsg (tOp (rPlus K) (tVar 4) (tC (.int 1))) (gName 4))) (tIfS (tTest (tOp (rEqq K) (tVar 6) (tC (.int 5)))) (tDrop (tBM K "list" rAppend (tVar 3) (tCons (tC (.str "house")) tNil))) (tDrop (tBM K "list" rAppend (tVar 3) (tCons (tOp (rPlus K) (tC (.str "try ")) (tCB (rStrS) (tCons (tIf (tTest (tOp (rEqq K) (tVar 6) (tC (.int 2)))) (tVar 4) (tOp (rPlus K) (tC (.int 1)) (tCall (sp_law_draw K) [] E0 (tCons (tVar 0) (tCons (tVar 4) tNil))))) tNil))) tNil)))))))
      (tRet (tVar 3))))
def t_Terms_init (K : PySem.W.Frag) [HasW K] : TS :=
  (tSeq (tIfS (tAnd (tTest (tOp (rNotN) (tVar 1) (tC .non))) (tNot (tB (tCall (sp_is_number K) [] E0 (tCons (tVar 1) tNil))))) tNever tNext)
      (tSeq (tIfS (tNot (tB (tCB (rIsi K) (tCons (tVar 2) (tCons (tC (.ty "bool")) tNil))))) tNever tNext)
      (tSeq (tIfS (tNot (tB (tCB (rIsi K) (tCons (tVar 3) (tCons (tC (.ty "bool")) tNil))))) tNever tNext)
      (tSeq (sFld K (tVar 0) (tVar 1) "skips")
      (tSeq (sFld K (tVar 0) (tVar 2) "elder")
      (sFld K (tVar 0) (tVar 3) "house"))))))
def t_law_one (K : PySem.W.Frag) [HasW K] : TS :=
  (tRet (tTup (tCons (tCall (sp_law_pick K) [] E0 (tCons (tVar 0) (tCons (tLst (tCons (tC .non) (tCons (tC (.int 0)) (tCons (tC (.int 1)) (tCons (tC (.int 2)) (tCons (tC (.int 3)) tNil)))))) tNil))) (tCons (tOp (rGt') (tCall (sp_law_draw K) [] E0 (tCons (tVar 0) (tCons (tC (.int 3)) tNil))) (tC (.int 0))) (tCons (tOp (rGt') (tCall (sp_law_draw K) [] E0 (tCons (tVar 0) (tCons (tC (.int 3)) tNil))) (tC (.int 0))) tNil)))))
def t_Terms_but (K : PySem.W.Frag) [HasW K] : TS :=
  (tSeq (tAsg (tDisp ((tC (.str "skips"), (tFld K (tVar 0) "skips")) :: ((tC (.str "elder"), (tFld K (tVar 0) "elder")) :: ((tC (.str "house"), (tFld K (tVar 0) "house")) :: [])))) (gName 2))
      (tSeq (tDrop (tBM K "dict" rDUpd (tVar 2) (tCons (tVar 1) tNil)))
      (tRet (tMakeSS (He.ga K "Terms") ["skips", "elder", "house"] (sp_Terms_init K) (fun vs zs => vs ++ pick [0, 1, 2] zs) E0 (tVar 2)))))
def t_needs_of (K : PySem.W.Frag) [HasW K] : TS :=
  (tSeq (tAsg (tTup (tCons (tC (.int 0)) (tCons (tC (.int 0)) (tCons (tC (.int 0)) (tCons (tC (.bl false)) tNil))))) (gTup K 4 (gCons (gName 1) (gCons (gName 2) (gCons (gName 3) (gCons (gName 4) gNil))))))
      (tSeq (tFor (iSeq K (tVar 0)) (gName 5) (tIfS (tTest (tOp (rEqq K) (tOp (rIx K) (tVar 5) (tC (.int 0))) (tC (.str "give")))) (tSeq (tAsg (tCB (rMax2) (tCons (tVar 3) (tCons (tOp (rMinus) (tVar 1) (tVar 2)) tNil))) (gName 3))
      (tAug 1 (tC (.int 1)) rAug)) (tIfS (tTest (tOp (rEqq K) (tOp (rIx K) (tVar 5) (tC (.int 0))) (tC (.str "try")))) (tSeq (tAsg (tCB (rMax2) (tCons (tVar 2) (tCons (tCB (rInt1) (tCons (tOp (rIx K) (tVar 5) (tC (.int 1))) tNil)) tNil))) (gName 2))
      (tAsg (tOrV (tVar 4) (tOp (rNee K) (tOp (rIx K) (tVar 5) (tC (.int 1))) (tVar 1))) (gName 4))) tNext)))
      (tRet (tMake (He.ga K "Terms") (sp_Terms_init K) [] E0 (tCons (tVar 3) (tCons (tVar 4) (tCons (tOp (rInn2 K) (tTup (tCons (tC (.str "house")) tNil)) (tVar 0)) tNil)))))))
def t_Story_init (K : PySem.W.Frag) [HasW K] : TS :=
  (tSeq (tIfS (tNot (tB (tCall (sp_is_sequence K) [] E0 (tCons (tVar 1) tNil)))) tNever tNext)
      (tSeq (tPar 2 3 (tCons (tLstM tNil) (tCons (tC (.int 0)) tNil)))
      (tSeq (tFor (iEnumA K (tCons (tVar 1) tNil)) (gTup K 2 (gCons (gName 4) (gCons (gName 5) gNil))) (tSeq (tAsg (tCall (sp_parse K) [] E0 (tCons (tVar 5) tNil)) (gName 6))
      (tSeq (tIfS (tNot (tB (tCall (sp_is_possible K) [] E0 (tCons (tVar 6) (tCons (tVar 3) tNil))))) tNever tNext)
      (tSeq (tAug 3 (tCB (rInt1) (tCons (tOp (rEqq K) (tOp (rIx K) (tVar 6) (tC (.int 0))) (tC (.str "give"))) tNil)) rAug)
      (tDrop (tBM K "list" rAppend (tVar 2) (tCons (tVar 6) tNil)))))))
      (tSeq (sFld K (tVar 0) (tCB (rTupOf K) (tCons (tVar 1) tNil)) "events")
      (tSeq (sFld K (tVar 0) (tCB (rTupOf K) (tCons (tVar 2) tNil)) "parsed")
      (sFld K (tVar 0) (tCall (sp_needs_of K) [] E0 (tCons (tFld K (tVar 0) "parsed") tNil)) "needs"))))))
def t_law_less_right (K : PySem.W.Frag) [HasW K] : TS :=
  (tSeq (tAsg (tFld K (tVar 0) "needs") (gName 1))
      (tSeq (tIfS (tOr (tNot (tB (tMeth (He.ga K "Terms") "lets" (sp_Terms_lets K) [] E0 (tVar 1) (tCons (tVar 0) tNil)))) (tNot (tB (tMeth (He.ga K "Terms") "lets" (sp_Terms_lets K) [] E0 (tMake (He.ga K "Terms") (sp_Terms_init K) [] E0 (tCons (tC .non) (tCons (tC (.bl true)) (tCons (tC (.bl true)) tNil)))) (tCons (tVar 0) tNil))))) (tRet (tC (.bl false))) tNext)
      (tSeq (tIfS (tAnd (tTest (tOp (rGt') (tFld K (tVar 1) "skips") (tC (.int 0)))) (tB (tMeth (He.ga K "Terms") "lets" (sp_Terms_lets K) [] E0 (tMethKw (He.ga K "Terms") "but" ["skips", "elder", "house"] (sp_Terms_but K) E0 (tVar 1) (tCons (tOp (rMinus) (tFld K (tVar 1) "skips") (tC (.int 1))) (tCons (tC (.bl true)) (tCons (tC (.bl true)) tNil)))) (tCons (tVar 0) tNil)))) (tRet (tC (.bl false))) tNext)
      (tSeq (tIfS (tAnd (tB (tFld K (tVar 1) "elder")) (tB (tMeth (He.ga K "Terms") "lets" (sp_Terms_lets K) [] E0 (tMethKw (He.ga K "Terms") "but" ["skips", "elder", "house"] (sp_Terms_but K) E0 (tVar 1) (tCons (tC .non) (tCons (tC (.bl false)) (tCons (tC (.bl true)) tNil)))) (tCons (tVar 0) tNil)))) (tRet (tC (.bl false))) tNext)
      (tRet (tOrV (tNotV (tFld K (tVar 1) "house")) (tNotV (tMeth (He.ga K "Terms") "lets" (sp_Terms_lets K) [] E0 (tMethKw (He.ga K "Terms") "but" ["skips", "elder", "house"] (sp_Terms_but K) E0 (tVar 1) (tCons (tC .non) (tCons (tC (.bl true)) (tCons (tC (.bl false)) tNil)))) (tCons (tVar 0) tNil)))))))))
def t_Story_read (K : PySem.W.Frag) [HasW K] : TS :=
  (tSeq (tIfS (tTest (tOp (rEqq K) (tVar 1) (tC (.str "-")))) (tRet (tMakeL 0 (He.ga K "Story") (sp_Story_init K) (dv_Story_init_1 K) E0 tNil)) tNext)
      (tSeq ((tAsg (tMakeL 0 (He.ga K "Story") (sp_Story_init K) [] E0 (tCons (tM1 rSplit (tVar 1) (tC (.str "; "))) tNil)) (gName 2)))
      (tRet (tVar 2))))
def t_Story_upto (K : PySem.W.Frag) [HasW K] : TS :=
  (tRet (tMake (He.ga K "Story") (sp_Story_init K) [] E0 (tCons (tSl (rSlc K) (tFld K (tVar 0) "events") tNoPart (tPart (tVar 1))) tNil)))
def t_law (K : PySem.W.Frag) [HasW K] : TS :=
  (tSeq (tAsg (tCall (sp_law_deal K) [] E0 (tCons (tVar 0) (tCons (tC (.int 0)) tNil))) (gName 1))
      (tSeq (tFor (iRng1 (tCons (tC (.int 10)) tNil)) (gName 2) (tSeq (tAsg (tCall (sp_law_events K) [] E0 (tCons (tVar 1) (tCons (tCall (sp_law_draw K) [] E0 (tCons (tVar 1) (tCons (tC (.int 25)) tNil))) (tCons (tCall (sp_law_pick K) [] E0 (tCons (tVar 1) (tCons (tLst (tCons (tC (.int 3)) (tCons (tC (.int 9)) tNil))) tNil))) tNil)))) (gName 3))
      (tSeq (tAsg (tMake (He.ga K "Story") (sp_Story_init K) [] E0 (tCons (tVar 3) tNil)) (gName 4))
      (tSeq (tIfS (tNot (tB (tCall (sp_law_less_right K) [] E0 (tCons (tVar 4) tNil)))) (tRet (tC (.bl false))) tNext)
      (tFor (iRng1 (tCons (tC (.int 6)) tNil)) (gName 5) (tSeq (tAsg (tCall (sp_law_one K) [] E0 (tCons (tVar 1) tNil)) (gName 6))
      (tSeq (tAsg (tMake (He.ga K "Terms") (sp_Terms_init K) [] E0 (tCons (tOp (rIx K) (tVar 6) (tC (.int 0))) (tCons (tOp (rIx K) (tVar 6) (tC (.int 1))) (tCons (tOp (rIx K) (tVar 6) (tC (.int 2))) tNil)))) (gName 7))
      (tSeq (tIfS (tTest (tOp (rNee K) (tCB (rRepr K) (tCons (tMeth (He.ga K "Terms") "lets" (sp_Terms_lets K) [] E0 (tVar 7) (tCons (tVar 4) tNil)) tNil)) (tCB (rRepr K) (tCons (tCall (sp_law_lets K) [] E0 (tCons (tVar 6) (tCons (tVar 3) tNil))) tNil)))) (tRet (tC (.bl false))) tNext)
      (tSeq (tAsg (tIf (tTest (tOp (rEqq K) (tCall (sp_law_draw K) [] E0 (tCons (tVar 1) (tCons (tC (.int 2)) tNil))) (tC (.int 0)))) (tMethKw (He.ga K "Terms") "but" ["elder"] (sp_Terms_but K) E0 (tVar 7) (tCons (tC (.bl true)) tNil)) (tMethKw (He.ga K "Terms") "but" ["skips"] (sp_Terms_but K) E0 (tVar 7) (tCons (tC .non) tNil))) (gName 8))
      (tSeq (tIfS (tAnd (tB (tMeth (He.ga K "Terms") "lets" (sp_Terms_lets K) [] E0 (tVar 7) (tCons (tVar 4) tNil))) (tNot (tB (tMeth (He.ga K "Terms") "lets" (sp_Terms_lets K) [] E0 (tVar 8) (tCons (tVar 4) tNil))))) (tRet (tC (.bl false))) tNext)
      (tSeq (tIfS (tNot (tB (tMeth (He.ga K "Terms") "lets" (sp_Terms_lets K) [] E0 (tVar 7) (tCons (tVar 4) tNil)))) (tCont) tNext)
      (tIfS (tTest (tOp (rNee K) (tLc (iRng1 (tCons (tCB (rLenOwn (He.ga K "Story") (sp_Story_len K)) (tCons (tVar 4) tNil)) tNil)) (gName 9) (tNot (tB (tMeth (He.ga K "Terms") "lets" (sp_Terms_lets K) [] E0 (tVar 7) (tCons (tMeth (He.ga K "Story") "upto" (sp_Story_upto K) [] E0 (tVar 4) (tCons (tVar 9) tNil)) tNil)))) (tVar 9) [9]) (tLst tNil))) (tRet (tC (.bl false))) tNext))))))))))))
      (tSeq (tAsg (tLst (tCons (tTup (tCons (tC (.str "-")) (tCons (tC (.str "skips 0")) tNil))) (tCons (tTup (tCons (tC (.str "give; give; give")) (tCons (tC (.str "skips 2")) tNil))) (tCons (tTup (tCons (tC (.str "give; try 1; give; try 2")) (tCons (tC (.str "skips 0")) tNil))) tNil)))) (gName 10))
      (tSeq (tAsg (tOp (rPlus K) (tVar 10) (tLst (tCons (tTup (tCons (tC (.str "give; give; try 1; give; give")) (tCons (tC (.str "skips 2 elder")) tNil))) tNil))) (gName 10))
      (tSeq (tAsg (tOp (rPlus K) (tVar 10) (tLst (tCons (tTup (tCons (tC (.str "give; house; give; try 2; try 2")) (tCons (tC (.str "skips 1 house")) tNil))) tNil))) (gName 10))
      (tSeq (tAsg (tOp (rPlus K) (tVar 10) (tLst (tCons (tTup (tCons (tC (.str "give; give; give; try 2; give; try 4; give")) (tCons (tC (.str "skips 2 elder")) tNil))) tNil))) (gName 10))
      (tSeq (tAsg (tOp (rPlus K) (tVar 10) (tLst (tCons (tTup (tCons (tC (.str "give; give; try 2; try 1; give")) (tCons (tC (.str "skips 1 elder")) tNil))) tNil))) (gName 10))
      (tRet (tOp (rEqq K) (tLc (iSeq K (tVar 10)) (gTup K 2 (gCons (gName 11) (gCons (gName 12) gNil))) tYes (tCB (rStrOwn (He.ga K "Terms") (sp_Terms_str K)) (tCons (tFld K (ClX.tCMeth (He.ga K "Story") (sp_Story_read K) E0 (tC (.ref (He.ga K "Story"))) (tCons (tVar 11) tNil)) "needs") tNil)) [11, 12]) (tLc (iSeq K (tVar 10)) (gTup K 2 (gCons (gName 11) (gCons (gName 12) gNil))) tYes (tVar 12) [11, 12]))))))))))
theorem na1 {K : PySem.W.Frag} {x f : Str} (h : noB K x [f] = true) : NoAttr K (He.ga K x) f := noB_ok h f (by simp)
structure Tx (K : PySem.W.Frag) [HasW K] (mg : Str → Option Value) (wld : World) where
  hww : HasW.w K = wld
  f_abs : mg "abs" = none
  f_all : mg "all" = none
  f_bool : mg "bool" = none
  f_enumerate : mg "enumerate" = none
  f_int : mg "int" = none
  f_isinstance : mg "isinstance" = none
  f_len : mg "len" = none
  f_list : mg "list" = none
  f_max : mg "max" = none
  f_range : mg "range" = none
  f_repr : mg "repr" = none
  f_str : mg "str" = none
  f_tuple : mg "tuple" = none
  c_DIGITS : ∃ t, mg "DIGITS" = some (.str "0123456789" t)
  g_Story : mg "Story" = some (.ref (He.ga K "Story"))
  g_Terms : mg "Terms" = some (.ref (He.ga K "Terms"))
  g_is_integer : mg "is_integer" = some (.ref (He.ga K "is_integer"))
  g_is_number : mg "is_number" = some (.ref (He.ga K "is_number"))
  g_is_sequence : mg "is_sequence" = some (.ref (He.ga K "is_sequence"))
  g_number_in : mg "number_in" = some (.ref (He.ga K "number_in"))
  mk_Terms : Mk K (He.ga K "Terms") (He.ma K (He.ga K "Terms") "__init__")
  m_Terms_lets : Meth K (He.ga K "Terms") "lets" (He.ma K (He.ga K "Terms") "lets")
  m_Terms_but : Meth K (He.ga K "Terms") "but" (He.ma K (He.ga K "Terms") "but")
  g_parse : mg "parse" = some (.ref (He.ga K "parse"))
  g_is_possible : mg "is_possible" = some (.ref (He.ga K "is_possible"))
  g_needs_of : mg "needs_of" = some (.ref (He.ga K "needs_of"))
  mk_Story : Mk K (He.ga K "Story") (He.ma K (He.ga K "Story") "__init__")
  m_Story_upto : Meth K (He.ga K "Story") "upto" (He.ma K (He.ga K "Story") "upto")
  g_law_deal : mg "_law_deal" = some (.ref (He.ga K "_law_deal"))
  g_law_draw : mg "_law_draw" = some (.ref (He.ga K "_law_draw"))
  g_law_needs : mg "_law_needs" = some (.ref (He.ga K "_law_needs"))
  g_law_lets : mg "_law_lets" = some (.ref (He.ga K "_law_lets"))
  g_law_pick : mg "_law_pick" = some (.ref (He.ga K "_law_pick"))
  g_law_events : mg "_law_events" = some (.ref (He.ga K "_law_events"))
  g_law_one : mg "_law_one" = some (.ref (He.ga K "_law_one"))
  g_law_less_right : mg "_law_less_right" = some (.ref (He.ga K "_law_less_right"))
  g_law : mg "law" = some (.ref (He.ga K "law"))
  cl_Story : Cls K (He.ga K "Story")
  cl_Terms : Cls K (He.ga K "Terms")
  ck_Story : ClsOk K (He.ga K "Story")
  ck_Terms : ClsOk K (He.ga K "Terms")
  na_Story_events : NoAttr K (He.ga K "Story") "events"
  na_Story_needs : NoAttr K (He.ga K "Story") "needs"
  na_Story_parsed : NoAttr K (He.ga K "Story") "parsed"
  na_Terms_elder : NoAttr K (He.ga K "Terms") "elder"
  na_Terms_house : NoAttr K (He.ga K "Terms") "house"
  na_Terms_skips : NoAttr K (He.ga K "Terms") "skips"
  cr_Story : ClX.CRead K (He.ga K "Story") (.type "type")
  cm_Story_read : ClX.CMet K (He.ga K "Story") (.type "type") "read" (He.ma K (He.ga K "Story") "read") (recAd K (He.ma K (He.ga K "Story") "read") "classmethod")
  fs_Story_len : PySem.W.findIn K (.ref (He.ga K "Story")) "__len__" = some (some (.ref (He.ma K (He.ga K "Story") "__len__"))) ∧ PySem.W.isFn K (.ref (He.ma K (He.ga K "Story") "__len__")) = true
  fs_Terms_str : PySem.W.findIn K (.ref (He.ga K "Terms")) "__str__" = some (some (.ref (He.ma K (He.ga K "Terms") "__str__"))) ∧ PySem.W.isFn K (.ref (He.ma K (He.ga K "Terms") "__str__")) = true
  dt_Story_init_0 : ∀ H, SqT K H (He.dflAt ("Story", some "__init__") 0 K) []
  fd_is_integer : FuncData
  F_is_integer : FunD K "is_integer" "is_integer" (defArgs st_is_integer) (defBody st_is_integer) (defScope st_is_integer) [] [] (He.ga K "is_integer") fd_is_integer
  fd_is_number : FuncData
  F_is_number : FunD K "is_number" "is_number" (defArgs st_is_number) (defBody st_is_number) (defScope st_is_number) [] [] (He.ga K "is_number") fd_is_number
  fd_is_sequence : FuncData
  F_is_sequence : FunD K "is_sequence" "is_sequence" (defArgs st_is_sequence) (defBody st_is_sequence) (defScope st_is_sequence) [] [] (He.ga K "is_sequence") fd_is_sequence
  fd_number_in : FuncData
  F_number_in : FunD K "number_in" "number_in" (defArgs st_number_in) (defBody st_number_in) (defScope st_number_in) [] [] (He.ga K "number_in") fd_number_in
  fd_Terms_init : FuncData
  F_Terms_init : FunD K "__init__" "Terms.__init__" (defArgs st_Terms_init) (defBody st_Terms_init) (defScope st_Terms_init) (dfl_Terms_init.map (He.Dv.v K)) [] (He.ma K (He.ga K "Terms") "__init__") fd_Terms_init
  fd_Terms_lets : FuncData
  F_Terms_lets : FunD K "lets" "Terms.lets" (defArgs st_Terms_lets) (defBody st_Terms_lets) (defScope st_Terms_lets) [] [] (He.ma K (He.ga K "Terms") "lets") fd_Terms_lets
  fd_Terms_but : FuncData
  F_Terms_but : FunD K "but" "Terms.but" (defArgs st_Terms_but) (defBody st_Terms_but) (defScope st_Terms_but) [] [] (He.ma K (He.ga K "Terms") "but") fd_Terms_but
  fd_Terms_str : FuncData
  F_Terms_str : FunD K "__str__" "Terms.__str__" (defArgs st_Terms_str) (defBody st_Terms_str) (defScope st_Terms_str) [] [] (He.ma K (He.ga K "Terms") "__str__") fd_Terms_str
  fd_parse : FuncData
  F_parse : FunD K "parse" "parse" (defArgs st_parse) (defBody st_parse) (defScope st_parse) [] [] (He.ga K "parse") fd_parse
  fd_is_possible : FuncData
  F_is_possible : FunD K "is_possible" "is_possible" (defArgs st_is_possible) (defBody st_is_possible) (defScope st_is_possible) [] [] (He.ga K "is_possible") fd_is_possible
  fd_needs_of : FuncData
  F_needs_of : FunD K "needs_of" "needs_of" (defArgs st_needs_of) (defBody st_needs_of) (defScope st_needs_of) [] [] (He.ga K "needs_of") fd_needs_of
  fd_Story_init : FuncData
  F_Story_init : FunD K "__init__" "Story.__init__" (defArgs st_Story_init) (defBody st_Story_init) (defScope st_Story_init) (dfl_Story_init.map (He.Dv.v K)) [] (He.ma K (He.ga K "Story") "__init__") fd_Story_init
  fd_Story_read : FuncData
  F_Story_read : FunD K "read" "Story.read" (defArgs st_Story_read) (defBody st_Story_read) (defScope st_Story_read) [] [] (recAd K (He.ma K (He.ga K "Story") "read") "classmethod") fd_Story_read
  fd_Story_upto : FuncData
  F_Story_upto : FunD K "upto" "Story.upto" (defArgs st_Story_upto) (defBody st_Story_upto) (defScope st_Story_upto) [] [] (He.ma K (He.ga K "Story") "upto") fd_Story_upto
  fd_Story_len : FuncData
  F_Story_len : FunD K "__len__" "Story.__len__" (defArgs st_Story_len) (defBody st_Story_len) (defScope st_Story_len) [] [] (He.ma K (He.ga K "Story") "__len__") fd_Story_len
  fd_law_deal : FuncData
  F_law_deal : FunD K "_law_deal" "_law_deal" (defArgs st_law_deal) (defBody st_law_deal) (defScope st_law_deal) [] [] (He.ga K "_law_deal") fd_law_deal
  fd_law_draw : FuncData
  F_law_draw : FunD K "_law_draw" "_law_draw" (defArgs st_law_draw) (defBody st_law_draw) (defScope st_law_draw) [] [] (He.ga K "_law_draw") fd_law_draw
  fd_law_needs : FuncData
  F_law_needs : FunD K "_law_needs" "_law_needs" (defArgs st_law_needs) (defBody st_law_needs) (defScope st_law_needs) [] [] (He.ga K "_law_needs") fd_law_needs
  fd_law_lets : FuncData
  F_law_lets : FunD K "_law_lets" "_law_lets" (defArgs st_law_lets) (defBody st_law_lets) (defScope st_law_lets) [] [] (He.ga K "_law_lets") fd_law_lets
  fd_law_pick : FuncData
  F_law_pick : FunD K "_law_pick" "_law_pick" (defArgs st_law_pick) (defBody st_law_pick) (defScope st_law_pick) [] [] (He.ga K "_law_pick") fd_law_pick
  fd_law_events : FuncData
  F_law_events : FunD K "_law_events" "_law_events" (defArgs st_law_events) (defBody st_law_events) (defScope st_law_events) [] [] (He.ga K "_law_events") fd_law_events
  fd_law_one : FuncData
  F_law_one : FunD K "_law_one" "_law_one" (defArgs st_law_one) (defBody st_law_one) (defScope st_law_one) [] [] (He.ga K "_law_one") fd_law_one
  fd_law_less_right : FuncData
  F_law_less_right : FunD K "_law_less_right" "_law_less_right" (defArgs st_law_less_right) (defBody st_law_less_right) (defScope st_law_less_right) [] [] (He.ga K "_law_less_right") fd_law_less_right
  fd_law : FuncData
  F_law : FunD K "law" "law" (defArgs st_law) (defBody st_law) (defScope st_law) [] [] (He.ga K "law") fd_law
section
variable {P : Program} {w : World} {K : PySem.W.Frag} [HasW K] {mg : Str → Option Value} {base : Heap}
theorem sd_is_integer (T : Tx K mg w) : SnS K (t_is_integer K) m_is_integer := by
  unfold t_is_integer m_is_integer
  exact (sn_ret (sn_andV (sn_isT (by decide) (sn_var)) (sn_notV (sn_isT (by decide) (sn_var)))))
theorem ok_is_integer (T : Tx K mg w) : FnOk P w K mg base CX0 1 (He.ga K "is_integer") T.fd_is_integer ps_is_integer (sp_is_integer K) := by
  refine T.F_is_integer.ok sc_is_integer (fun vs H Q E h => ln_body h) (fun cdv A outer s H vs Q E hr h => ⟨t_is_integer K, PSs.nox ?_, fn_rd (N := nm_is_integer) (fn_body (sd_is_integer T)) h⟩)
  exact (pss_one (ps_ret (pe_and (pe_callB call_isi (by rfl) T.f_isinstance (by decide +kernel) (pa_cons (pv 0) (pa_cons (pe_bltn (by rfl) T.f_int (by decide +kernel) rfl) pa_nil))) (pe_one (pe_not (pe_callB call_isi (by rfl) T.f_isinstance (by decide +kernel) (pa_cons (pv 0) (pa_cons (pe_bltn (by rfl) T.f_bool (by decide +kernel) rfl) pa_nil))))))))
theorem b_is_integer (T : Tx K mg w) : Binds K T.fd_is_integer ps_is_integer [] := T.F_is_integer.bindsN fun _ _ _ _ _ _ us hl => match us, hl with | [_], _ => rfl
theorem sd_is_sequence (T : Tx K mg w) : SnS K (t_is_sequence K) m_is_sequence := by
  unfold t_is_sequence m_is_sequence
  exact (sn_ret (sn_isSeq (sn_var)))
theorem ok_is_sequence (T : Tx K mg w) : FnOk P w K mg base CX0 1 (He.ga K "is_sequence") T.fd_is_sequence ps_is_sequence (sp_is_sequence K) := by
  refine T.F_is_sequence.ok sc_is_sequence (fun vs H Q E h => ln_body h) (fun cdv A outer s H vs Q E hr h => ⟨t_is_sequence K, PSs.nox ?_, fn_rd (N := nm_is_sequence) (fn_body (sd_is_sequence T)) h⟩)
  exact (pss_one (ps_ret (pe_callB call_isiT (by rfl) T.f_isinstance (by decide +kernel) (pa_cons (pv 0) (pa_cons (pe_tup (pa_cons (pe_bltn (by rfl) T.f_list (by decide +kernel) rfl) (pa_cons (pe_bltn (by rfl) T.f_tuple (by decide +kernel) rfl) pa_nil))) pa_nil)))))
theorem b_is_sequence (T : Tx K mg w) : Binds K T.fd_is_sequence ps_is_sequence [] := T.F_is_sequence.bindsN fun _ _ _ _ _ _ us hl => match us, hl with | [_], _ => rfl
theorem sd_number_in (T : Tx K mg w) : SnS K (t_number_in K) m_number_in := by
  unfold t_number_in m_number_in
  exact (sn_seq (sn_ifS (sn_or (sn_not (sn_test (sn_chain ov_le ov_le (sn_int) (sn_cb1 ou_len (sn_var)) (sn_var)))) (sn_not (sn_B (sn_cb1 ou_all (sn_lc (sn_iStr (sn_var)) sn_cName sn_yes (sn_op ov_in (sn_var) (sn_str))))))) (sn_ret (sn_non)) sn_next)
      (sn_ret (sn_if (sn_or (sn_test (sn_op ov_eq (sn_var) (sn_str))) (sn_test (sn_op ov_ne (sn_ix (sn_var) (sn_int)) (sn_str)))) (sn_cb1 ou_int2 (sn_var)) (sn_non))))
theorem ok_number_in (T : Tx K mg w) : FnOk P w K mg base CX0 1 (He.ga K "number_in") T.fd_number_in ps_number_in (sp_number_in K) := by
  refine T.F_number_in.ok sc_number_in (fun vs H Q E h => ln_body h) (fun cdv A outer s H vs Q E hr h => ⟨t_number_in K, PSs.nox ?_, fn_rd (N := nm_number_in) (fn_body (sd_number_in T)) h⟩)
  exact (pss_cons (ps_if (PW.pt (pw_or (pt_not (pt_chain (op_le') (op_le') (pe_int) (pe_callB (call_lenA) (by rfl) T.f_len (by decide +kernel) (pa_cons (pv 0) pa_nil)) (pv 1))) (pw_or1 (pt_not (pt_val (pe_callB (cr_all rfl) (by rfl) T.f_all (by decide +kernel) (pa_cons (pe_lc (own := [("sign", 2)]) rfl sc_number_in.nd (pi_str (pv 0)) (blkOk_by (own := [("sign", 2)]) (N := nm_number_in) (sc := defScope st_number_in) (by decide +kernel)) (fun _ _ _ _ _ => (pg_n 2 sc_number_in.nd)) (fun _ _ _ _ _ => pts_nil) (fun _ _ _ _ _ => (pe_cmpR (op_inn) (pv 2) (pe_glob (by rfl) T.c_DIGITS.choose_spec ⟨_, rfl⟩) (by rfl)))) pa_nil))))))) (pss_one (ps_ret (pe_non))) pss_nil)
      (pss_one (ps_ret (pe_ifExp (PW.pt (pw_or (pt_cmpR (op_eqq hr.units) (pv 0) (pe_str) (nomark _)) (pw_or1 (pt_cmpR (op_nee hr.units) (pe_ix ix_seq (pv 0) (pe_int) (fun _ _ => rfl)) (pe_str) (nomark _))))) (pe_callTy (call_intA) (by rfl) T.f_int (by decide +kernel) (pa_cons (pv 0) pa_nil)) (pe_non)))))
theorem b_number_in (T : Tx K mg w) : Binds K T.fd_number_in ps_number_in [] := T.F_number_in.bindsN fun _ _ _ _ _ _ us hl => match us, hl with | [_, _], _ => rfl
theorem sd_Terms_lets (T : Tx K mg w) : SnS K (t_Terms_lets K) m_Terms_lets := by
  unfold t_Terms_lets m_Terms_lets
  exact (sn_seq (sn_asg (sn_fld T.ck_Story.cl T.na_Story_needs (sn_var)) sn_gName)
      (sn_seq (sn_ifS (sn_and (sn_test (sn_notN (sn_fld T.ck_Terms.cl T.na_Terms_skips (sn_var)))) (sn_test (sn_op ov_gt (sn_fld T.ck_Terms.cl T.na_Terms_skips (sn_var)) (sn_fld T.ck_Terms.cl T.na_Terms_skips (sn_var))))) (sn_ret (sn_bl)) sn_next)
      (sn_ret (sn_andV (sn_orV (sn_fld T.ck_Terms.cl T.na_Terms_elder (sn_var)) (sn_notV (sn_fld T.ck_Terms.cl T.na_Terms_elder (sn_var)))) (sn_orV (sn_fld T.ck_Terms.cl T.na_Terms_house (sn_var)) (sn_notV (sn_fld T.ck_Terms.cl T.na_Terms_house (sn_var))))))))
theorem ok_Terms_lets (T : Tx K mg w) : FnOk P w K mg base CX0 1 (He.ma K (He.ga K "Terms") "lets") T.fd_Terms_lets ps_Terms_lets (sp_Terms_lets K) := by
  refine T.F_Terms_lets.ok sc_Terms_lets (fun vs H Q E h => ln_body h) (fun cdv A outer s H vs Q E hr h => ⟨t_Terms_lets K, PSs.nox ?_, fn_rd (N := nm_Terms_lets) (fn_body (sd_Terms_lets T)) h⟩)
  exact (pss_cons (ps_a 2 sc_Terms_lets.nd (pe_fld (pv 1) rfl))
      (pss_cons (ps_if (PW.pt (pw_and (pt_cmpR (op_notN1) (pe_fld (pv 0) rfl) (pe_non) (nomark _)) (pw_and1 (pt_cmpR (op_gt') (pe_fld (pv 2) rfl) (pe_fld (pv 0) rfl) (nomark _))))) (pss_one (ps_ret (pe_bl))) pss_nil)
      (pss_one (ps_ret (pe_and (pe_or (pe_fld (pv 0) rfl) (pe_one (pe_not (pe_fld (pv 2) rfl)))) (pe_one (pe_or (pe_fld (pv 0) rfl) (pe_one (pe_not (pe_fld (pv 2) rfl))))))))))
theorem b_Terms_lets (T : Tx K mg w) : Binds K T.fd_Terms_lets ps_Terms_lets [] := T.F_Terms_lets.bindsN fun _ _ _ _ _ _ us hl => match us, hl with | [_, _], _ => rfl
theorem sd_Terms_str (T : Tx K mg w) : SnS K (t_Terms_str K) m_Terms_str := by
  unfold t_Terms_str m_Terms_str
  exact (sn_seq (sn_asg (sn_op ov_plus (sn_op ov_times (sn_lst (sn_cons (sn_str) sn_nil)) (sn_cb1 ou_int (sn_fld T.ck_Terms.cl T.na_Terms_elder (sn_var)))) (sn_op ov_times (sn_lst (sn_cons (sn_str) sn_nil)) (sn_cb1 ou_int (sn_fld T.ck_Terms.cl T.na_Terms_house (sn_var))))) sn_gName)
      (sn_ret (sn_join (sn_str) (sn_lst (sn_cons (sn_str) (sn_cons (sn_if (sn_test (sn_isN (sn_fld T.ck_Terms.cl T.na_Terms_skips (sn_var)))) (sn_str) (sn_cb1 ou_str (sn_fld T.ck_Terms.cl T.na_Terms_skips (sn_var)))) (sn_star (sn_var) sn_nil)))))))
theorem ok_Terms_str (T : Tx K mg w) : FnOk P w K mg base CX0 1 (He.ma K (He.ga K "Terms") "__str__") T.fd_Terms_str ps_Terms_str (sp_Terms_str K) := by
  refine T.F_Terms_str.ok sc_Terms_str (fun vs H Q E h => ln_body h) (fun cdv A outer s H vs Q E hr h => ⟨t_Terms_str K, PSs.nox ?_, fn_rd (N := nm_Terms_str) (fn_body (sd_Terms_str T)) h⟩)
  exact (pss_cons (ps_a 1 sc_Terms_str.nd (pe_op op_plus (pe_op op_times (pe_lst (pa_cons (pe_str) pa_nil)) (pe_callTy (call_int1') (by rfl) T.f_int (by decide +kernel) (pa_cons (pe_fld (pv 0) rfl) pa_nil))) (pe_op op_times (pe_lst (pa_cons (pe_str) pa_nil)) (pe_callTy (call_int1') (by rfl) T.f_int (by decide +kernel) (pa_cons (pe_fld (pv 0) rfl) pa_nil)))))
      (pss_one (ps_ret (pe_join' (pe_str) (pe_lst (pa_cons (pe_str) (pa_cons (pe_ifExp (pt_cmpR (op_isN1) (pe_fld (pv 0) rfl) (pe_non) (nomark _)) (pe_str) (pe_callTy (call_strS) (by rfl) T.f_str (by decide +kernel) (pa_cons (pe_fld (pv 0) rfl) pa_nil))) (StX.pa_star (pv 1) pa_nil))))))))
theorem b_Terms_str (T : Tx K mg w) : Binds K T.fd_Terms_str ps_Terms_str [] := T.F_Terms_str.bindsN fun _ _ _ _ _ _ us hl => match us, hl with | [_], _ => rfl
theorem sd_is_possible (T : Tx K mg w) : SnS K (t_is_possible K) m_is_possible := by
  unfold t_is_possible m_is_possible
  exact (sn_seq (sn_ifS (sn_test (sn_isN (sn_var))) (sn_ret (sn_bl)) sn_next)
      (sn_ret (sn_orV (sn_op ov_eq (sn_ix (sn_var) (sn_int)) (sn_str)) (sn_andV (sn_op ov_gt (sn_var) (sn_int)) (sn_orV (sn_op ov_eq (sn_ix (sn_var) (sn_int)) (sn_str)) (sn_chain ov_le ov_le (sn_int) (sn_ix (sn_var) (sn_int)) (sn_var)))))))
theorem ok_is_possible (T : Tx K mg w) : FnOk P w K mg base CX0 1 (He.ga K "is_possible") T.fd_is_possible ps_is_possible (sp_is_possible K) := by
  refine T.F_is_possible.ok sc_is_possible (fun vs H Q E h => ln_body h) (fun cdv A outer s H vs Q E hr h => ⟨t_is_possible K, PSs.nox ?_, fn_rd (N := nm_is_possible) (fn_body (sd_is_possible T)) h⟩)
  exact (pss_cons (ps_if (pt_cmpR (op_isN1) (pv 0) (pe_non) (nomark _)) (pss_one (ps_ret (pe_bl))) pss_nil)
      (pss_one (ps_ret (pe_or (pe_cmpR (op_eqq hr.units) (pe_ix ix_seq (pv 0) (pe_int) (fun _ _ => rfl)) (pe_str) (nomark _)) (pe_one (pe_and (pe_cmpR (op_gt') (pv 1) (pe_int) (nomark _)) (pe_one (pe_or (pe_cmpR (op_eqq hr.units) (pe_ix ix_seq (pv 0) (pe_int) (fun _ _ => rfl)) (pe_str) (nomark _)) (pe_one (pe_chain (op_le') (op_le') (pe_int) (pe_ix ix_seq (pv 0) (pe_int) (fun _ _ => rfl)) (pv 1)))))))))))
theorem b_is_possible (T : Tx K mg w) : Binds K T.fd_is_possible ps_is_possible [] := T.F_is_possible.bindsN fun _ _ _ _ _ _ us hl => match us, hl with | [_, _], _ => rfl
theorem sd_Story_len (T : Tx K mg w) : SnS K (t_Story_len K) m_Story_len := by
  unfold t_Story_len m_Story_len
  exact (sn_ret (sn_cb1 ou_len (sn_fld T.ck_Story.cl T.na_Story_events (sn_var))))
theorem ok_Story_len (T : Tx K mg w) : FnOk P w K mg base CX0 1 (He.ma K (He.ga K "Story") "__len__") T.fd_Story_len ps_Story_len (sp_Story_len K) := by
  refine T.F_Story_len.ok sc_Story_len (fun vs H Q E h => ln_body h) (fun cdv A outer s H vs Q E hr h => ⟨t_Story_len K, PSs.nox ?_, fn_rd (N := nm_Story_len) (fn_body (sd_Story_len T)) h⟩)
  exact (pss_one (ps_ret (pe_callB (call_lenA) (by rfl) T.f_len (by decide +kernel) (pa_cons (pe_fld (pv 0) rfl) pa_nil))))
theorem b_Story_len (T : Tx K mg w) : Binds K T.fd_Story_len ps_Story_len [] := T.F_Story_len.bindsN fun _ _ _ _ _ _ us hl => match us, hl with | [_], _ => rfl
theorem sd_law_deal (T : Tx K mg w) : SnS K (t_law_deal K) m_law_deal := by
  unfold t_law_deal m_law_deal
  exact (sn_seq (sn_asg (sn_lc (sn_iSeq (sn_sl (sn_var) (sn_part (sn_var)) (sn_part (sn_int)))) sn_cName sn_yes (sn_cb1 ou_abs (sn_var))) sn_gName)
      (sn_seq (sn_asg (sn_op ov_plus (sn_int) (sn_op ov_times (sn_int) (sn_var))) sn_gName)
      (sn_seq (sn_for (sn_iSeq (sn_var)) sn_gName (sn_asg (sn_op ov_md (sn_cb1 ou_int (sn_op ov_plus (sn_op ov_times (sn_var) (sn_int)) (sn_op ov_md (sn_cb1 ou_int (sn_var)) (sn_int)))) (sn_int)) sn_gName))
      (sn_ret (sn_lsW (sn_cons (sn_revM (sn_lc (sn_iSeq (sn_var)) sn_cName (sn_test (sn_op ov_ge (sn_var) (sn_op ov_pw (sn_int) (sn_int)))) (sn_var))) (sn_cons (sn_var) sn_nil)))))))
theorem ok_law_deal (T : Tx K mg w) : FnOk P w K mg base CX0 1 (He.ga K "_law_deal") T.fd_law_deal ps_law_deal (sp_law_deal K) := by
  refine T.F_law_deal.ok sc_law_deal (fun vs H Q E h => ln_body h) (fun cdv A outer s H vs Q E hr h => ⟨t_law_deal K, PSs.nox ?_, fn_rd (N := nm_law_deal) (fn_body (sd_law_deal T)) h⟩)
  exact (pss_cons (ps_setLc (i := 3) (own := [("_law_cell", 2)]) rfl sc_law_deal.nd rfl rfl (sw_true rfl rfl rfl (by decide +kernel)) (pi_seq (pe_slice sl_any (pv 0) (po_some (pv 1)) (po_some (pe_int)))) (blkOk_by (own := [("_law_cell", 2)]) (N := nm_law_deal) (sc := defScope st_law_deal) (by decide +kernel)) (fun _ _ _ _ _ => (pg_n 2 sc_law_deal.nd)) (fun _ _ _ _ _ => pts_nil) (fun _ _ _ _ _ => (pe_callB (call_abs') (by rfl) T.f_abs (by decide +kernel) (pa_cons (pv 2) pa_nil))))
      (pss_cons (ps_a 4 sc_law_deal.nd (pe_op op_plus (pe_int) (pe_op op_times (pe_int) (pv 1))))
      (pss_cons (ps_for PassesOwn.never rfl (pi_seq (pv 3)) (pg_n 2 sc_law_deal.nd) (pss_one (ps_a 4 sc_law_deal.nd (pe_op op_md (pe_callTy (call_int1') (by rfl) T.f_int (by decide +kernel) (pa_cons (pe_op op_plus (pe_op op_times (pv 4) (pe_int)) (pe_op op_md (pe_callTy (call_int1') (by rfl) T.f_int (by decide +kernel) (pa_cons (pv 2) pa_nil)) (pe_int))) pa_nil)) (pe_int)))))
      (pss_one (ps_ret (pe_lst (pa_cons (pe_revL (pe_lc (own := [("_law_cell", 2)]) rfl sc_law_deal.nd (pi_seq (pv 3)) (blkOk_by (own := [("_law_cell", 2)]) (N := nm_law_deal) (sc := defScope st_law_deal) (by decide +kernel)) (fun _ _ _ _ _ => (pg_n 2 sc_law_deal.nd)) (fun _ _ _ _ _ => pts_one (pt_cmpR (op_ge') (pv 2) (pe_op op_pw (pe_int) (pe_int)) (nomark _))) (fun _ _ _ _ _ => (pv 2)))) (pa_cons (pv 4) pa_nil))))))))
theorem b_law_deal (T : Tx K mg w) : Binds K T.fd_law_deal ps_law_deal [] := T.F_law_deal.bindsN fun _ _ _ _ _ _ us hl => match us, hl with | [_, _], _ => rfl
theorem sd_law_draw (T : Tx K mg w) : SnS K (t_law_draw K) m_law_draw := by
  unfold t_law_draw m_law_draw
  exact (sn_seq (sn_while (sn_and (sn_test (sn_op ov_ne (sn_ix (sn_var) (sn_int)) (sn_lst sn_nil))) (sn_test (sn_op ov_eq (sn_ix (sn_ix (sn_var) (sn_int)) (sn_un ou_neg (sn_int))) (sn_int)))) (sn_drop (sn_pop (sn_ix (sn_var) (sn_int)))))
      (sn_seq (sn_ifS (sn_test (sn_op ov_ne (sn_ix (sn_var) (sn_int)) (sn_lst sn_nil))) (sn_seq (sn_asg (sn_pop (sn_ix (sn_var) (sn_int))) sn_gName)
      (sn_seq (sn_drop (sn_append (sn_ix (sn_var) (sn_int)) (sn_cons (sn_op ov_fd (sn_var) (sn_var)) sn_nil)))
      (sn_ret (sn_op ov_md (sn_cb1 ou_int (sn_var)) (sn_var))))) sn_next)
      (sn_seq (sn_setI (sn_op ov_md (sn_cb1 ou_int (sn_op ov_plus (sn_op ov_times (sn_ix (sn_var) (sn_int)) (sn_int)) (sn_int))) (sn_int)) (sn_var) (sn_int))
      (sn_ret (sn_op ov_md (sn_cb1 ou_int (sn_op ov_fd (sn_ix (sn_var) (sn_int)) (sn_int))) (sn_var))))))
theorem ok_law_draw (T : Tx K mg w) : FnOk P w K mg base CX0 1 (He.ga K "_law_draw") T.fd_law_draw ps_law_draw (sp_law_draw K) := by
  refine T.F_law_draw.ok sc_law_draw (fun vs H Q E h => ln_body h) (fun cdv A outer s H vs Q E hr h => ⟨t_law_draw K, PSs.nox ?_, fn_rd (N := nm_law_draw) (fn_body (sd_law_draw T)) h⟩)
  exact (pss_cons (ps_while PassesOwn.never (PW.pt (pw_and (pt_cmpR (op_nee hr.units) (pe_ix ix_seq (pv 0) (pe_int) (fun _ _ => rfl)) (pe_lst pa_nil) (nomark _)) (pw_and1 (pt_cmpR (op_eqq hr.units) (pe_ix ix_seq (pe_ix ix_seq (pv 0) (pe_int) (fun _ _ => rfl)) (pe_un un_neg (pe_int)) (fun _ _ => rfl)) (pe_int) (nomark _))))) (pss_one (ps_expr (pe_bm0 PySem.F.plainAttrs_list PySem.F.slot_list_pop PySem.F.type_list_pop mt_pop (pe_ix ix_seq (pv 0) (pe_int) (fun _ _ => rfl))))))
      (pss_cons (ps_if (pt_cmpR (op_nee hr.units) (pe_ix ix_seq (pv 0) (pe_int) (fun _ _ => rfl)) (pe_lst pa_nil) (nomark _)) (pss_cons (ps_a 2 sc_law_draw.nd (pe_bm0 PySem.F.plainAttrs_list PySem.F.slot_list_pop PySem.F.type_list_pop mt_pop (pe_ix ix_seq (pv 0) (pe_int) (fun _ _ => rfl))))
      (pss_cons (ps_expr (pe_bm PySem.F.plainAttrs_list PySem.F.slot_list_append PySem.F.type_list_append mt_append (pe_ix ix_seq (pv 0) (pe_int) (fun _ _ => rfl)) (pa_cons (pe_op op_fd (pv 2) (pv 1)) pa_nil)))
      (pss_one (ps_ret (pe_op op_md (pe_callTy (call_int1') (by rfl) T.f_int (by decide +kernel) (pa_cons (pv 2) pa_nil)) (pv 1)))))) pss_nil)
      (pss_cons (ps_asg (pe_op op_md (pe_callTy (call_int1') (by rfl) T.f_int (by decide +kernel) (pa_cons (pe_op op_plus (pe_op op_times (pe_ix ix_seq (pv 0) (pe_int) (fun _ _ => rfl)) (pe_int)) (pe_int)) pa_nil)) (pe_int)) (pg_sub (pv 0) (pe_int) set_list))
      (pss_one (ps_ret (pe_op op_md (pe_callTy (call_int1') (by rfl) T.f_int (by decide +kernel) (pa_cons (pe_op op_fd (pe_ix ix_seq (pv 0) (pe_int) (fun _ _ => rfl)) (pe_int)) pa_nil)) (pv 1)))))))
theorem b_law_draw (T : Tx K mg w) : Binds K T.fd_law_draw ps_law_draw [] := T.F_law_draw.bindsN fun _ _ _ _ _ _ us hl => match us, hl with | [_, _], _ => rfl
theorem sd_law_needs (T : Tx K mg w) : SnS K (t_law_needs K) m_law_needs := by
  unfold t_law_needs m_law_needs
  exact (sn_seq (sn_parN (is := [1, 2, 3, 4]) (sn_cons (sn_int) (sn_cons (sn_int) (sn_cons (sn_int) (sn_cons (sn_bl) sn_nil)))))
      (sn_seq (sn_for (sn_iSeq (sn_var)) sn_gName (sn_ifS (sn_test (sn_op ov_eq (sn_var) (sn_str))) (sn_seq (sn_asg (sn_cb2 ov_max (sn_cb1 ou_int (sn_var)) (sn_cb1 ou_int (sn_op ov_minus (sn_var) (sn_var)))) sn_gName)
      (sn_asg (sn_op ov_plus (sn_var) (sn_int)) sn_gName)) (sn_ifS (sn_test (sn_op ov_ne (sn_var) (sn_str))) (sn_seq (sn_asg (sn_cb1 ou_int2 (sn_sl (sn_var) (sn_part (sn_int)) sn_noPart)) sn_gName)
      (sn_seq (sn_asg (sn_orV (sn_var) (sn_op ov_lt (sn_var) (sn_var))) sn_gName)
      (sn_asg (sn_cb2 ov_max (sn_var) (sn_var)) sn_gName))) sn_next)))
      (sn_ret (sn_tup (sn_cons (sn_var) (sn_cons (sn_var) (sn_cons (sn_op ov_in (sn_str) (sn_var)) sn_nil)))))))
theorem ok_law_needs (T : Tx K mg w) : FnOk P w K mg base CX0 1 (He.ga K "_law_needs") T.fd_law_needs ps_law_needs (sp_law_needs K) := by
  refine T.F_law_needs.ok sc_law_needs (fun vs H Q E h => ln_body h) (fun cdv A outer s H vs Q E hr h => ⟨t_law_needs K, PSs.nox ?_, fn_rd (N := nm_law_needs) (fn_body (sd_law_needs T)) h⟩)
  exact (pss_cons (ps_asg (pe_tup (pa_cons (pe_int) (pa_cons (pe_int) (pa_cons (pe_int) (pa_cons (pe_bl) pa_nil))))) (pg_tup rfl (pgs_cons (pg_n 1 sc_law_needs.nd) (pgs_cons (pg_n 2 sc_law_needs.nd) (pgs_cons (pg_n 3 sc_law_needs.nd) (pgs_cons (pg_n 4 sc_law_needs.nd) pgs_nil))))))
      (pss_cons (ps_for PassesOwn.never rfl (pi_seq (pv 0)) (pg_n 5 sc_law_needs.nd) (pss_one (ps_if (pt_cmpR (op_eqq hr.units) (pv 5) (pe_str) (nomark _)) (pss_cons (ps_a 3 sc_law_needs.nd (pe_callB (call_max2' rfl) (by rfl) T.f_max (by decide +kernel) (pa_cons (pe_callTy (call_int1') (by rfl) T.f_int (by decide +kernel) (pa_cons (pv 3) pa_nil)) (pa_cons (pe_callTy (call_int1') (by rfl) T.f_int (by decide +kernel) (pa_cons (pe_op op_minus (pv 1) (pv 2)) pa_nil)) pa_nil))))
      (pss_one (ps_a 1 sc_law_needs.nd (pe_op op_plus (pv 1) (pe_int))))) (pss_one (ps_if (pt_cmpR (op_nee hr.units) (pv 5) (pe_str) (nomark _)) (pss_cons (ps_a 6 sc_law_needs.nd (pe_callTy (call_intA) (by rfl) T.f_int (by decide +kernel) (pa_cons (pe_slice sl_any (pv 5) (po_some (pe_int)) po_none) pa_nil)))
      (pss_cons (ps_a 4 sc_law_needs.nd (pe_or (pv 4) (pe_one (pe_cmpR (op_lt') (pv 6) (pv 1) (nomark _)))))
      (pss_one (ps_a 2 sc_law_needs.nd (pe_callB (call_max2' rfl) (by rfl) T.f_max (by decide +kernel) (pa_cons (pv 2) (pa_cons (pv 6) pa_nil))))))) pss_nil)))))
      (pss_one (ps_ret (pe_tup (pa_cons (pv 3) (pa_cons (pv 4) (pa_cons (pe_cmpR (op_inn) (pe_str) (pv 0) (by rfl)) pa_nil))))))))
theorem b_law_needs (T : Tx K mg w) : Binds K T.fd_law_needs ps_law_needs [] := T.F_law_needs.bindsN fun _ _ _ _ _ _ us hl => match us, hl with | [_], _ => rfl
theorem sd_is_number (T : Tx K mg w) : SnS K (t_is_number K) m_is_number := by
  unfold t_is_number m_is_number
  exact (sn_ret (sn_andV (sn_call (sn_cons (sn_var) sn_nil) dfl_nil) (sn_op ov_ge (sn_var) (sn_int))))
theorem ok_is_number (T : Tx K mg w) : FnOk P w K mg base CX0 2 (He.ga K "is_number") T.fd_is_number ps_is_number (sp_is_number K) := by
  refine T.F_is_number.ok sc_is_number (fun vs H Q E h => ln_body h) (fun cdv A outer s H vs Q E hr h => ⟨t_is_number K, PSs.nox ?_, fn_rd (N := nm_is_number) (fn_body (sd_is_number T)) h⟩)
  exact (pss_one (ps_ret (pe_and (pe_call (ok_is_integer T) (hr.mono (by decide)) (by rfl) T.g_is_integer T.F_is_integer.kp (b_is_integer T) .nil pass0 (pa_cons (pv 0) pa_nil)) (pe_one (pe_cmpR (op_ge') (pv 0) (pe_int) (nomark _))))))
theorem b_is_number (T : Tx K mg w) : Binds K T.fd_is_number ps_is_number [] := T.F_is_number.bindsN fun _ _ _ _ _ _ us hl => match us, hl with | [_], _ => rfl
theorem sd_parse (T : Tx K mg w) : SnS K (t_parse K) m_parse := by
  unfold t_parse m_parse
  exact (sn_seq (sn_asg (sn_if (sn_B (sn_isT (by decide) (sn_var))) (sn_split (sn_var) (sn_str)) (sn_lst sn_nil)) sn_gName)
      (sn_seq (sn_ifS (sn_test (sn_op ov_in2 (sn_var) (sn_tup (sn_cons (sn_lst (sn_cons (sn_str) sn_nil)) (sn_cons (sn_lst (sn_cons (sn_str) sn_nil)) sn_nil))))) (sn_ret (sn_tup (sn_cons (sn_ix (sn_var) (sn_int)) sn_nil))) sn_next)
      (sn_seq (sn_asg (sn_if (sn_and (sn_test (sn_op ov_eq (sn_cb1 ou_len (sn_var)) (sn_int))) (sn_test (sn_op ov_eq (sn_ix (sn_var) (sn_int)) (sn_str)))) (sn_call (sn_cons (sn_ix (sn_var) (sn_int)) (sn_cons (sn_int) sn_nil)) dfl_nil) (sn_non)) sn_gName)
      (sn_ret (sn_if (sn_test (sn_isN (sn_var))) (sn_non) (sn_tup (sn_cons (sn_str) (sn_cons (sn_var) sn_nil))))))))
theorem ok_parse (T : Tx K mg w) : FnOk P w K mg base CX0 2 (He.ga K "parse") T.fd_parse ps_parse (sp_parse K) := by
  refine T.F_parse.ok sc_parse (fun vs H Q E h => ln_body h) (fun cdv A outer s H vs Q E hr h => ⟨t_parse K, PSs.nox ?_, fn_rd (N := nm_parse) (fn_body (sd_parse T)) h⟩)
  exact (pss_cons (ps_a 1 sc_parse.nd (pe_ifExp (pt_val (pe_callB call_isi (by rfl) T.f_isinstance (by decide +kernel) (pa_cons (pv 0) (pa_cons (pe_bltn (by rfl) T.f_str (by decide +kernel) rfl) pa_nil)))) (pe_split' (pv 0) (pe_str)) (pe_lst pa_nil)))
      (pss_cons (ps_if (pt_cmpR (op_inn2 (units65 hr)) (pv 1) (pe_tup (pa_cons (pe_lst (pa_cons (pe_str) pa_nil)) (pa_cons (pe_lst (pa_cons (pe_str) pa_nil)) pa_nil))) (by rfl)) (pss_one (ps_ret (pe_tup (pa_cons (pe_ix ix_seq (pv 1) (pe_int) (fun _ _ => rfl)) pa_nil)))) pss_nil)
      (pss_cons (ps_a 2 sc_parse.nd (pe_ifExp (PW.pt (pw_and (pt_cmpR (op_eqq hr.units) (pe_callB (call_lenA) (by rfl) T.f_len (by decide +kernel) (pa_cons (pv 1) pa_nil)) (pe_int) (nomark _)) (pw_and1 (pt_cmpR (op_eqq hr.units) (pe_ix ix_seq (pv 1) (pe_int) (fun _ _ => rfl)) (pe_str) (nomark _))))) (pe_call (ok_number_in T) (hr.mono (by decide)) (by rfl) T.g_number_in T.F_number_in.kp (b_number_in T) .nil pass0 (pa_cons (pe_ix ix_seq (pv 1) (pe_int) (fun _ _ => rfl)) (pa_cons (pe_int) pa_nil))) (pe_non)))
      (pss_one (ps_ret (pe_ifExp (pt_cmpR (op_isN1) (pv 2) (pe_non) (nomark _)) (pe_non) (pe_tup (pa_cons (pe_str) (pa_cons (pv 2) pa_nil)))))))))
theorem b_parse (T : Tx K mg w) : Binds K T.fd_parse ps_parse [] := T.F_parse.bindsN fun _ _ _ _ _ _ us hl => match us, hl with | [_], _ => rfl
theorem sd_law_lets (T : Tx K mg w) : SnS K (t_law_lets K) m_law_lets := by
  unfold t_law_lets m_law_lets
  exact (sn_seq (sn_asg (sn_call (sn_cons (sn_var) sn_nil) dfl_nil) (sn_gTup (sn_gCons sn_gName (sn_gCons sn_gName (sn_gCons sn_gName sn_gNil)))))
      (sn_seq (sn_ifS (sn_and (sn_test (sn_notN (sn_ix (sn_var) (sn_int)))) (sn_test (sn_op ov_gt (sn_var) (sn_ix (sn_var) (sn_int))))) (sn_ret (sn_bl)) sn_next)
      (sn_ret (sn_andV (sn_orV (sn_ix (sn_var) (sn_int)) (sn_notV (sn_var))) (sn_orV (sn_ix (sn_var) (sn_int)) (sn_notV (sn_var)))))))
theorem ok_law_lets (T : Tx K mg w) : FnOk P w K mg base CX0 2 (He.ga K "_law_lets") T.fd_law_lets ps_law_lets (sp_law_lets K) := by
  refine T.F_law_lets.ok sc_law_lets (fun vs H Q E h => ln_body h) (fun cdv A outer s H vs Q E hr h => ⟨t_law_lets K, PSs.nox ?_, fn_rd (N := nm_law_lets) (fn_body (sd_law_lets T)) h⟩)
  exact (pss_cons (ps_asg (pe_call (ok_law_needs T) (hr.mono (by decide)) (by rfl) T.g_law_needs T.F_law_needs.kp (b_law_needs T) .nil pass0 (pa_cons (pv 1) pa_nil)) (pg_tup rfl (pgs_cons (pg_n 2 sc_law_lets.nd) (pgs_cons (pg_n 3 sc_law_lets.nd) (pgs_cons (pg_n 4 sc_law_lets.nd) pgs_nil)))))
      (pss_cons (ps_if (PW.pt (pw_and (pt_cmpR (op_notN1) (pe_ix ix_seq (pv 0) (pe_int) (fun _ _ => rfl)) (pe_non) (nomark _)) (pw_and1 (pt_cmpR (op_gt') (pv 2) (pe_ix ix_seq (pv 0) (pe_int) (fun _ _ => rfl)) (nomark _))))) (pss_one (ps_ret (pe_bl))) pss_nil)
      (pss_one (ps_ret (pe_and (pe_or (pe_ix ix_seq (pv 0) (pe_int) (fun _ _ => rfl)) (pe_one (pe_not (pv 3)))) (pe_one (pe_or (pe_ix ix_seq (pv 0) (pe_int) (fun _ _ => rfl)) (pe_one (pe_not (pv 4))))))))))
theorem b_law_lets (T : Tx K mg w) : Binds K T.fd_law_lets ps_law_lets [] := T.F_law_lets.bindsN fun _ _ _ _ _ _ us hl => match us, hl with | [_, _], _ => rfl
theorem sd_law_pick (T : Tx K mg w) : SnS K (t_law_pick K) m_law_pick := by
  unfold t_law_pick m_law_pick
  exact (sn_ret (sn_ix (sn_var) (sn_call (sn_cons (sn_var) (sn_cons (sn_cb1 ou_len (sn_var)) sn_nil)) dfl_nil)))
theorem ok_law_pick (T : Tx K mg w) : FnOk P w K mg base CX0 2 (He.ga K "_law_pick") T.fd_law_pick ps_law_pick (sp_law_pick K) := by
  refine T.F_law_pick.ok sc_law_pick (fun vs H Q E h => ln_body h) (fun cdv A outer s H vs Q E hr h => ⟨t_law_pick K, PSs.nox ?_, fn_rd (N := nm_law_pick) (fn_body (sd_law_pick T)) h⟩)
  exact (pss_one (ps_ret (pe_ix ix_seq (pv 1) (pe_call (ok_law_draw T) (hr.mono (by decide)) (by rfl) T.g_law_draw T.F_law_draw.kp (b_law_draw T) .nil pass0 (pa_cons (pv 0) (pa_cons (pe_callB (call_lenA) (by rfl) T.f_len (by decide +kernel) (pa_cons (pv 1) pa_nil)) pa_nil))) (fun _ _ => rfl))))
theorem b_law_pick (T : Tx K mg w) : Binds K T.fd_law_pick ps_law_pick [] := T.F_law_pick.bindsN fun _ _ _ _ _ _ us hl => match us, hl with | [_, _], _ => rfl
theorem sd_law_events (T : Tx K mg w) : SnS K (t_law_events K) m_law_events := by
  unfold t_law_events m_law_events
  exact (sn_seq (sn_par (sn_cons (sn_lstM sn_nil) (sn_cons (sn_int) sn_nil)))
      (sn_seq (sn_for (sn_iRng1 (sn_cons (sn_var) sn_nil)) sn_gName (sn_seq (sn_asg (sn_call (sn_cons (sn_var) (sn_cons (sn_int) sn_nil)) dfl_nil) sn_gName)
      (sn_ifS (sn_or (sn_test (sn_op ov_eq (sn_var) (sn_int))) (sn_and (sn_test (sn_op ov_lt (sn_var) (sn_int))) (sn_test (sn_op ov_lt (sn_var) (sn_var))))) (sn_seq (sn_drop (sn_append (sn_var) (sn_cons (sn_str) sn_nil)))
      (sn_asg (sn_op ov_plus (sn_var) (sn_int)) sn_gName)) (sn_ifS (sn_test (sn_op ov_eq (sn_var) (sn_int))) (sn_drop (sn_append (sn_var) (sn_cons (sn_str) sn_nil))) (sn_drop (sn_append (sn_var) (sn_cons (sn_op ov_plus (sn_str) (sn_cb1 ou_str (sn_if (sn_test (sn_op ov_eq (sn_var) (sn_int))) (sn_var) (sn_op ov_plus (sn_int) (sn_call (sn_cons (sn_var) (sn_cons (sn_var) sn_nil)) dfl_nil))))) sn_nil)))))))
      (sn_ret (sn_var))))
theorem ok_law_events (T : Tx K mg w) : FnOk P w K mg base CX0 2 (He.ga K "_law_events") T.fd_law_events ps_law_events (sp_law_events K) := by
  refine T.F_law_events.ok sc_law_events (fun vs H Q E h => ln_body h) (fun cdv A outer s H vs Q E hr h => ⟨t_law_events K, PSs.nox ?_, fn_rd (N := nm_law_events) (fn_body (sd_law_events T)) h⟩)
  exact (pss_cons (ps_par (by rfl) sc_law_events.nd rfl rfl (by decide) rfl rfl (pa_cons (pe_lstM pa_nil) (pa_cons (pe_int) pa_nil)) (by rfl))
      (pss_cons (ps_for PassesOwn.never rfl (pi_range1 (by rfl) T.f_range (pa_cons (pv 1) pa_nil)) (pg_n 5 sc_law_events.nd) (pss_cons (ps_a 6 sc_law_events.nd (pe_call (ok_law_draw T) (hr.mono (by decide)) (by rfl) T.g_law_draw T.F_law_draw.kp (b_law_draw T) .nil pass0 (pa_cons (pv 0) (pa_cons (pe_int) pa_nil))))
      (pss_one (ps_if (PW.pt (pw_or (pt_cmpR (op_eqq hr.units) (pv 4) (pe_int) (nomark _)) (pw_or1 (PW.pt (pw_and (pt_cmpR (op_lt') (pv 6) (pe_int) (nomark _)) (pw_and1 (pt_cmpR (op_lt') (pv 4) (pv 2) (nomark _)))))))) (pss_cons (ps_expr (pe_bm PySem.F.plainAttrs_list PySem.F.slot_list_append PySem.F.type_list_append mt_append (pv 3) (pa_cons (pe_str) pa_nil)))
      (pss_one (ps_a 4 sc_law_events.nd (pe_op op_plus (pv 4) (pe_int))))) (pss_one (ps_if (pt_cmpR (op_eqq hr.units) (pv 6) (pe_int) (nomark _)) (pss_one (ps_expr (pe_bm PySem.F.plainAttrs_list PySem.F.slot_list_append PySem.F.type_list_append mt_append (pv 3) (pa_cons (pe_str) pa_nil)))) (pss_one (ps_expr (pe_bm PySem.F.plainAttrs_list PySem.F.slot_list_append PySem.F.type_list_append mt_append (pv 3) (pa_cons (pe_op op_plus (pe_str) (pe_callTy (call_strS) (by rfl) T.f_str (by decide +kernel) (pa_cons (pe_ifExp (pt_cmpR (op_eqq hr.units) (pv 6) (pe_int) (nomark _)) (pv 4) (pe_op op_plus (pe_int) (pe_call (ok_law_draw T) (hr.mono (by decide)) (by rfl) T.g_law_draw T.F_law_draw.kp (b_law_draw T) .nil pass0 (pa_cons (pv 0) (pa_cons (pv 4) pa_nil))))) pa_nil))) pa_nil))))))))))
      (pss_one (ps_ret (pv 3)))))
theorem b_law_events (T : Tx K mg w) : Binds K T.fd_law_events ps_law_events [] := T.F_law_events.bindsN fun _ _ _ _ _ _ us hl => match us, hl with | [_, _, _], _ => rfl
theorem sd_Terms_init (T : Tx K mg w) : SnS K (t_Terms_init K) m_Terms_init := by
  unfold t_Terms_init m_Terms_init
  exact (sn_seq (sn_ifS (sn_and (sn_test (sn_notN (sn_var))) (sn_not (sn_B (sn_call (sn_cons (sn_var) sn_nil) dfl_nil)))) sn_never sn_next)
      (sn_seq (sn_ifS (sn_not (sn_B (sn_isT (by decide) (sn_var)))) sn_never sn_next)
      (sn_seq (sn_ifS (sn_not (sn_B (sn_isT (by decide) (sn_var)))) sn_never sn_next)
      (sn_seq (sn_fldS T.ck_Terms.cl T.na_Terms_skips (sn_var) (sn_var))
      (sn_seq (sn_fldS T.ck_Terms.cl T.na_Terms_elder (sn_var) (sn_var))
      (sn_fldS T.ck_Terms.cl T.na_Terms_house (sn_var) (sn_var)))))))
theorem ok_Terms_init (T : Tx K mg w) : FnOk P w K mg base CX0 3 (He.ma K (He.ga K "Terms") "__init__") T.fd_Terms_init ps_Terms_init (sp_Terms_init K) := by
  refine T.F_Terms_init.ok sc_Terms_init (fun vs H Q E h => ln_body h) (fun cdv A outer s H vs Q E hr h => ⟨t_Terms_init K, PSs.nox ?_, fn_rd (N := nm_Terms_init) (fn_body (sd_Terms_init T)) h⟩)
  exact (pss_cons (ps_if (PW.pt (pw_and (pt_cmpR (op_notN1) (pv 1) (pe_non) (nomark _)) (pw_and1 (pt_not (pt_val (pe_call (ok_is_number T) (hr.mono (by decide)) (by rfl) T.g_is_number T.F_is_number.kp (b_is_number T) .nil pass0 (pa_cons (pv 1) pa_nil))))))) pss_never pss_nil)
      (pss_cons (ps_if (pt_not (pt_val (pe_callB call_isi (by rfl) T.f_isinstance (by decide +kernel) (pa_cons (pv 2) (pa_cons (pe_bltn (by rfl) T.f_bool (by decide +kernel) rfl) pa_nil))))) pss_never pss_nil)
      (pss_cons (ps_if (pt_not (pt_val (pe_callB call_isi (by rfl) T.f_isinstance (by decide +kernel) (pa_cons (pv 3) (pa_cons (pe_bltn (by rfl) T.f_bool (by decide +kernel) rfl) pa_nil))))) pss_never pss_nil)
      (pss_cons (ps_fld (pv 0) (pv 1) rfl)
      (pss_cons (ps_fld (pv 0) (pv 2) rfl)
      (pss_one (ps_fld (pv 0) (pv 3) rfl)))))))
theorem b_Terms_init (T : Tx K mg w) : Binds K T.fd_Terms_init ps_Terms_init [] := by
  obtain ⟨ds, hv, hb⟩ := T.F_Terms_init.binds1 (ps := ps_Terms_init) 4 3 (by simp [dfl_Terms_init]) rfl (fun T kV doc pm an cdv ct us its hu hi => match us, its, hu, hi with | [_, _, _, _], [_, _, _], _, _ => ⟨_, rfl, rfl⟩)
  cases hv
  exact hb
theorem sd_law_one (T : Tx K mg w) : SnS K (t_law_one K) m_law_one := by
  unfold t_law_one m_law_one
  exact (sn_ret (sn_tup (sn_cons (sn_call (sn_cons (sn_var) (sn_cons (sn_lst (sn_cons (sn_non) (sn_cons (sn_int) (sn_cons (sn_int) (sn_cons (sn_int) (sn_cons (sn_int) sn_nil)))))) sn_nil)) dfl_nil) (sn_cons (sn_op ov_gt (sn_call (sn_cons (sn_var) (sn_cons (sn_int) sn_nil)) dfl_nil) (sn_int)) (sn_cons (sn_op ov_gt (sn_call (sn_cons (sn_var) (sn_cons (sn_int) sn_nil)) dfl_nil) (sn_int)) sn_nil)))))
theorem ok_law_one (T : Tx K mg w) : FnOk P w K mg base CX0 3 (He.ga K "_law_one") T.fd_law_one ps_law_one (sp_law_one K) := by
  refine T.F_law_one.ok sc_law_one (fun vs H Q E h => ln_body h) (fun cdv A outer s H vs Q E hr h => ⟨t_law_one K, PSs.nox ?_, fn_rd (N := nm_law_one) (fn_body (sd_law_one T)) h⟩)
  exact (pss_one (ps_ret (pe_tup (pa_cons (pe_call (ok_law_pick T) (hr.mono (by decide)) (by rfl) T.g_law_pick T.F_law_pick.kp (b_law_pick T) .nil pass0 (pa_cons (pv 0) (pa_cons (pe_lst (pa_cons (pe_non) (pa_cons (pe_int) (pa_cons (pe_int) (pa_cons (pe_int) (pa_cons (pe_int) pa_nil)))))) pa_nil))) (pa_cons (pe_cmpR (op_gt') (pe_call (ok_law_draw T) (hr.mono (by decide)) (by rfl) T.g_law_draw T.F_law_draw.kp (b_law_draw T) .nil pass0 (pa_cons (pv 0) (pa_cons (pe_int) pa_nil))) (pe_int) (nomark _)) (pa_cons (pe_cmpR (op_gt') (pe_call (ok_law_draw T) (hr.mono (by decide)) (by rfl) T.g_law_draw T.F_law_draw.kp (b_law_draw T) .nil pass0 (pa_cons (pv 0) (pa_cons (pe_int) pa_nil))) (pe_int) (nomark _)) pa_nil))))))
theorem b_law_one (T : Tx K mg w) : Binds K T.fd_law_one ps_law_one [] := T.F_law_one.bindsN fun _ _ _ _ _ _ us hl => match us, hl with | [_], _ => rfl
theorem sd_Terms_but (T : Tx K mg w) : SnS K (t_Terms_but K) m_Terms_but := by
  unfold t_Terms_but m_Terms_but
  exact (sn_seq (sn_asg (sn_dispW (sn_pcons (sn_fld T.ck_Terms.cl T.na_Terms_skips (sn_var)) (sn_pcons (sn_fld T.ck_Terms.cl T.na_Terms_elder (sn_var)) (sn_pcons (sn_fld T.ck_Terms.cl T.na_Terms_house (sn_var)) sn_pnil)))) sn_gName)
      (sn_seq (sn_drop (sn_dUpdW (sn_var) (sn_var)))
      (sn_ret (sn_makeSS T.ck_Terms (sn_var)))))
theorem fk_Terms_but_elder (T : Tx K mg w) : FnKw P w K mg base CX0 5 (He.ma K (He.ga K "Terms") "but") ["elder"] (sp_Terms_but K) := by
  refine funKw (p1 := "self") (pd := "others") T.F_Terms_but sc_Terms_but StX.cxUp_none (by decide +kernel) (by decide) (fun _ _ _ _ _ _ u ws hl => match ws, hl with | [_], _ => by first | rfl | kernel_rfl) (fun cdv A outer s H vs Q E hr h => ⟨t_Terms_but K, PSs.nox ?_, fn_rd (N := nm_Terms_but) (fn_body (sd_Terms_but T)) h⟩)
  exact (pss_cons (ps_a 2 sc_Terms_but.nd (pe_disp (pps_cons pe_str (pe_fld (pv 0) rfl) (pps_cons pe_str (pe_fld (pv 0) rfl) (pps_cons pe_str (pe_fld (pv 0) rfl) pps_nil))) rfl rfl (by simp) (by decide)))
      (pss_cons (ps_expr (pe_bm PySem.F.plainAttrs_dict PySem.F.slot_dict_update PySem.F.type_dict_update mt_dupd (pv 2) (pa_cons (pv 1) pa_nil)))
      (pss_one (ps_ret (pe_makeSS T.mk_Terms (ok_Terms_init T) (hr.mono (by decide)) (by rfl) T.g_Terms (kbnD T.F_Terms_init 1 ["skips", "elder", "house"] [0, 1, 2] 3 (by simp [dfl_Terms_init]) rfl fun _ _ _ _ _ _ _ us its ws hu hi hw => match us, its, ws, hu, hi, hw with | [_], [_, _, _], [_, _, _], _, _, _ => ⟨_, rfl, rfl⟩) pass0 (pv 2))))))
theorem fk_Terms_but_skips (T : Tx K mg w) : FnKw P w K mg base CX0 5 (He.ma K (He.ga K "Terms") "but") ["skips"] (sp_Terms_but K) := by
  refine funKw (p1 := "self") (pd := "others") T.F_Terms_but sc_Terms_but StX.cxUp_none (by decide +kernel) (by decide) (fun _ _ _ _ _ _ u ws hl => match ws, hl with | [_], _ => by first | rfl | kernel_rfl) (fun cdv A outer s H vs Q E hr h => ⟨t_Terms_but K, PSs.nox ?_, fn_rd (N := nm_Terms_but) (fn_body (sd_Terms_but T)) h⟩)
  exact (pss_cons (ps_a 2 sc_Terms_but.nd (pe_disp (pps_cons pe_str (pe_fld (pv 0) rfl) (pps_cons pe_str (pe_fld (pv 0) rfl) (pps_cons pe_str (pe_fld (pv 0) rfl) pps_nil))) rfl rfl (by simp) (by decide)))
      (pss_cons (ps_expr (pe_bm PySem.F.plainAttrs_dict PySem.F.slot_dict_update PySem.F.type_dict_update mt_dupd (pv 2) (pa_cons (pv 1) pa_nil)))
      (pss_one (ps_ret (pe_makeSS T.mk_Terms (ok_Terms_init T) (hr.mono (by decide)) (by rfl) T.g_Terms (kbnD T.F_Terms_init 1 ["skips", "elder", "house"] [0, 1, 2] 3 (by simp [dfl_Terms_init]) rfl fun _ _ _ _ _ _ _ us its ws hu hi hw => match us, its, ws, hu, hi, hw with | [_], [_, _, _], [_, _, _], _, _, _ => ⟨_, rfl, rfl⟩) pass0 (pv 2))))))
theorem fk_Terms_but_skips_elder_house (T : Tx K mg w) : FnKw P w K mg base CX0 5 (He.ma K (He.ga K "Terms") "but") ["skips", "elder", "house"] (sp_Terms_but K) := by
  refine funKw (p1 := "self") (pd := "others") T.F_Terms_but sc_Terms_but StX.cxUp_none (by decide +kernel) (by decide) (fun _ _ _ _ _ _ u ws hl => match ws, hl with | [_, _, _], _ => by first | rfl | kernel_rfl) (fun cdv A outer s H vs Q E hr h => ⟨t_Terms_but K, PSs.nox ?_, fn_rd (N := nm_Terms_but) (fn_body (sd_Terms_but T)) h⟩)
  exact (pss_cons (ps_a 2 sc_Terms_but.nd (pe_disp (pps_cons pe_str (pe_fld (pv 0) rfl) (pps_cons pe_str (pe_fld (pv 0) rfl) (pps_cons pe_str (pe_fld (pv 0) rfl) pps_nil))) rfl rfl (by simp) (by decide)))
      (pss_cons (ps_expr (pe_bm PySem.F.plainAttrs_dict PySem.F.slot_dict_update PySem.F.type_dict_update mt_dupd (pv 2) (pa_cons (pv 1) pa_nil)))
      (pss_one (ps_ret (pe_makeSS T.mk_Terms (ok_Terms_init T) (hr.mono (by decide)) (by rfl) T.g_Terms (kbnD T.F_Terms_init 1 ["skips", "elder", "house"] [0, 1, 2] 3 (by simp [dfl_Terms_init]) rfl fun _ _ _ _ _ _ _ us its ws hu hi hw => match us, its, ws, hu, hi, hw with | [_], [_, _, _], [_, _, _], _, _, _ => ⟨_, rfl, rfl⟩) pass0 (pv 2))))))
theorem sd_needs_of (T : Tx K mg w) : SnS K (t_needs_of K) m_needs_of := by
  unfold t_needs_of m_needs_of
  exact (sn_seq (sn_parN (is := [1, 2, 3, 4]) (sn_cons (sn_int) (sn_cons (sn_int) (sn_cons (sn_int) (sn_cons (sn_bl) sn_nil)))))
      (sn_seq (sn_for (sn_iSeq (sn_var)) sn_gName (sn_ifS (sn_test (sn_op ov_eq (sn_ix (sn_var) (sn_int)) (sn_str))) (sn_seq (sn_asg (sn_cb2 ov_max (sn_var) (sn_op ov_minus (sn_var) (sn_var))) sn_gName)
      (sn_aug (sn_int))) (sn_ifS (sn_test (sn_op ov_eq (sn_ix (sn_var) (sn_int)) (sn_str))) (sn_seq (sn_asg (sn_cb2 ov_max (sn_var) (sn_cb1 ou_int (sn_ix (sn_var) (sn_int)))) sn_gName)
      (sn_asg (sn_orV (sn_var) (sn_op ov_ne (sn_ix (sn_var) (sn_int)) (sn_var))) sn_gName)) sn_next)))
      (sn_ret (sn_make T.ck_Terms (sn_cons (sn_var) (sn_cons (sn_var) (sn_cons (sn_op ov_in2 (sn_tup (sn_cons (sn_str) sn_nil)) (sn_var)) sn_nil))) dfl_nil))))
theorem ok_needs_of (T : Tx K mg w) : FnOk P w K mg base CX0 5 (He.ga K "needs_of") T.fd_needs_of ps_needs_of (sp_needs_of K) := by
  refine T.F_needs_of.ok sc_needs_of (fun vs H Q E h => ln_body h) (fun cdv A outer s H vs Q E hr h => ⟨t_needs_of K, PSs.nox ?_, fn_rd (N := nm_needs_of) (fn_body (sd_needs_of T)) h⟩)
  exact (pss_cons (ps_asg (pe_tup (pa_cons (pe_int) (pa_cons (pe_int) (pa_cons (pe_int) (pa_cons (pe_bl) pa_nil))))) (pg_tup rfl (pgs_cons (pg_n 1 sc_needs_of.nd) (pgs_cons (pg_n 2 sc_needs_of.nd) (pgs_cons (pg_n 3 sc_needs_of.nd) (pgs_cons (pg_n 4 sc_needs_of.nd) pgs_nil))))))
      (pss_cons (ps_for PassesOwn.never rfl (pi_seq (pv 0)) (pg_n 5 sc_needs_of.nd) (pss_one (ps_if (pt_cmpR (op_eqq hr.units) (pe_ix ix_seq (pv 5) (pe_int) (fun _ _ => rfl)) (pe_str) (nomark _)) (pss_cons (ps_a 3 sc_needs_of.nd (pe_callB (call_max2' rfl) (by rfl) T.f_max (by decide +kernel) (pa_cons (pv 3) (pa_cons (pe_op op_minus (pv 1) (pv 2)) pa_nil))))
      (pss_one (ps_au 1 sc_needs_of.nd (pe_int)))) (pss_one (ps_if (pt_cmpR (op_eqq hr.units) (pe_ix ix_seq (pv 5) (pe_int) (fun _ _ => rfl)) (pe_str) (nomark _)) (pss_cons (ps_a 2 sc_needs_of.nd (pe_callB (call_max2' rfl) (by rfl) T.f_max (by decide +kernel) (pa_cons (pv 2) (pa_cons (pe_callTy (call_int1') (by rfl) T.f_int (by decide +kernel) (pa_cons (pe_ix ix_seq (pv 5) (pe_int) (fun _ _ => rfl)) pa_nil)) pa_nil))))
      (pss_one (ps_a 4 sc_needs_of.nd (pe_or (pv 4) (pe_one (pe_cmpR (op_nee hr.units) (pe_ix ix_seq (pv 5) (pe_int) (fun _ _ => rfl)) (pv 1) (nomark _))))))) pss_nil)))))
      (pss_one (ps_ret (pe_make T.mk_Terms (ok_Terms_init T) (hr.mono (by decide)) (by rfl) T.g_Terms (b_Terms_init T) .nil pass0 (pa_cons (pv 3) (pa_cons (pv 4) (pa_cons (pe_cmpR (op_inn2 (units65 hr)) (pe_tup (pa_cons (pe_str) pa_nil)) (pv 0) (by rfl)) pa_nil))))))))
theorem b_needs_of (T : Tx K mg w) : Binds K T.fd_needs_of ps_needs_of [] := T.F_needs_of.bindsN fun _ _ _ _ _ _ us hl => match us, hl with | [_], _ => rfl
theorem sd_Story_init (T : Tx K mg w) : SnS K (t_Story_init K) m_Story_init := by
  unfold t_Story_init m_Story_init
  exact (sn_seq (sn_ifS (sn_not (sn_B (sn_call (sn_cons (sn_var) sn_nil) dfl_nil))) sn_never sn_next)
      (sn_seq (sn_par (sn_cons (sn_lstM sn_nil) (sn_cons (sn_int) sn_nil)))
      (sn_seq (sn_for (sn_iEnum (sn_cons (sn_var) sn_nil)) (sn_gTup (sn_gCons sn_gName (sn_gCons sn_gName sn_gNil))) (sn_seq (sn_asg (sn_call (sn_cons (sn_var) sn_nil) dfl_nil) sn_gName)
      (sn_seq (sn_ifS (sn_not (sn_B (sn_call (sn_cons (sn_var) (sn_cons (sn_var) sn_nil)) dfl_nil))) sn_never sn_next)
      (sn_seq (sn_aug (sn_cb1 ou_int (sn_op ov_eq (sn_ix (sn_var) (sn_int)) (sn_str))))
      (sn_drop (sn_append (sn_var) (sn_cons (sn_var) sn_nil)))))))
      (sn_seq (sn_fldS T.ck_Story.cl T.na_Story_events (sn_var) (sn_cb1 ou_tup (sn_var)))
      (sn_seq (sn_fldS T.ck_Story.cl T.na_Story_parsed (sn_var) (sn_cb1 ou_tup (sn_var)))
      (sn_fldS T.ck_Story.cl T.na_Story_needs (sn_var) (sn_call (sn_cons (sn_fld T.ck_Story.cl T.na_Story_parsed (sn_var)) sn_nil) dfl_nil)))))))
theorem ok_Story_init (T : Tx K mg w) : FnOk P w K mg base CX0 6 (He.ma K (He.ga K "Story") "__init__") T.fd_Story_init ps_Story_init (sp_Story_init K) := by
  refine T.F_Story_init.ok sc_Story_init (fun vs H Q E h => ln_body h) (fun cdv A outer s H vs Q E hr h => ⟨t_Story_init K, PSs.nox ?_, fn_rd (N := nm_Story_init) (fn_body (sd_Story_init T)) h⟩)
  exact (pss_cons (ps_if (pt_not (pt_val (pe_call (ok_is_sequence T) (hr.mono (by decide)) (by rfl) T.g_is_sequence T.F_is_sequence.kp (b_is_sequence T) .nil pass0 (pa_cons (pv 1) pa_nil)))) pss_never pss_nil)
      (pss_cons (ps_par (by rfl) sc_Story_init.nd rfl rfl (by decide) rfl rfl (pa_cons (pe_lstM pa_nil) (pa_cons (pe_int) pa_nil)) (by rfl))
      (pss_cons (ps_for PassesOwn.never rfl (pi_enumA (by rfl) T.f_enumerate (pa_cons (pv 1) pa_nil)) (pg_tup rfl (pgs_cons (pg_n 4 sc_Story_init.nd) (pgs_cons (pg_n 5 sc_Story_init.nd) pgs_nil))) (pss_cons (ps_a 6 sc_Story_init.nd (pe_call (ok_parse T) (hr.mono (by decide)) (by rfl) T.g_parse T.F_parse.kp (b_parse T) .nil pass0 (pa_cons (pv 5) pa_nil)))
      (pss_cons (ps_if (pt_not (pt_val (pe_call (ok_is_possible T) (hr.mono (by decide)) (by rfl) T.g_is_possible T.F_is_possible.kp (b_is_possible T) .nil pass0 (pa_cons (pv 6) (pa_cons (pv 3) pa_nil))))) pss_never pss_nil)
      (pss_cons (ps_au 3 sc_Story_init.nd (pe_callTy (call_int1') (by rfl) T.f_int (by decide +kernel) (pa_cons (pe_cmpR (op_eqq hr.units) (pe_ix ix_seq (pv 6) (pe_int) (fun _ _ => rfl)) (pe_str) (nomark _)) pa_nil)))
      (pss_one (ps_expr (pe_bm PySem.F.plainAttrs_list PySem.F.slot_list_append PySem.F.type_list_append mt_append (pv 2) (pa_cons (pv 6) pa_nil))))))))
      (pss_cons (ps_fld (pv 0) (pe_callTy (call_tupOf) (by rfl) T.f_tuple (by decide +kernel) (pa_cons (pv 1) pa_nil)) rfl)
      (pss_cons (ps_fld (pv 0) (pe_callTy (call_tupOf) (by rfl) T.f_tuple (by decide +kernel) (pa_cons (pv 2) pa_nil)) rfl)
      (pss_one (ps_fld (pv 0) (pe_call (ok_needs_of T) (hr.mono (by decide)) (by rfl) T.g_needs_of T.F_needs_of.kp (b_needs_of T) .nil pass0 (pa_cons (pe_fld (pv 0) rfl) pa_nil)) rfl)))))))
theorem b_Story_init (T : Tx K mg w) : Binds K T.fd_Story_init ps_Story_init [] := by
  obtain ⟨ds, hv, hb⟩ := T.F_Story_init.binds1 (ps := ps_Story_init) 2 1 (by simp [dfl_Story_init]) rfl (fun T kV doc pm an cdv ct us its hu hi => match us, its, hu, hi with | [_, _], [_], _, _ => ⟨_, rfl, rfl⟩)
  cases hv
  exact hb
theorem bx_Story_init_1 (T : Tx K mg w) : ∃ ds, Vals (dv_Story_init_1 K) ds ∧ Binds K T.fd_Story_init ps_Story_init ds := T.F_Story_init.binds1 (ps := ps_Story_init) 1 0 (by simp [dfl_Story_init]) rfl (fun T kV doc pm an cdv ct us its hu hi => match us, its, hu, hi with | [_], [_], _, _ => ⟨_, rfl, rfl⟩)
theorem dp_Story_init_1 (T : Tx K mg w) : Dfl K dd_Story_init_1 (dv_Story_init_1 K) := fun G => ⟨_, _, rfl, (show Rep K G (.tup []) _ from ⟨Nat.zero_le _, _, [], rfl, T.dt_Story_init_0 G, rfl⟩), rfl⟩
theorem sd_law_less_right (T : Tx K mg w) : SnS K (t_law_less_right K) m_law_less_right := by
  unfold t_law_less_right m_law_less_right
  exact (sn_seq (sn_asg (sn_fld T.ck_Story.cl T.na_Story_needs (sn_var)) sn_gName)
      (sn_seq (sn_ifS (sn_or (sn_not (sn_B (sn_meth (sn_var) (sn_cons (sn_var) sn_nil) dfl_nil))) (sn_not (sn_B (sn_meth (sn_make T.ck_Terms (sn_cons (sn_non) (sn_cons (sn_bl) (sn_cons (sn_bl) sn_nil))) dfl_nil) (sn_cons (sn_var) sn_nil) dfl_nil)))) (sn_ret (sn_bl)) sn_next)
      (sn_seq (sn_ifS (sn_and (sn_test (sn_op ov_gt (sn_fld T.ck_Terms.cl T.na_Terms_skips (sn_var)) (sn_int))) (sn_B (sn_meth (sn_methKw (sn_var) (sn_cons (sn_op ov_minus (sn_fld T.ck_Terms.cl T.na_Terms_skips (sn_var)) (sn_int)) (sn_cons (sn_bl) (sn_cons (sn_bl) sn_nil)))) (sn_cons (sn_var) sn_nil) dfl_nil))) (sn_ret (sn_bl)) sn_next)
      (sn_seq (sn_ifS (sn_and (sn_B (sn_fld T.ck_Terms.cl T.na_Terms_elder (sn_var))) (sn_B (sn_meth (sn_methKw (sn_var) (sn_cons (sn_non) (sn_cons (sn_bl) (sn_cons (sn_bl) sn_nil)))) (sn_cons (sn_var) sn_nil) dfl_nil))) (sn_ret (sn_bl)) sn_next)
      (sn_ret (sn_orV (sn_notV (sn_fld T.ck_Terms.cl T.na_Terms_house (sn_var))) (sn_notV (sn_meth (sn_methKw (sn_var) (sn_cons (sn_non) (sn_cons (sn_bl) (sn_cons (sn_bl) sn_nil)))) (sn_cons (sn_var) sn_nil) dfl_nil))))))))
theorem ok_law_less_right (T : Tx K mg w) : FnOk P w K mg base CX0 6 (He.ga K "_law_less_right") T.fd_law_less_right ps_law_less_right (sp_law_less_right K) := by
  refine T.F_law_less_right.ok sc_law_less_right (fun vs H Q E h => ln_body h) (fun cdv A outer s H vs Q E hr h => ⟨t_law_less_right K, PSs.nox ?_, fn_rd (N := nm_law_less_right) (fn_body (sd_law_less_right T)) h⟩)
  exact (pss_cons (ps_a 1 sc_law_less_right.nd (pe_fld (pv 0) rfl))
      (pss_cons (ps_if (PW.pt (pw_or (pt_not (pt_val (pe_meth (pv 1) T.cl_Terms T.m_Terms_lets (ok_Terms_lets T) (hr.mono (by decide)) (b_Terms_lets T) .nil pass0 (pa_cons (pv 0) pa_nil)))) (pw_or1 (pt_not (pt_val (pe_meth (pe_make T.mk_Terms (ok_Terms_init T) (hr.mono (by decide)) (by rfl) T.g_Terms (b_Terms_init T) .nil pass0 (pa_cons (pe_non) (pa_cons (pe_bl) (pa_cons (pe_bl) pa_nil)))) T.cl_Terms T.m_Terms_lets (ok_Terms_lets T) (hr.mono (by decide)) (b_Terms_lets T) .nil pass0 (pa_cons (pv 0) pa_nil))))))) (pss_one (ps_ret (pe_bl))) pss_nil)
      (pss_cons (ps_if (PW.pt (pw_and (pt_cmpR (op_gt') (pe_fld (pv 1) rfl) (pe_int) (nomark _)) (pw_and1 (pt_val (pe_meth (pe_methKw (pv 1) T.cl_Terms T.m_Terms_but (fk_Terms_but_skips_elder_house (K := K) T) (hr.mono (by decide)) pass0 (pk_cons (pe_op op_minus (pe_fld (pv 1) rfl) (pe_int)) (pk_cons (pe_bl) (pk_cons (pe_bl) pk_nil)))) T.cl_Terms T.m_Terms_lets (ok_Terms_lets T) (hr.mono (by decide)) (b_Terms_lets T) .nil pass0 (pa_cons (pv 0) pa_nil)))))) (pss_one (ps_ret (pe_bl))) pss_nil)
      (pss_cons (ps_if (PW.pt (pw_and (pt_val (pe_fld (pv 1) rfl)) (pw_and1 (pt_val (pe_meth (pe_methKw (pv 1) T.cl_Terms T.m_Terms_but (fk_Terms_but_skips_elder_house (K := K) T) (hr.mono (by decide)) pass0 (pk_cons (pe_non) (pk_cons (pe_bl) (pk_cons (pe_bl) pk_nil)))) T.cl_Terms T.m_Terms_lets (ok_Terms_lets T) (hr.mono (by decide)) (b_Terms_lets T) .nil pass0 (pa_cons (pv 0) pa_nil)))))) (pss_one (ps_ret (pe_bl))) pss_nil)
      (pss_one (ps_ret (pe_or (pe_not (pe_fld (pv 1) rfl)) (pe_one (pe_not (pe_meth (pe_methKw (pv 1) T.cl_Terms T.m_Terms_but (fk_Terms_but_skips_elder_house (K := K) T) (hr.mono (by decide)) pass0 (pk_cons (pe_non) (pk_cons (pe_bl) (pk_cons (pe_bl) pk_nil)))) T.cl_Terms T.m_Terms_lets (ok_Terms_lets T) (hr.mono (by decide)) (b_Terms_lets T) .nil pass0 (pa_cons (pv 0) pa_nil)))))))))))
theorem b_law_less_right (T : Tx K mg w) : Binds K T.fd_law_less_right ps_law_less_right [] := T.F_law_less_right.bindsN fun _ _ _ _ _ _ us hl => match us, hl with | [_], _ => rfl
theorem sd_Story_read (T : Tx K mg w) : SnS K (t_Story_read K) m_Story_read := by
  unfold t_Story_read m_Story_read
  exact (sn_seq (sn_ifS (sn_test (sn_op ov_eq (sn_var) (sn_str))) (sn_ret (sn_makeL (sn_make T.ck_Story sn_nil (dp_Story_init_1 T)))) sn_next)
      (sn_seq ((sn_asg (sn_makeL (sn_make T.ck_Story (sn_cons (sn_split (sn_var) (sn_str)) sn_nil) dfl_nil)) sn_gName))
      (sn_ret (sn_var))))
theorem ok_Story_read (T : Tx K mg w) : FnOk P w K mg base CX0 8 (recAd K (He.ma K (He.ga K "Story") "read") "classmethod") T.fd_Story_read ps_Story_read (sp_Story_read K) := by
  refine T.F_Story_read.ok sc_Story_read (fun vs H Q E h => ln_body h) (fun cdv A outer s H vs Q E hr h => ⟨t_Story_read K, PSs.nox ?_, fn_rd (N := nm_Story_read) (fn_body (sd_Story_read T)) h⟩)
  exact (pss_cons (ps_if (pt_cmpR (op_eqq hr.units) (pv 1) (pe_str) (nomark _)) (pss_one (ps_ret (pe_makeL0 (i := 0) T.mk_Story (ok_Story_init T) (hr.mono (by decide)) rfl (by first | exact .inl rfl | exact .inr (.inl rfl) | exact .inr (.inr rfl)) (bx_Story_init_1 T).choose_spec.2 (bx_Story_init_1 T).choose_spec.1 pass0 ))) pss_nil)
      (pss_cons (ps_try_thru0 (pss_one (ps_a 2 sc_Story_read.nd (pe_makeL (i := 0) T.mk_Story (ok_Story_init T) (hr.mono (by decide)) rfl (by first | exact .inl rfl | exact .inr (.inl rfl) | exact .inr (.inr rfl)) (b_Story_init T) .nil pass0 (pa_cons (pe_split' (pv 1) (pe_str)) pa_nil)))))
      (pss_one (ps_ret (pv 2)))))
theorem b_Story_read (T : Tx K mg w) : Binds K T.fd_Story_read ps_Story_read [] := T.F_Story_read.bindsN fun _ _ _ _ _ _ us hl => match us, hl with | [_, _], _ => rfl
theorem sd_Story_upto (T : Tx K mg w) : SnS K (t_Story_upto K) m_Story_upto := by
  unfold t_Story_upto m_Story_upto
  exact (sn_ret (sn_make T.ck_Story (sn_cons (sn_sl (sn_fld T.ck_Story.cl T.na_Story_events (sn_var)) sn_noPart (sn_part (sn_var))) sn_nil) dfl_nil))
theorem ok_Story_upto (T : Tx K mg w) : FnOk P w K mg base CX0 8 (He.ma K (He.ga K "Story") "upto") T.fd_Story_upto ps_Story_upto (sp_Story_upto K) := by
  refine T.F_Story_upto.ok sc_Story_upto (fun vs H Q E h => ln_body h) (fun cdv A outer s H vs Q E hr h => ⟨t_Story_upto K, PSs.nox ?_, fn_rd (N := nm_Story_upto) (fn_body (sd_Story_upto T)) h⟩)
  exact (pss_one (ps_ret (pe_make T.mk_Story (ok_Story_init T) (hr.mono (by decide)) (by rfl) T.g_Story (b_Story_init T) .nil pass0 (pa_cons (pe_slice sl_any (pe_fld (pv 0) rfl) po_none (po_some (pv 1))) pa_nil))))
theorem b_Story_upto (T : Tx K mg w) : Binds K T.fd_Story_upto ps_Story_upto [] := T.F_Story_upto.bindsN fun _ _ _ _ _ _ us hl => match us, hl with | [_, _], _ => rfl
theorem sd_law (T : Tx K mg w) : SnS K (t_law K) m_law := by
  unfold t_law m_law
  exact (sn_seq (sn_asg (sn_call (sn_cons (sn_var) (sn_cons (sn_int) sn_nil)) dfl_nil) sn_gName)
      (sn_seq (sn_for (sn_iRng1 (sn_cons (sn_int) sn_nil)) sn_gName (sn_cut (sn_seq (sn_asg (sn_call (sn_cons (sn_var) (sn_cons (sn_call (sn_cons (sn_var) (sn_cons (sn_int) sn_nil)) dfl_nil) (sn_cons (sn_call (sn_cons (sn_var) (sn_cons (sn_lst (sn_cons (sn_int) (sn_cons (sn_int) sn_nil))) sn_nil)) dfl_nil) sn_nil))) dfl_nil) sn_gName)
      (sn_seq (sn_asg (sn_make T.ck_Story (sn_cons (sn_var) sn_nil) dfl_nil) sn_gName)
      (sn_seq (sn_ifS (sn_not (sn_B (sn_call (sn_cons (sn_var) sn_nil) dfl_nil))) (sn_ret (sn_bl)) sn_next)
      (sn_for (sn_iRng1 (sn_cons (sn_int) sn_nil)) sn_gName (sn_cut (sn_seq (sn_asg (sn_call (sn_cons (sn_var) sn_nil) dfl_nil) sn_gName)
      (sn_seq (sn_asg (sn_make T.ck_Terms (sn_cons (sn_ix (sn_var) (sn_int)) (sn_cons (sn_ix (sn_var) (sn_int)) (sn_cons (sn_ix (sn_var) (sn_int)) sn_nil))) dfl_nil) sn_gName)
      (sn_seq (sn_ifS (sn_test (sn_reprNe (sn_meth (sn_var) (sn_cons (sn_var) sn_nil) dfl_nil) (sn_call (sn_cons (sn_var) (sn_cons (sn_var) sn_nil)) dfl_nil))) (sn_ret (sn_bl)) sn_next)
      (sn_seq (sn_asg (sn_if (sn_test (sn_op ov_eq (sn_call (sn_cons (sn_var) (sn_cons (sn_int) sn_nil)) dfl_nil) (sn_int))) (sn_methKw (sn_var) (sn_cons (sn_bl) sn_nil)) (sn_methKw (sn_var) (sn_cons (sn_non) sn_nil))) sn_gName)
      (sn_seq (sn_ifS (sn_and (sn_B (sn_meth (sn_var) (sn_cons (sn_var) sn_nil) dfl_nil)) (sn_not (sn_B (sn_meth (sn_var) (sn_cons (sn_var) sn_nil) dfl_nil)))) (sn_ret (sn_bl)) sn_next)
      (sn_seq (sn_ifS (sn_not (sn_B (sn_meth (sn_var) (sn_cons (sn_var) sn_nil) dfl_nil))) (sn_cont) sn_next)
      (sn_ifS (sn_test (sn_op ov_ne (sn_lc (sn_iRng1 (sn_cons (sn_lenOwn (sn_var)) sn_nil)) sn_cName (sn_not (sn_B (sn_meth (sn_var) (sn_cons (sn_meth (sn_var) (sn_cons (sn_var) sn_nil) dfl_nil) sn_nil) dfl_nil))) (sn_var)) (sn_lst sn_nil))) (sn_ret (sn_bl)) sn_next))))))))))))))
      (sn_seq (sn_asg (sn_lst (sn_cons (sn_tup (sn_cons (sn_str) (sn_cons (sn_str) sn_nil))) (sn_cons (sn_tup (sn_cons (sn_str) (sn_cons (sn_str) sn_nil))) (sn_cons (sn_tup (sn_cons (sn_str) (sn_cons (sn_str) sn_nil))) sn_nil)))) sn_gName)
      (sn_seq (sn_asg (sn_op ov_plus (sn_var) (sn_lst (sn_cons (sn_tup (sn_cons (sn_str) (sn_cons (sn_str) sn_nil))) sn_nil))) sn_gName)
      (sn_seq (sn_asg (sn_op ov_plus (sn_var) (sn_lst (sn_cons (sn_tup (sn_cons (sn_str) (sn_cons (sn_str) sn_nil))) sn_nil))) sn_gName)
      (sn_seq (sn_asg (sn_op ov_plus (sn_var) (sn_lst (sn_cons (sn_tup (sn_cons (sn_str) (sn_cons (sn_str) sn_nil))) sn_nil))) sn_gName)
      (sn_seq (sn_asg (sn_op ov_plus (sn_var) (sn_lst (sn_cons (sn_tup (sn_cons (sn_str) (sn_cons (sn_str) sn_nil))) sn_nil))) sn_gName)
      (sn_ret (sn_op ov_eq (sn_lc (sn_iSeq (sn_var)) (sn_cTup (sn_cCons sn_cName (sn_cCons sn_cName sn_cNil))) sn_yes (sn_strOwn (sn_fld T.ck_Story.cl T.na_Story_needs (sn_cmeth sn_cls (sn_cons (sn_var) sn_nil))))) (sn_lc (sn_iSeq (sn_var)) (sn_cTup (sn_cCons sn_cName (sn_cCons sn_cName sn_cNil))) sn_yes (sn_var)))))))))))
theorem ok_law (T : Tx K mg w) : FnG P w K mg base CX0 9 (He.ga K "law") T.fd_law ps_law (sp_law K) := by
  refine funG T.F_law sc_law (fun vs H Q E h => ln_body h) (fun cdv A outer s H vs Q E gA hr h => ⟨t_law K, PSs.nox ?_, fn_rd (N := nm_law) (fn_body (sd_law T)) h⟩)
  exact (pss_cons (ps_a 1 sc_law.nd (pe_call (ok_law_deal T) (hr.mono (by decide)) (by rfl) T.g_law_deal T.F_law_deal.kp (b_law_deal T) .nil pass0 (pa_cons (pv 0) (pa_cons (pe_int) pa_nil))))
      (pss_cons (ps_for PassesOwn.never rfl (pi_range1 (by rfl) T.f_range (pa_cons (pe_int) pa_nil)) (pg_n 2 sc_law.nd) (pss_cons (ps_a 3 sc_law.nd (pe_call (ok_law_events T) (hr.mono (by decide)) (by rfl) T.g_law_events T.F_law_events.kp (b_law_events T) .nil pass0 (pa_cons (pv 1) (pa_cons (pe_call (ok_law_draw T) (hr.mono (by decide)) (by rfl) T.g_law_draw T.F_law_draw.kp (b_law_draw T) .nil pass0 (pa_cons (pv 1) (pa_cons (pe_int) pa_nil))) (pa_cons (pe_call (ok_law_pick T) (hr.mono (by decide)) (by rfl) T.g_law_pick T.F_law_pick.kp (b_law_pick T) .nil pass0 (pa_cons (pv 1) (pa_cons (pe_lst (pa_cons (pe_int) (pa_cons (pe_int) pa_nil))) pa_nil))) pa_nil)))))
      (pss_cons (ps_a 4 sc_law.nd (pe_make T.mk_Story (ok_Story_init T) (hr.mono (by decide)) (by rfl) T.g_Story (b_Story_init T) .nil pass0 (pa_cons (pv 3) pa_nil)))
      (pss_cons (ps_if (pt_not (pt_val (pe_call (ok_law_less_right T) (hr.mono (by decide)) (by rfl) T.g_law_less_right T.F_law_less_right.kp (b_law_less_right T) .nil pass0 (pa_cons (pv 4) pa_nil)))) (pss_one (ps_ret (pe_bl))) pss_nil)
      (pss_one (ps_for PassesOwn.never rfl (pi_range1 (by rfl) T.f_range (pa_cons (pe_int) pa_nil)) (pg_n 5 sc_law.nd) (pss_cons (ps_a 6 sc_law.nd (pe_call (ok_law_one T) (hr.mono (by decide)) (by rfl) T.g_law_one T.F_law_one.kp (b_law_one T) .nil pass0 (pa_cons (pv 1) pa_nil)))
      (pss_cons (ps_a 7 sc_law.nd (pe_make T.mk_Terms (ok_Terms_init T) (hr.mono (by decide)) (by rfl) T.g_Terms (b_Terms_init T) .nil pass0 (pa_cons (pe_ix ix_seq (pv 6) (pe_int) (fun _ _ => rfl)) (pa_cons (pe_ix ix_seq (pv 6) (pe_int) (fun _ _ => rfl)) (pa_cons (pe_ix ix_seq (pv 6) (pe_int) (fun _ _ => rfl)) pa_nil)))))
      (pss_cons (ps_if (pt_cmpR (op_nee hr.units) (pe_callB (call_reprD gA hr.units) (by rfl) T.f_repr (by decide +kernel) (pa_cons (pe_meth (pv 7) T.cl_Terms T.m_Terms_lets (ok_Terms_lets T) (hr.mono (by decide)) (b_Terms_lets T) .nil pass0 (pa_cons (pv 4) pa_nil)) pa_nil)) (pe_callB (call_reprD gA hr.units) (by rfl) T.f_repr (by decide +kernel) (pa_cons (pe_call (ok_law_lets T) (hr.mono (by decide)) (by rfl) T.g_law_lets T.F_law_lets.kp (b_law_lets T) .nil pass0 (pa_cons (pv 6) (pa_cons (pv 3) pa_nil))) pa_nil)) (nomark _)) (pss_one (ps_ret (pe_bl))) pss_nil)
      (pss_cons (ps_a 8 sc_law.nd (pe_ifExp (pt_cmpR (op_eqq hr.units) (pe_call (ok_law_draw T) (hr.mono (by decide)) (by rfl) T.g_law_draw T.F_law_draw.kp (b_law_draw T) .nil pass0 (pa_cons (pv 1) (pa_cons (pe_int) pa_nil))) (pe_int) (nomark _)) (pe_methKw (pv 7) T.cl_Terms T.m_Terms_but (fk_Terms_but_elder (K := K) T) (hr.mono (by decide)) pass0 (pk_cons (pe_bl) pk_nil)) (pe_methKw (pv 7) T.cl_Terms T.m_Terms_but (fk_Terms_but_skips (K := K) T) (hr.mono (by decide)) pass0 (pk_cons (pe_non) pk_nil))))
      (pss_cons (ps_if (PW.pt (pw_and (pt_val (pe_meth (pv 7) T.cl_Terms T.m_Terms_lets (ok_Terms_lets T) (hr.mono (by decide)) (b_Terms_lets T) .nil pass0 (pa_cons (pv 4) pa_nil))) (pw_and1 (pt_not (pt_val (pe_meth (pv 8) T.cl_Terms T.m_Terms_lets (ok_Terms_lets T) (hr.mono (by decide)) (b_Terms_lets T) .nil pass0 (pa_cons (pv 4) pa_nil))))))) (pss_one (ps_ret (pe_bl))) pss_nil)
      (pss_cons (ps_if (pt_not (pt_val (pe_meth (pv 7) T.cl_Terms T.m_Terms_lets (ok_Terms_lets T) (hr.mono (by decide)) (b_Terms_lets T) .nil pass0 (pa_cons (pv 4) pa_nil)))) (pss_one (ps_continue)) pss_nil)
      (pss_one (ps_if (pt_cmpR (op_nee hr.units) (pe_lc (own := [("_law_size", 9)]) rfl sc_law.nd (pi_range1 (by rfl) T.f_range (pa_cons (pe_callB (call_lenOwn T.fs_Story_len.1 T.fs_Story_len.2 (ok_Story_len T) (b_Story_len T) (hr.mono (by decide))) (by rfl) T.f_len (by decide +kernel) (pa_cons (pv 4) pa_nil)) pa_nil)) (blkOk_by (own := [("_law_size", 9)]) (N := nm_law) (sc := defScope st_law) (by decide +kernel)) (fun _ _ _ _ _ => (pg_n 9 sc_law.nd)) (fun _ _ _ _ _ => pts_one (pt_not (pt_val (pe_meth (pv 7) T.cl_Terms T.m_Terms_lets (ok_Terms_lets T) (hr.mono (by decide)) (b_Terms_lets T) .nil pass0 (pa_cons (pe_meth (pv 4) T.cl_Story T.m_Story_upto (ok_Story_upto T) (hr.mono (by decide)) (b_Story_upto T) .nil pass0 (pa_cons (pv 9) pa_nil)) pa_nil))))) (fun _ _ _ _ _ => (pv 9))) (pe_lst pa_nil) (nomark _)) (pss_one (ps_ret (pe_bl))) pss_nil))))))))))))))
      (pss_cons (ps_a 10 sc_law.nd (pe_lst (pa_cons (pe_tup (pa_cons (pe_str) (pa_cons (pe_str) pa_nil))) (pa_cons (pe_tup (pa_cons (pe_str) (pa_cons (pe_str) pa_nil))) (pa_cons (pe_tup (pa_cons (pe_str) (pa_cons (pe_str) pa_nil))) pa_nil)))))
      (pss_cons (ps_a 10 sc_law.nd (pe_op op_plus (pv 10) (pe_lst (pa_cons (pe_tup (pa_cons (pe_str) (pa_cons (pe_str) pa_nil))) pa_nil))))
      (pss_cons (ps_a 10 sc_law.nd (pe_op op_plus (pv 10) (pe_lst (pa_cons (pe_tup (pa_cons (pe_str) (pa_cons (pe_str) pa_nil))) pa_nil))))
      (pss_cons (ps_a 10 sc_law.nd (pe_op op_plus (pv 10) (pe_lst (pa_cons (pe_tup (pa_cons (pe_str) (pa_cons (pe_str) pa_nil))) pa_nil))))
      (pss_cons (ps_a 10 sc_law.nd (pe_op op_plus (pv 10) (pe_lst (pa_cons (pe_tup (pa_cons (pe_str) (pa_cons (pe_str) pa_nil))) pa_nil))))
      (pss_one (ps_ret (pe_cmpR (op_eqq hr.units) (pe_lc (own := [("_law_text", 11), ("_law_due", 12)]) rfl sc_law.nd (pi_seq (pv 10)) (blkOk_by (own := [("_law_text", 11), ("_law_due", 12)]) (N := nm_law) (sc := defScope st_law) (by decide +kernel)) (fun _ _ _ _ _ => (pg_tup rfl (pgs_cons (pg_n 11 sc_law.nd) (pgs_cons (pg_n 12 sc_law.nd) pgs_nil)))) (fun _ _ _ _ _ => pts_nil) (fun _ _ _ _ _ => (pe_callTy (call_strOwn T.fs_Terms_str.1 T.fs_Terms_str.2 (ok_Terms_str T) (b_Terms_str T) (hr.mono (by decide)) (units2 hr)) (by rfl) T.f_str (by decide +kernel) (pa_cons (pe_fld (ClX.pe_cmeth (pe_glob (by rfl) T.g_Story rfl) T.cr_Story T.cm_Story_read (fnR_of (ok_Story_read T) (b_Story_read T)) (hr.mono (by decide)) pass0 (pa_cons (pv 11) pa_nil)) rfl) pa_nil)))) (pe_lc (own := [("_law_text", 11), ("_law_due", 12)]) rfl sc_law.nd (pi_seq (pv 10)) (blkOk_by (own := [("_law_text", 11), ("_law_due", 12)]) (N := nm_law) (sc := defScope st_law) (by decide +kernel)) (fun _ _ _ _ _ => (pg_tup rfl (pgs_cons (pg_n 11 sc_law.nd) (pgs_cons (pg_n 12 sc_law.nd) pgs_nil)))) (fun _ _ _ _ _ => pts_nil) (fun _ _ _ _ _ => (pv 12))) (nomark _)))))))))))
end
end DX.K14
namespace DX.K14
open PySem PySem.Spec L2 DK
local macro_rules
  | `(tactic| push_cast [$ts,*]) => `(tactic| simp only [q_seq, q_ifS, q_if, q_and, q_or, q_not, q_andV, q_orV, q_notV, q_test, q_op, q_un, q_asg, q_ret, q_drop, q_cons, q_dat, q_dat1, q_tup, q_lst, q_call, q_meth, q_for, q_lc, q_seqI, q_sl, q_var, q_c, q_nil, q_next, q_cont, q_break, q_retN, q_yes, q_noPart, q_partB, q_isN, q_ixB, q_fld, q_enum, q_par, q_body, varW_some, view_val, view_loc, viewM_lst, viewM_frz, isBl_bl, partW_int, name_set, ixW_val, ixF_l, ixF_t, fld_row_word, fld_row_tests, fld_row_deeds, fld_row_opens, fld_tool_window, fld_tool_rows, fld_tool_marks, recv_row, recv_tool, bodyE_rt, bodyE_nx, exit_any, exit_dst, negF_int, plusF_int, minusF_int, ltF_int, leF_int, gtF_int, geF_int, eqF_int, eqF_str, eqF_bl, intF_int, maxF_int, minF_int, lenF_l, lenF_t, lenF_s, tupF_l, tupF_t, lstF_l, lstF_t, strF_s, seqOf_t, seqOf_l, guard_val, guard_loc, isNW_val, isNW_loc, enumW_1, parW_2, tup_set, cons_set, nil_set, frzL_nil, frzL_cons, frz1_val, frz1_loc, frzM_lst, frzM_frz, ofS, ite_bind, Option.bind_some, then_nx, then_rt, then_ct, then_bk, start, List.length_cons, List.length_nil, List.map_cons, List.map_nil, List.replicate, List.cons_append, List.nil_append, List.append_nil, List.getElem?_cons_succ, List.getElem?_cons_zero, List.set_cons_succ, List.set_cons_zero, Nat.sub_self, Nat.reduceSub, Nat.reduceAdd, Nat.reduceEqDiff, if_true, if_false, reduceIte, decide_eq_true_eq, decide_true, decide_false, Bool.false_xor, Bool.true_xor, Nat.zero_add, eq_self, String.reduceEq, Bool.false_eq_true, wipeE, List.foldl_cons, List.foldl_nil, Bool.not_true, Bool.not_false, inF_strsT, inF_strsL, q_fldS, q_make, isNon_int, isNon_non, isNon_bl, isNon_str, isNon_tup, isNon_lst, q_lcM, q_setI, q_addM, addW_val, seqOf_loc, seqM_lst, seqM_frz, ixW_loc, ixM_lsW, ixM_lst, ixM_frz, setIW_loc, setIM_lst, exit_val, exit_loc, exitV_if, List.take_succ_cons, List.take_zero, List.take_nil, List.all_cons, List.all_nil, Bool.and_true, Bool.true_and, Bool.and_self, Nat.reduceLT, Nat.reduceLeDiff, Nat.zero_le, Nat.lt_add_one, exitM_lst, exitM_frz, below_lst, below_frz, below_dK, below_scr, below_lsW, below_ins, below_dW, wbelow_val, wbelow_loc, q_append, appA_loc, appW_1, appM_lst, q_lstOfM, lstM_lst, q_lstM, q_rng1, standB_none, standB_some, standM_lst, standM_frz, q_join, joinA_str, q_joined, q_jNil, q_jCons, jW_str, q_star, q_own1, ownW_val, okStr_str, isIns_row, isIns_tool, q_kget, kgetW_str, q_indexC, indexW_lst, q_makeL, mkL_cls, q_cmeth, cmW_cls, q_star1, star1W_cons, q_chain, chainW_bl, chainE_bl, q_eqOwn, fmtF_s, and_self, q_aug, augM_int, q_parN, setAll_cons, setAll_nil, q_never, intF_bl, q_extend, extA_loc, extW_1, extD_lst, extM_lst, q_asgT, uTup_tup, uCons_cons, uNil_nil, uName_eq, uFld_eq, ufW_loc, ufM_ins, fldSW_loc, fldSM_ins, fldW_loc, fldM_ins, look_cons, putW_nil, putW_cons, $ts,*])
variable {ρ : Env'} {μ : Mu}
def oi : Option Int → D
  | none => .non
  | some k => .int k
def tmE (sk : Option Int) (el ho : Bool) : D := termsD (oi sk) el ho
def okK (sk : Option Int) : Prop := ∀ k, sk = some k → 0 ≤ k
theorem mk_tm {sk : Option Int} {el ho : Bool} (h : okK sk) : makeX "Terms" f_Terms_init [.val (oi sk), .val (.bl el), .val (.bl ho)] μ = some (.val (tmE sk el ho), μ) := by
  cases sk with
  | some k => exact e_Terms (h k rfl)
  | none =>
    refine makeX_pure (ds := [.non, .bl el, .bl ho]) (fs := [("skips", .val .non), ("elder", .val (.bl el)), ("house", .val (.bl ho))]) ?_ rfl
    have h3 : isTF "bool" (.bl el) = some (.bl true) := rfl
    have h4 : isTF "bool" (.bl ho) = some (.bl true) := rfl
    unfold f_Terms_init m_Terms_init
    push_cast [h3, h4]
def lets (sk : Option Int) (el ho : Bool) (k : Int) (e h : Bool) : Bool := (match sk with
  | none => true
  | some s => decide (k ≤ s)) && (el || !e) && (ho || !h)
def letsE (sk : Option Int) (el ho : Bool) (es : List Evt) : Bool := lets sk el ho (needsS es).skips (needsS es).el (es.any isHouse)
theorem tm_skips {sk : Option Int} {el ho : Bool} : fldW "Terms" "skips" μ (.val (tmE sk el ho)) = some (.val (oi sk), μ) := by kernel_rfl
theorem tm_elder {sk : Option Int} {el ho : Bool} : fldW "Terms" "elder" μ (.val (tmE sk el ho)) = some (.val (.bl el), μ) := by kernel_rfl
theorem tm_house {sk : Option Int} {el ho : Bool} : fldW "Terms" "house" μ (.val (tmE sk el ho)) = some (.val (.bl ho), μ) := by kernel_rfl
theorem fl_needs {es : List Evt} : fldW "Story" "needs" μ (.val (storyD es)) = some (.val (tmE (some (needsS es).skips) (needsS es).el (es.any isHouse)), μ) := by kernel_rfl
theorem e_lets {sk : Option Int} {el ho : Bool} {es : List Evt} : callX f_Terms_lets [.val (tmE sk el ho), .val (storyD es)] μ = some (.val (.bl (letsE sk el ho es)), μ) := by
  refine callX_pure rfl ?_
  have hn := fun μ => fl_needs (μ := μ) (es := es)
  unfold letsE
  generalize (needsS es).skips = k at hn ⊢
  generalize (needsS es).el = e at hn ⊢
  generalize es.any isHouse = h at hn ⊢
  unfold f_Terms_lets m_Terms_lets lets
  cases sk with
  | none => cases el <;> cases ho <;> cases e <;> cases h <;> (push_cast [hn, tm_skips, tm_elder, tm_house, oi]; try rfl)
  | some s =>
    by_cases q : s < k
    · have q2 : decide (k ≤ s) = false := decide_eq_false (by omega)
      dsimp only
      rw [q2]
      push_cast [hn, tm_skips, tm_elder, tm_house, oi, eq_true q]
      try rfl
    · have q2 : decide (k ≤ s) = true := decide_eq_true (by omega)
      dsimp only
      rw [q2]
      cases el <;> cases ho <;> cases e <;> cases h <;> (push_cast [hn, tm_skips, tm_elder, tm_house, oi, eq_false q]; try rfl)
theorem but_run {s0 s1 : Option Int} {e0 h0 e1 h1 : Bool} {gs : List (Str × W)} (hk : okK s1) (hm : mergeR [(("skips" : Str), W.val (oi s0)), ("elder", .val (.bl e0)), ("house", .val (.bl h0))] gs = [(("skips" : Str), W.val (oi s1)), ("elder", .val (.bl e1)), ("house", .val (.bl h1))]) {A : Mu} (hw : (A ++ [MO.dW gs]).all (MO.below (A.length + 1)) = true) :
    callX f_Terms_but [.val (tmE s0 e0 h0), .loc A.length] (A ++ [.dW gs]) = some (.val (tmE s1 e1 h1), A ++ [.dW gs]) := by
  have hl : (A ++ [MO.dW gs]).length = A.length + 1 := by rw [List.length_append]; rfl
  refine callX_whole ?_ ?_ rfl
  · have ht : locTop [W.val (tmE s0 e0 h0), W.loc A.length] = A.length + 1 := by
      show max (A.length + 1) 0 = _
      simp
    unfold preN
    rw [ht, if_pos ⟨by rw [hl]; exact Nat.le_refl _, by rw [List.take_of_length_le (by rw [hl]; exact Nat.le_refl _)]; exact hw⟩, hl]
  · have g0 : (A ++ [MO.dW gs])[A.length]? = some (.dW gs) := by rw [List.getElem?_append_right (Nat.le_refl _), Nat.sub_self]; rfl
    have hmk := fun μ => mk_tm (μ := μ) (el := e1) (ho := h1) hk
    generalize hμ : A ++ [MO.dW gs] = μ at hl g0 hw ⊢
    obtain ⟨D0, hD0⟩ : ∃ D0, D0 = [(("skips" : Str), W.val (oi s0)), ("elder", .val (.bl e0)), ("house", .val (.bl h0))] := ⟨_, rfl⟩
    obtain ⟨D1, hD1⟩ : ∃ D1, D1 = [(("skips" : Str), W.val (oi s1)), ("elder", .val (.bl e1)), ("house", .val (.bl h1))] := ⟨_, rfl⟩
    rw [← hD0, ← hD1] at hm
    have p1 : mAsg (mDispW ["skips", "elder", "house"] (mCons (mFld "Terms" "skips" (mVar 0)) (mCons (mFld "Terms" "elder" (mVar 0)) (mCons (mFld "Terms" "house" (mVar 0)) mNil)))) (hName 2) [some (.val (tmE s0 e0 h0)), some (.loc A.length), none] μ = some (.nx [some (.val (tmE s0 e0 h0)), some (.loc A.length), some (.loc μ.length)] (μ ++ [.dW D0])) := by
      have hc : (decide ((["skips", "elder", "house"] : List Str).length ≤ 15) && decide (["skips", "elder", "house"] : List Str).Nodup && [W.val (oi s0), W.val (.bl e0), W.val (.bl h0)].all (fun w => w.below μ.length)) = true := by
        rw [show decide (["skips", "elder", "house"] : List Str).Nodup = true from by decide +kernel]
        rfl
      rw [q_asg, q_dispW]
      have ha : mCons (mFld "Terms" "skips" (mVar 0)) (mCons (mFld "Terms" "elder" (mVar 0)) (mCons (mFld "Terms" "house" (mVar 0)) mNil)) [some (.val (tmE s0 e0 h0)), some (.loc A.length), none] μ = some ([W.val (oi s0), W.val (.bl e0), W.val (.bl h0)], μ) := by
        push_cast [tm_skips, tm_elder, tm_house]
      rw [ha, Option.bind_some, if_pos hc, hD0]
      rfl
    have p2 : mDrop (mDUpdW (mVar 2) (mVar 1)) [some (.val (tmE s0 e0 h0)), some (.loc A.length), some (.loc μ.length)] (μ ++ [.dW D0]) = some (.nx [some (.val (tmE s0 e0 h0)), some (.loc A.length), some (.loc μ.length)] (μ ++ [.dW D1])) := by
      have u0 : (μ ++ [MO.dW D0])[μ.length]? = some (.dW D0) := by rw [List.getElem?_append_right (Nat.le_refl _), Nat.sub_self]; rfl
      have u1 : (μ ++ [MO.dW D0])[A.length]? = some (.dW gs) := by rw [List.getElem?_append_left (by omega)]; exact g0
      have us : (μ ++ [MO.dW D0]).set μ.length (.dW D1) = μ ++ [MO.dW D1] := by rw [List.set_append_right _ _ (Nat.le_refl _), Nat.sub_self]; rfl
      have hlen : D1.length = 3 := by rw [hD1]; rfl
      rw [q_drop]
      unfold mDUpdW
      rw [show mVar 2 [some (.val (tmE s0 e0 h0)), some (.loc A.length), some (.loc μ.length)] (μ ++ [.dW D0]) = some (.loc μ.length, μ ++ [.dW D0]) from rfl]
      dsimp only
      rw [u0, show mVar 1 [some (.val (tmE s0 e0 h0)), some (.loc A.length), some (.loc μ.length)] (μ ++ [.dW D0]) = some (.loc A.length, μ ++ [.dW D0]) from rfl]
      dsimp only
      rw [u0, u1]
      dsimp only
      rw [hm, if_pos ⟨by omega, by omega⟩, us]
      rfl
    have p3 : mRet (mMakeSS "Terms" f_Terms_init ["skips", "elder", "house"] [0, 1, 2] (mVar 2)) [some (.val (tmE s0 e0 h0)), some (.loc A.length), some (.loc μ.length)] (μ ++ [.dW D1]) = some (.rt (.val (tmE s1 e1 h1)) (μ ++ [.dW D1])) := by
      have u0 : (μ ++ [MO.dW D1])[μ.length]? = some (.dW D1) := by rw [List.getElem?_append_right (Nat.le_refl _), Nat.sub_self]; rfl
      rw [q_ret]
      unfold mMakeSS
      rw [show mVar 2 [some (.val (tmE s0 e0 h0)), some (.loc A.length), some (.loc μ.length)] (μ ++ [.dW D1]) = some (.loc μ.length, μ ++ [.dW D1]) from rfl]
      dsimp only
      rw [u0]
      dsimp only
      rw [if_pos ⟨by rw [hD1]; rfl, by decide⟩, show pick [0, 1, 2] (D1.map (·.2)) = [W.val (oi s1), W.val (.bl e1), W.val (.bl h1)] from by rw [hD1]; rfl, hmk]
      rfl
    refine body_rt (w := .val (tmE s1 e1 h1)) rfl (seq_nx p1 (seq_nx p2 p3)) ?_
    rw [hl]
    exact exitW' hl (by rw [← hl] at hw; rw [hl] at hw; exact hw)
theorem recv_tm {sk : Option Int} {el ho : Bool} {m : Str} (h : (["skips", "elder", "house"] : List Str).contains m = false) : recvOk "Terms" m μ (.val (tmE sk el ho)) = true := by
  show (decide (("Terms" : Str) = "Terms") && !(["skips", "elder", "house"] : List Str).contains m) = true
  rw [h]
  simp
theorem q_but {s0 s1 : Option Int} {e0 h0 e1 h1 : Bool} {ks : List Str} {ws : List W} {o : RE} {a : RA} (hk : okK s1) (hw : μ.all (MO.below μ.length) = true) (ho : o ρ μ = some (.val (tmE s0 e0 h0), μ)) (ha : a ρ μ = some (ws, μ)) (hv : ∀ w ∈ ws, ∃ d, w = .val d) (hl : ws.length = ks.length) (hz : ks.length ≤ 100)
    (hm : mergeR [(("skips" : Str), W.val (oi s0)), ("elder", .val (.bl e0)), ("house", .val (.bl h0))] (ks.zip ws) = [(("skips" : Str), W.val (oi s1)), ("elder", .val (.bl e1)), ("house", .val (.bl h1))]) :
    mMethKw "Terms" "but" f_Terms_but ks o a ρ μ = some (.val (tmE s1 e1 h1), μ) := by
  have hb : ∀ n, ws.all (W.below n) = true := fun n => List.all_eq_true.mpr fun w hm => by
    obtain ⟨d, rfl⟩ := hv w hm
    rfl
  have hw2 : (μ ++ [MO.dW (ks.zip ws)]).all (MO.below (μ.length + 1)) = true := by
    rw [List.all_append, Bool.and_eq_true]
    refine ⟨List.all_eq_true.mpr fun m hm => ?_, ?_⟩
    · have h1 := List.all_eq_true.mp hw m hm
      have hw' : ∀ w : W, W.below μ.length w = true → W.below (μ.length + 1) w = true := fun w q => by
        cases w with
        | val _ => rfl
        | loc j => exact decide_eq_true (Nat.lt_succ_of_lt (of_decide_eq_true q))
      unfold MO.below at h1 ⊢
      cases m <;> first
        | rfl
        | exact List.all_eq_true.mpr fun w hm => hw' _ (List.all_eq_true.mp h1 w hm)
    · rw [List.all_cons, List.all_nil, Bool.and_true]
      show ((ks.zip ws).all fun p => p.2.below (μ.length + 1)) = true
      exact List.all_eq_true.mpr fun p hp => List.all_eq_true.mp (hb _) p.2 (List.of_mem_zip hp).2
  have hr := but_run (A := μ) hk hm hw2
  have ht : (μ ++ [MO.dW (ks.zip ws)]).take μ.length = μ := List.take_left
  unfold mMethKw
  rw [ho]
  dsimp only
  rw [if_pos (recv_tm (by decide +kernel)), ha]
  dsimp only
  rw [if_pos ⟨hl, hz, hb _⟩, hr]
  dsimp only
  rw [ht, if_pos ⟨by rw [List.length_append]; omega, hw⟩]
end DX.K14
namespace DX.K14
open PySem PySem.Spec L2 DK
local macro_rules
  | `(tactic| push_cast [$ts,*]) => `(tactic| simp only [q_seq, q_ifS, q_if, q_and, q_or, q_not, q_andV, q_orV, q_notV, q_test, q_op, q_un, q_asg, q_ret, q_drop, q_cons, q_dat, q_dat1, q_tup, q_lst, q_call, q_meth, q_for, q_lc, q_seqI, q_sl, q_var, q_c, q_nil, q_next, q_cont, q_break, q_retN, q_yes, q_noPart, q_partB, q_isN, q_ixB, q_fld, q_enum, q_par, q_body, varW_some, view_val, view_loc, viewM_lst, viewM_frz, isBl_bl, partW_int, name_set, ixW_val, ixF_l, ixF_t, fld_row_word, fld_row_tests, fld_row_deeds, fld_row_opens, fld_tool_window, fld_tool_rows, fld_tool_marks, recv_row, recv_tool, bodyE_rt, bodyE_nx, exit_any, exit_dst, negF_int, plusF_int, minusF_int, ltF_int, leF_int, gtF_int, geF_int, eqF_int, eqF_str, eqF_bl, intF_int, maxF_int, minF_int, lenF_l, lenF_t, lenF_s, tupF_l, tupF_t, lstF_l, lstF_t, strF_s, seqOf_t, seqOf_l, guard_val, guard_loc, isNW_val, isNW_loc, enumW_1, parW_2, tup_set, cons_set, nil_set, frzL_nil, frzL_cons, frz1_val, frz1_loc, frzM_lst, frzM_frz, ofS, ite_bind, Option.bind_some, then_nx, then_rt, then_ct, then_bk, start, List.length_cons, List.length_nil, List.map_cons, List.map_nil, List.replicate, List.cons_append, List.nil_append, List.append_nil, List.getElem?_cons_succ, List.getElem?_cons_zero, List.set_cons_succ, List.set_cons_zero, Nat.sub_self, Nat.reduceSub, Nat.reduceAdd, Nat.reduceEqDiff, if_true, if_false, reduceIte, decide_eq_true_eq, decide_true, decide_false, Bool.false_xor, Bool.true_xor, Nat.zero_add, eq_self, String.reduceEq, Bool.false_eq_true, wipeE, List.foldl_cons, List.foldl_nil, Bool.not_true, Bool.not_false, inF_strsT, inF_strsL, q_fldS, q_make, isNon_int, isNon_non, isNon_bl, isNon_str, isNon_tup, isNon_lst, q_lcM, q_setI, q_addM, addW_val, seqOf_loc, seqM_lst, seqM_frz, ixW_loc, ixM_lsW, ixM_lst, ixM_frz, setIW_loc, setIM_lst, exit_val, exit_loc, exitV_if, List.take_succ_cons, List.take_zero, List.take_nil, List.all_cons, List.all_nil, Bool.and_true, Bool.true_and, Bool.and_self, Nat.reduceLT, Nat.reduceLeDiff, Nat.zero_le, Nat.lt_add_one, exitM_lst, exitM_frz, below_lst, below_frz, below_dK, below_scr, below_lsW, below_ins, below_dW, wbelow_val, wbelow_loc, q_append, appA_loc, appW_1, appM_lst, q_lstOfM, lstM_lst, q_lstM, q_rng1, standB_none, standB_some, standM_lst, standM_frz, q_join, joinA_str, q_joined, q_jNil, q_jCons, jW_str, q_star, q_own1, ownW_val, okStr_str, isIns_row, isIns_tool, q_kget, kgetW_str, q_indexC, indexW_lst, q_makeL, mkL_cls, q_cmeth, cmW_cls, q_star1, star1W_cons, q_chain, chainW_bl, chainE_bl, q_eqOwn, fmtF_s, and_self, q_aug, augM_int, q_parN, setAll_cons, setAll_nil, q_never, intF_bl, q_extend, extA_loc, extW_1, extD_lst, extM_lst, q_asgT, uTup_tup, uCons_cons, uNil_nil, uName_eq, uFld_eq, ufW_loc, ufM_ins, fldSW_loc, fldSM_ins, fldW_loc, fldM_ins, look_cons, putW_nil, putW_cons, $ts,*])
variable {ρ : Env'} {μ : Mu}
theorem nsk0 {es : List Evt} : 0 ≤ (needsS es).skips := nskips (Int.le_refl 0)
theorem e_llets {sk : Option Int} {el ho : Bool} {es : List Evt} (ok : ∀ e ∈ es, EvOk e) (pos : posAll 0 es = true) : callX f_law_lets [.val (.tup [oi sk, .bl el, .bl ho]), .val (.lst (evL es))] μ = some (.val (.bl (letsE sk el ho es)), μ) := by
  refine callX_pure rfl ?_
  have hn := fun μ => e_lneeds (μ := μ) ok pos
  unfold needsT at hn
  unfold letsE
  generalize (needsS es).skips = k at hn ⊢
  generalize (needsS es).el = e at hn ⊢
  generalize es.any isHouse = h at hn ⊢
  have a0 : ixF (.tup [oi sk, .bl el, .bl ho]) (.int 0) = some (oi sk) := rfl
  have a1 : ixF (.tup [oi sk, .bl el, .bl ho]) (.int 1) = some (.bl el) := rfl
  have a2 : ixF (.tup [oi sk, .bl el, .bl ho]) (.int 2) = some (.bl ho) := rfl
  have n0 : ∀ {x y z : D}, atI [x, y, z] 0 = some x := fun {x y z} => rfl
  have n1 : ∀ {x y z : D}, atI [x, y, z] 1 = some y := fun {x y z} => rfl
  have n2 : ∀ {x y z : D}, atI [x, y, z] 2 = some z := fun {x y z} => rfl
  unfold f_law_lets m_law_lets m_law_lets_p1 m_law_lets_p3 m_law_lets_p2 m_law_lets_p4 lets
  cases sk with
  | none => cases el <;> cases ho <;> cases e <;> cases h <;> (push_cast [hn, n0, n1, n2, oi]; try rfl)
  | some s =>
    by_cases q : s < k
    · have q2 : decide (k ≤ s) = false := decide_eq_false (by omega)
      dsimp only
      rw [q2]
      push_cast [hn, n0, n1, n2, oi, eq_true q]
      try rfl
    · have q2 : decide (k ≤ s) = true := decide_eq_true (by omega)
      dsimp only
      rw [q2]
      cases el <;> cases ho <;> cases e <;> cases h <;> (push_cast [hn, n0, n1, n2, oi, eq_false q]; try rfl)
theorem e_less {es : List Evt} : callX f_law_less_right [.val (storyD es)] μ = some (.val (.bl true), μ) := by
  refine callX_pure rfl ?_
  have hk0 := nsk0 (es := es)
  have hn := fun μ => fl_needs (μ := μ) (es := es)
  have hl := fun (sk : Option Int) (el ho : Bool) μ => e_lets (μ := μ) (sk := sk) (el := el) (ho := ho) (es := es)
  unfold letsE at hl
  generalize (needsS es).skips = k at hn hl hk0 ⊢
  generalize (needsS es).el = e at hn hl ⊢
  generalize es.any isHouse = h at hn hl ⊢
  have hmk := fun μ => mk_tm (μ := μ) (sk := none) (el := true) (ho := true) (fun k h => by cases h)
  have rc := fun (sk : Option Int) (el ho : Bool) μ => recv_tm (μ := μ) (sk := sk) (el := el) (ho := ho) (m := "lets") (by decide +kernel)
  have b5 : 0 < k → mMethKw "Terms" "but" f_Terms_but ["skips", "elder", "house"] (mVar 1) (mCons (mOp minusF (mFld "Terms" "skips" (mVar 1)) (mC (.int 1))) (mCons (mC (.bl true)) (mCons (mC (.bl true)) mNil))) [some (.val (storyD es)), some (.val (tmE (some k) e h))] [] = some (.val (tmE (some (k - 1)) true true), []) := fun q => q_but (s0 := some k) (e0 := e) (h0 := h) (ws := [.val (.int (k - 1)), .val (.bl true), .val (.bl true)]) (fun j hj => by cases hj; omega) rfl rfl (by push_cast [tm_skips, oi]) (by simp) rfl (by decide) rfl
  have b7 : mMethKw "Terms" "but" f_Terms_but ["skips", "elder", "house"] (mVar 1) (mCons (mC .non) (mCons (mC (.bl false)) (mCons (mC (.bl true)) mNil))) [some (.val (storyD es)), some (.val (tmE (some k) e h))] [] = some (.val (tmE none false true), []) := q_but (s0 := some k) (e0 := e) (h0 := h) (ws := [.val .non, .val (.bl false), .val (.bl true)]) (fun j hj => by cases hj) rfl rfl rfl (by simp) rfl (by decide) rfl
  have b8 : mMethKw "Terms" "but" f_Terms_but ["skips", "elder", "house"] (mVar 1) (mCons (mC .non) (mCons (mC (.bl true)) (mCons (mC (.bl false)) mNil))) [some (.val (storyD es)), some (.val (tmE (some k) e h))] [] = some (.val (tmE none true false), []) := q_but (s0 := some k) (e0 := e) (h0 := h) (ws := [.val .non, .val (.bl true), .val (.bl false)]) (fun j hj => by cases hj) rfl rfl rfl (by simp) rfl (by decide) rfl
  have t1 : lets (some k) e h k e h = true := by
    show (decide (k ≤ k) && (e || !e) && (h || !h)) = true
    rw [decide_eq_true (Int.le_refl k)]
    cases e <;> cases h <;> rfl
  have t2 : lets none true true k e h = true := by unfold lets; cases e <;> cases h <;> rfl
  have t3 : lets (some (k - 1)) true true k e h = false := by
    show (decide (k ≤ k - 1) && (true || !e) && (true || !h)) = false
    rw [decide_eq_false (show ¬ k ≤ k - 1 by omega)]
    rfl
  have t4 : lets none false true k e h = !e := by unfold lets; cases e <;> cases h <;> rfl
  have t5 : lets none true false k e h = !h := by unfold lets; cases e <;> cases h <;> rfl
  have l1 := hl (some k) e h
  have l2 := hl none true true
  have l3 := hl (some (k - 1)) true true
  have l4 := hl none false true
  have l5 := hl none true false
  rw [t1] at l1
  rw [t2] at l2
  rw [t3] at l3
  rw [t4] at l4
  rw [t5] at l5
  have s1 : m_law_less_right_p1 [some (.val (storyD es)), none] [] = some (.nx [some (.val (storyD es)), some (.val (tmE (some k) e h))] []) := by
    unfold m_law_less_right_p1
    push_cast [hn]
  have mk : ∀ μ, makeX "Terms" f_Terms_init [.val .non, .val (.bl true), .val (.bl true)] μ = some (.val (tmE none true true), μ) := hmk
  have s3 : m_law_less_right_p3 [some (.val (storyD es)), some (.val (tmE (some k) e h))] [] = some (.nx [some (.val (storyD es)), some (.val (tmE (some k) e h))] []) := by
    unfold m_law_less_right_p3
    push_cast [rc, l1, mk, l2]
  have s5 : m_law_less_right_p5 [some (.val (storyD es)), some (.val (tmE (some k) e h))] [] = some (.nx [some (.val (storyD es)), some (.val (tmE (some k) e h))] []) := by
    unfold m_law_less_right_p5
    by_cases q : 0 < k
    · have b := b5 q
      generalize mMethKw "Terms" "but" f_Terms_but ["skips", "elder", "house"] (mVar 1) (mCons (mOp minusF (mFld "Terms" "skips" (mVar 1)) (mC (.int 1))) (mCons (mC (.bl true)) (mCons (mC (.bl true)) mNil))) = M at b ⊢
      push_cast [tm_skips, oi, eq_true q, b, rc, l3]
    · push_cast [tm_skips, oi, eq_false q]
  have s7 : m_law_less_right_p7 [some (.val (storyD es)), some (.val (tmE (some k) e h))] [] = some (.nx [some (.val (storyD es)), some (.val (tmE (some k) e h))] []) := by
    unfold m_law_less_right_p7
    generalize mMethKw "Terms" "but" f_Terms_but ["skips", "elder", "house"] (mVar 1) (mCons (mC .non) (mCons (mC (.bl false)) (mCons (mC (.bl true)) mNil))) = M at b7 ⊢
    cases e <;> push_cast [tm_elder, b7, rc, l4]
  have s8 : m_law_less_right_p8 [some (.val (storyD es)), some (.val (tmE (some k) e h))] [] = some (.rt (.val (.bl true)) []) := by
    unfold m_law_less_right_p8
    generalize mMethKw "Terms" "but" f_Terms_but ["skips", "elder", "house"] (mVar 1) (mCons (mC .non) (mCons (mC (.bl true)) (mCons (mC (.bl false)) mNil))) = M at b8 ⊢
    cases h <;> push_cast [tm_house, b8, rc, l5]
  exact body_rt (w := .val (.bl true)) rfl (seq_nx s1 (seq_nx s3 (seq_nx s5 (seq_nx s7 s8)))) rfl
end DX.K14
namespace DX.K14
open PySem PySem.Spec L2 DK
variable {ρ : Env'} {μ : Mu}
theorem nstep_mono {s : NS} {e : Evt} : s.skips ≤ (nstep s e).skips ∧ (s.el = true → (nstep s e).el = true) := by
  cases e with
  | give => exact ⟨Int.le_max_left _ _, fun h => h⟩
  | house => exact ⟨Int.le_refl _, fun h => h⟩
  | tr c =>
    refine ⟨Int.le_refl _, fun h => ?_⟩
    show (s.el || !decide ((c : Int) = s.many)) = true
    rw [h]
    rfl
theorem nfold_mono : ∀ {es : List Evt} {s : NS}, s.skips ≤ (es.foldl nstep s).skips ∧ (s.el = true → (es.foldl nstep s).el = true)
  | [], s => ⟨Int.le_refl _, fun h => h⟩
  | e :: es, s => by
    obtain ⟨h1, h2⟩ := nstep_mono (s := s) (e := e)
    obtain ⟨h3, h4⟩ := nfold_mono (es := es) (s := nstep s e)
    exact ⟨Int.le_trans h1 h3, fun h => h4 (h2 h)⟩
theorem needs_take {es : List Evt} {i : Nat} : (needsS (es.take i)).skips ≤ (needsS es).skips ∧ ((needsS (es.take i)).el = true → (needsS es).el = true) := by
  have h := nfold_mono (es := es.drop i) (s := needsS (es.take i))
  have e : (es.drop i).foldl nstep (needsS (es.take i)) = needsS es := by
    unfold needsS
    rw [← List.foldl_append, List.take_append_drop]
  rw [e] at h
  exact h
theorem house_take {es : List Evt} {i : Nat} (h : (es.take i).any isHouse = true) : es.any isHouse = true := by
  rw [List.any_eq_true] at h ⊢
  obtain ⟨x, hx, hp⟩ := h
  exact ⟨x, List.mem_of_mem_take hx, hp⟩
theorem lets_mono {sk : Option Int} {el ho : Bool} {k k' : Int} {e e' h h' : Bool} (hl : lets sk el ho k e h = true) (hk : k' ≤ k) (he : e' = true → e = true) (hh : h' = true → h = true) : lets sk el ho k' e' h' = true := by
  unfold lets at hl ⊢
  rw [Bool.and_eq_true, Bool.and_eq_true] at hl ⊢
  obtain ⟨⟨a, b⟩, c⟩ := hl
  refine ⟨⟨?_, ?_⟩, ?_⟩
  · cases sk with
    | none => rfl
    | some s => exact decide_eq_true (Int.le_trans hk (of_decide_eq_true a))
  · cases el <;> cases e <;> cases e' <;> simp_all
  · cases ho <;> cases h <;> cases h' <;> simp_all
theorem lets_take {sk : Option Int} {el ho : Bool} {es : List Evt} {i : Nat} (h : letsE sk el ho es = true) : letsE sk el ho (es.take i) = true := lets_mono h needs_take.1 needs_take.2 house_take
theorem lets_wide1 {sk : Option Int} {el ho : Bool} {es : List Evt} (h : letsE sk el ho es = true) : letsE sk true ho es = true := by
  unfold letsE lets at h ⊢
  rw [Bool.and_eq_true, Bool.and_eq_true] at h ⊢
  exact ⟨⟨h.1.1, rfl⟩, h.2⟩
theorem lets_wide2 {sk : Option Int} {el ho : Bool} {es : List Evt} (h : letsE sk el ho es = true) : letsE none el ho es = true := by
  unfold letsE lets at h ⊢
  rw [Bool.and_eq_true, Bool.and_eq_true] at h ⊢
  exact ⟨⟨rfl, h.1.2⟩, h.2⟩
end DX.K14
namespace DX.K14
open PySem PySem.Spec L2 DK
local macro_rules
  | `(tactic| push_cast [$ts,*]) => `(tactic| simp only [q_seq, q_ifS, q_if, q_and, q_or, q_not, q_andV, q_orV, q_notV, q_test, q_op, q_un, q_asg, q_ret, q_drop, q_cons, q_dat, q_dat1, q_tup, q_lst, q_call, q_meth, q_for, q_lc, q_seqI, q_sl, q_var, q_c, q_nil, q_next, q_cont, q_break, q_retN, q_yes, q_noPart, q_partB, q_isN, q_ixB, q_fld, q_enum, q_par, q_body, varW_some, view_val, view_loc, viewM_lst, viewM_frz, isBl_bl, partW_int, name_set, ixW_val, ixF_l, ixF_t, fld_row_word, fld_row_tests, fld_row_deeds, fld_row_opens, fld_tool_window, fld_tool_rows, fld_tool_marks, recv_row, recv_tool, bodyE_rt, bodyE_nx, exit_any, exit_dst, negF_int, plusF_int, minusF_int, ltF_int, leF_int, gtF_int, geF_int, eqF_int, eqF_str, eqF_bl, intF_int, maxF_int, minF_int, lenF_l, lenF_t, lenF_s, tupF_l, tupF_t, lstF_l, lstF_t, strF_s, seqOf_t, seqOf_l, guard_val, guard_loc, isNW_val, isNW_loc, enumW_1, parW_2, tup_set, cons_set, nil_set, frzL_nil, frzL_cons, frz1_val, frz1_loc, frzM_lst, frzM_frz, ofS, ite_bind, Option.bind_some, then_nx, then_rt, then_ct, then_bk, start, List.length_cons, List.length_nil, List.map_cons, List.map_nil, List.replicate, List.cons_append, List.nil_append, List.append_nil, List.getElem?_cons_succ, List.getElem?_cons_zero, List.set_cons_succ, List.set_cons_zero, Nat.sub_self, Nat.reduceSub, Nat.reduceAdd, Nat.reduceEqDiff, if_true, if_false, reduceIte, decide_eq_true_eq, decide_true, decide_false, Bool.false_xor, Bool.true_xor, Nat.zero_add, eq_self, String.reduceEq, Bool.false_eq_true, wipeE, List.foldl_cons, List.foldl_nil, Bool.not_true, Bool.not_false, inF_strsT, inF_strsL, q_fldS, q_make, isNon_int, isNon_non, isNon_bl, isNon_str, isNon_tup, isNon_lst, q_lcM, q_setI, q_addM, addW_val, seqOf_loc, seqM_lst, seqM_frz, ixW_loc, ixM_lsW, ixM_lst, ixM_frz, setIW_loc, setIM_lst, exit_val, exit_loc, exitV_if, List.take_succ_cons, List.take_zero, List.take_nil, List.all_cons, List.all_nil, Bool.and_true, Bool.true_and, Bool.and_self, Nat.reduceLT, Nat.reduceLeDiff, Nat.zero_le, Nat.lt_add_one, exitM_lst, exitM_frz, below_lst, below_frz, below_dK, below_scr, below_lsW, below_ins, below_dW, wbelow_val, wbelow_loc, q_append, appA_loc, appW_1, appM_lst, q_lstOfM, lstM_lst, q_lstM, q_rng1, standB_none, standB_some, standM_lst, standM_frz, q_join, joinA_str, q_joined, q_jNil, q_jCons, jW_str, q_star, q_own1, ownW_val, okStr_str, isIns_row, isIns_tool, q_kget, kgetW_str, q_indexC, indexW_lst, q_makeL, mkL_cls, q_cmeth, cmW_cls, q_star1, star1W_cons, q_chain, chainW_bl, chainE_bl, q_eqOwn, fmtF_s, and_self, q_aug, augM_int, q_parN, setAll_cons, setAll_nil, q_never, intF_bl, q_extend, extA_loc, extW_1, extD_lst, extM_lst, q_asgT, uTup_tup, uCons_cons, uNil_nil, uName_eq, uFld_eq, ufW_loc, ufM_ins, fldSW_loc, fldSM_ins, fldW_loc, fldM_ins, look_cons, putW_nil, putW_cons, $ts,*])
variable {ρ : Env'} {μ : Mu}
theorem oi_mem {x : D} (h : x ∈ [D.non, .int 0, .int 1, .int 2, .int 3]) : ∃ sk, okK sk ∧ x = oi sk := by
  simp only [List.mem_cons, List.not_mem_nil, or_false] at h
  rcases h with rfl | rfl | rfl | rfl | rfl
  · exact ⟨none, (fun k h => nomatch h), rfl⟩
  · exact ⟨some 0, (fun k h => by cases h; omega), rfl⟩
  · exact ⟨some 1, (fun k h => by cases h; omega), rfl⟩
  · exact ⟨some 2, (fun k h => by cases h; omega), rfl⟩
  · exact ⟨some 3, (fun k h => by cases h; omega), rfl⟩
theorem one_ex (d : Dl) (hd : d.1.length ≤ 1000) : ∃ (d' : Dl) (sk : Option Int) (el ho : Bool), d'.1.length ≤ 1000 ∧ okK sk ∧ ∀ t, callX f_law_one [.loc 1] (MO.lst (List.map D.int (Prod.fst d)) :: MO.lsW [W.loc 0, W.val (D.int (Prod.snd d))] :: (t)) = some (.val (.tup [oi sk, .bl el, .bl ho]), (MO.lst (List.map D.int (Prod.fst d')) :: MO.lsW [W.loc 0, W.val (D.int (Prod.snd d'))] :: (t))) := by
  obtain ⟨x, d1, hx, hd1, e1⟩ := pick_ex d [.non, .int 0, .int 1, .int 2, .int 3] hd (by simp) (by simp)
  obtain ⟨sk, hk, rfl⟩ := oi_mem hx
  obtain ⟨k2, d2, -, -, hd2, e2⟩ := draw_ex d1 3 hd1 (by omega) (by omega)
  obtain ⟨k3, d3, -, -, hd3, e3⟩ := draw_ex d2 3 hd2 (by omega) (by omega)
  refine ⟨d3, sk, decide (0 < k2), decide (0 < k3), hd3, hk, fun t => callX_deal rfl ?_⟩
  have z5 : (5 ≤ LB) = True := eq_true (by decide)
  have z3 : (3 ≤ LB) = True := eq_true (by decide)
  unfold f_law_one m_law_one
  push_cast [e1, e2, e3, z5, z3]
end DX.K14
namespace DX
open PySem PySem.Spec L2 DK
variable {ρ : Env'} {μ : Mu}
def FW : List Str := ["behind", "both", "told", "out", "shut", "stuck"]
theorem FW_ok : (FW.all fun s => decide (s.length ≤ 6) && s.cps.all (· < 0x110000)) = true := by kernel_rfl
theorem FW_sh {s : Str} (h : s ∈ FW) : Sh 64 1 (.str s) := by
  have := List.all_eq_true.mp FW_ok s h
  rw [Bool.and_eq_true, decide_eq_true_eq] at this
  exact (sh_str this.2).mono (by omega) (Nat.le_refl _)
section
variable {X : Txt} {T : ToolM} {s : Crs} {e : Evt}
theorem foundS_mem {k : Int} {w : Str} (h : w ∈ foundS s k) : w ∈ FW := by
  unfold foundS at h
  rw [List.mem_append, List.mem_append] at h
  unfold FW
  rcases h with h | h | h
  · split at h
    · rw [List.mem_singleton.mp h]; simp
    · cases h
  · split at h
    · rw [List.mem_singleton.mp h]; simp
    · cases h
  · split at h
    · rw [List.mem_singleton.mp h]; simp
    · cases h
theorem shutS_mem {k : Int} {w : Str} (h : w ∈ shutS s k) : w ∈ FW := by
  unfold shutS at h
  unfold FW
  split at h
  · split at h
    · simp only [List.mem_cons, List.not_mem_nil, or_false] at h
      rcases h with rfl | rfl <;> simp
    · rw [List.mem_singleton.mp h]; simp
  · cases h
theorem allF_mem {w : Str} (h : w ∈ allF' T s e) : w ∈ FW := by
  unfold allF' at h
  rcases List.mem_append.mp h with q | q
  · cases e with
    | give => cases q
    | house => cases q
    | tr k =>
      change w ∈ tryF T s k at q
      unfold tryF at q
      split at q
      · exact foundS_mem q
      · exact shutS_mem q
  · split at q
    · rw [List.mem_singleton.mp q]; simp [FW]
    · cases q
structure PlB (X : Txt) (T : ToolM) (j : Nat) (p : PlS) : Prop where
  ok : PlOk X j p
  n : 0 ≤ p.s.n ∧ p.s.n ≤ 200
  top : 0 ≤ p.s.top ∧ p.s.top ≤ j
  dn : ∀ r ∈ p.dn, ∀ k, r = some k → k < 1000
  mt : ∀ q ∈ p.mt, q.1 < 1000 ∧ q.2 ∈ FW
theorem row_lt {rows : List RowM} {w : Str} {ms : List Str} {p : Nat × RowM} (e : rowForM rows w ms = some p) : p.1 < rows.length := enumR_lt (List.mem_of_find?_eq_some e)
theorem ans_row_le (hT : ToolOk X T) {n c : Int} {ms : List Str} {k : Nat} (h : (ansS T n ms c).row = some k) : k < 1000 := by
  unfold ansS at h
  cases e : rowForM T.rows (wordM T.window (c - n)) (srt ms) with
  | none => rw [e] at h; cases h
  | some p => rw [e] at h; cases h; exact Nat.lt_of_lt_of_le (row_lt e) hT.len
theorem hse_row_le (hT : ToolOk X T) {n c : Int} {ms : List Str} {k : Nat} (h : (hseS T n ms c).row = some k) : k < 1000 := by
  unfold hseS at h
  split at h
  · cases h
  · rename_i p e
    cases h
    split at e
    · exact Nat.lt_of_lt_of_le (row_lt e) hT.len
    · cases e
theorem PlB.step (hT : ToolOk X T) {j i : Nat} {p : PlS} (h : PlB X T j p) (hj : j < 200) (hi : i < 1000) (he : EvOk e) : PlB X T (j + 1) (plStep T i p e) := by
  have hn := h.n
  have ht := h.top
  refine ⟨h.ok.step hT, ?_, ?_, ?_, ?_⟩
  · cases e with
    | give => exact hn
    | house =>
      show 0 ≤ (hseS T p.s.n p.s.ms p.s.top).n ∧ (hseS T p.s.n p.s.ms p.s.top).n ≤ 200
      rcases hseS_n (T := T) (n := p.s.n) (c := p.s.top) (ms := p.s.ms) with q | q <;> omega
    | tr c =>
      have hc : 1 ≤ c ∧ c ≤ 64 := he
      show 0 ≤ (tryC T p.s c).n ∧ (tryC T p.s c).n ≤ 200
      rw [tryC_n.1]
      rcases ansS_n hT (n := p.s.n) (c := (c : Int)) (ms := p.s.ms) with q | q <;> omega
  · cases e with
    | give => show 0 ≤ p.s.top + 1 ∧ p.s.top + 1 ≤ ((j + 1 : Nat) : Int); omega
    | house => show 0 ≤ p.s.top ∧ p.s.top ≤ ((j + 1 : Nat) : Int); omega
    | tr c => show 0 ≤ (tryC T p.s c).top ∧ (tryC T p.s c).top ≤ ((j + 1 : Nat) : Int); rw [tryC_n.2.2]; omega
  · intro r hr k hk
    rcases List.mem_append.mp hr with q | q
    · exact h.dn r q k hk
    · rw [List.mem_singleton] at q
      subst q
      cases e with
      | give => cases hk
      | house => exact hse_row_le hT hk
      | tr c => exact ans_row_le hT hk
  · intro q hq
    rcases List.mem_append.mp hq with z | z
    · exact h.mt q z
    · obtain ⟨w, hw, rfl⟩ := List.mem_map.mp z
      exact ⟨hi, allF_mem ((srt_perm _).mem_iff.mp hw)⟩
theorem PlB.all (hT : ToolOk X T) : ∀ {es : List Evt} {i j : Nat} {p : PlS}, PlB X T j p → (∀ e ∈ es, EvOk e) → j + es.length ≤ 200 → i + es.length ≤ 1000 → PlB X T (j + es.length) (plAll T i es p)
  | [], i, j, p, h, _, _, _ => h
  | e :: es, i, j, p, h, ho, hz, hi => by
    rw [List.length_cons] at hz hi
    have := PlB.all hT (es := es) (i := i + 1) (h.step hT (i := i) (e := e) (by omega) (by omega) (ho e (by simp))) (fun x hx => ho x (List.mem_cons_of_mem _ hx)) (by omega) (by omega)
    rw [List.length_cons, Nat.add_comm es.length, ← Nat.add_assoc]
    exact this
end
theorem sh_five {a b c d e : D} {ca cb cc cd ce n : Nat} (ha : Sh ca n a) (hb : Sh cb n b) (hc : Sh cc n c) (hd : Sh cd n d) (he : Sh ce n e) : Sh (ca + cb + cc + cd + ce + 13) (n + 1) (.tup [a, b, c, d, e]) := by
  refine ⟨?_, ?_, ?_, ?_, ?_⟩
  · show (pyOk a && (pyOk b && (pyOk c && (pyOk d && (pyOk e && true))))) = true
    rw [ha.py, hb.py, hc.py, hd.py, he.py]
    rfl
  · show ((toPy a).showable && ((toPy b).showable && ((toPy c).showable && ((toPy d).showable && ((toPy e).showable && true))))) = true
    rw [ha.sh, hb.sh, hc.sh, hd.sh, he.sh]
    rfl
  · show PyData.depth (.tuple (toPyL [a, b, c, d, e])) ≤ n + 1
    simp only [toPyL, PyData.depth, PyData.depthAll]
    have := ha.dp
    have := hb.dp
    have := hc.dp
    have := hd.dp
    have := he.dp
    omega
  · show (strsIn a && (strsIn b && (strsIn c && (strsIn d && (strsIn e && true))))) = true
    rw [ha.st, hb.st, hc.st, hd.st, he.st]
    rfl
  · show showCostL [a, b, c, d, e] + 3 ≤ _
    simp only [showCostL]
    have := ha.co
    have := hb.co
    have := hc.co
    have := hd.co
    have := he.co
    omega
section
variable {X : Txt} {T : ToolM} {p : PlS} {j : Nat}
theorem mkI_sh (hX : TxtN X) {ms : List Str} (h : MkI X ms) : Sh 1651 2 (.tup (ms.map D.str)) := by
  refine (sh_tup (c := 204) (n := 1) fun x hx => ?_).mono ?_ (Nat.le_refl _)
  · obtain ⟨s, hs, rfl⟩ := List.mem_map.mp hx
    have := hX.tok h s hs
    have hl := this.len
    exact (sh_str this.cps).mono (by omega) (Nat.le_refl _)
  · rw [List.length_map]
    have := hX.len h
    omega
theorem PlB.sh (hX : TxtN X) (h : PlB X T j p) (hj : j ≤ 62) : showsB (.tup [.int p.s.n, .tup (p.s.ms.map D.str), .tup (p.op.map D.bl), .tup (p.dn.map rowD), .tup (p.mt.map metD)]) = true := by
  have h1 : Sh 8 4 (.int p.s.n) := (sh_int (by have := h.n; omega)).mono (by omega) (by omega)
  have h2 : Sh 1651 4 (.tup (p.s.ms.map D.str)) := (mkI_sh hX h.ok.mi).mono (by omega) (by omega)
  have h3 : Sh 437 4 (.tup (p.op.map D.bl)) := (sh_tup (c := 5) (n := 1) fun x hx => by
    obtain ⟨s, hs, rfl⟩ := List.mem_map.mp hx
    exact sh_bl).mono (by rw [List.length_map]; have := h.ok.o; omega) (by omega)
  have h4 : Sh 623 4 (.tup (p.dn.map rowD)) := (sh_tup (c := 8) (n := 1) fun x hx => by
    obtain ⟨r, hr, rfl⟩ := List.mem_map.mp hx
    exact sh_row (h.dn r hr)).mono (by rw [List.length_map]; have := h.ok.d; omega) (by omega)
  have h5 : Sh 33979 4 (.tup (p.mt.map metD)) := (sh_tup (c := 135) (n := 2) fun x hx => by
    obtain ⟨q, hq, rfl⟩ := List.mem_map.mp hx
    have hm := h.mt q hq
    refine (sh_tup (c := 64) (n := 1) fun y hy => ?_).mono (by simp) (Nat.le_refl _)
    simp only [List.mem_cons, List.not_mem_nil, or_false] at hy
    rcases hy with rfl | rfl
    · exact (sh_int (by omega)).mono (by omega) (by omega)
    · exact FW_sh hm.2).mono (by rw [List.length_map]; have := h.ok.m; omega) (by omega)
  exact (sh_five h1 h2 h3 h4 h5).b (by omega) (by decide)
end
end DX
namespace DX.K14
open PySem PySem.Spec L2 DK
local macro_rules
  | `(tactic| push_cast [$ts,*]) => `(tactic| simp only [q_seq, q_ifS, q_if, q_and, q_or, q_not, q_andV, q_orV, q_notV, q_test, q_op, q_un, q_asg, q_ret, q_drop, q_cons, q_dat, q_dat1, q_tup, q_lst, q_call, q_meth, q_for, q_lc, q_seqI, q_sl, q_var, q_c, q_nil, q_next, q_cont, q_break, q_retN, q_yes, q_noPart, q_partB, q_isN, q_ixB, q_fld, q_enum, q_par, q_body, varW_some, view_val, view_loc, viewM_lst, viewM_frz, isBl_bl, partW_int, name_set, ixW_val, ixF_l, ixF_t, fld_row_word, fld_row_tests, fld_row_deeds, fld_row_opens, fld_tool_window, fld_tool_rows, fld_tool_marks, recv_row, recv_tool, bodyE_rt, bodyE_nx, exit_any, exit_dst, negF_int, plusF_int, minusF_int, ltF_int, leF_int, gtF_int, geF_int, eqF_int, eqF_str, eqF_bl, intF_int, maxF_int, minF_int, lenF_l, lenF_t, lenF_s, tupF_l, tupF_t, lstF_l, lstF_t, strF_s, seqOf_t, seqOf_l, guard_val, guard_loc, isNW_val, isNW_loc, enumW_1, parW_2, tup_set, cons_set, nil_set, frzL_nil, frzL_cons, frz1_val, frz1_loc, frzM_lst, frzM_frz, ofS, ite_bind, Option.bind_some, then_nx, then_rt, then_ct, then_bk, start, List.length_cons, List.length_nil, List.map_cons, List.map_nil, List.replicate, List.cons_append, List.nil_append, List.append_nil, List.getElem?_cons_succ, List.getElem?_cons_zero, List.set_cons_succ, List.set_cons_zero, Nat.sub_self, Nat.reduceSub, Nat.reduceAdd, Nat.reduceEqDiff, if_true, if_false, reduceIte, decide_eq_true_eq, decide_true, decide_false, Bool.false_xor, Bool.true_xor, Nat.zero_add, eq_self, String.reduceEq, Bool.false_eq_true, wipeE, List.foldl_cons, List.foldl_nil, Bool.not_true, Bool.not_false, inF_strsT, inF_strsL, q_fldS, q_make, isNon_int, isNon_non, isNon_bl, isNon_str, isNon_tup, isNon_lst, q_lcM, q_setI, q_addM, addW_val, seqOf_loc, seqM_lst, seqM_frz, ixW_loc, ixM_lsW, ixM_lst, ixM_frz, setIW_loc, setIM_lst, exit_val, exit_loc, exitV_if, List.take_succ_cons, List.take_zero, List.take_nil, List.all_cons, List.all_nil, Bool.and_true, Bool.true_and, Bool.and_self, Nat.reduceLT, Nat.reduceLeDiff, Nat.zero_le, Nat.lt_add_one, exitM_lst, exitM_frz, below_lst, below_frz, below_dK, below_scr, below_lsW, below_ins, below_dW, wbelow_val, wbelow_loc, q_append, appA_loc, appW_1, appM_lst, q_lstOfM, lstM_lst, q_lstM, q_rng1, standB_none, standB_some, standM_lst, standM_frz, q_join, joinA_str, q_joined, q_jNil, q_jCons, jW_str, q_star, q_own1, ownW_val, okStr_str, isIns_row, isIns_tool, q_kget, kgetW_str, q_indexC, indexW_lst, q_makeL, mkL_cls, q_cmeth, cmW_cls, q_star1, star1W_cons, q_chain, chainW_bl, chainE_bl, q_eqOwn, fmtF_s, and_self, q_aug, augM_int, q_parN, setAll_cons, setAll_nil, q_never, intF_bl, q_extend, extA_loc, extW_1, extD_lst, extM_lst, q_asgT, uTup_tup, uCons_cons, uNil_nil, uName_eq, uFld_eq, ufW_loc, ufM_ins, fldSW_loc, fldSM_ins, fldW_loc, fldM_ins, look_cons, putW_nil, putW_cons, $ts,*])
variable {ρ : Env'} {μ : Mu}
def EN (ns : List Int) (x2 x3 x4 x5 x6 x7 x8 x9 x10 x11 x12 : Option W) : Env' := [some (.val (.scr ns)), some (.loc 1), x2, x3, x4, x5, x6, x7, x8, x9, x10, x11, x12]
section
variable {ns : List Int} {x2 x5 x6 x7 x8 x9 x10 x11 x12 : Option W} {d : Dl} {es : List Evt} {sk : Option Int} {el ho : Bool}
theorem q6 (hd : d.1.length ≤ 1000) {x3 x4 : Option W} : ∃ d2 sk el ho, d2.1.length ≤ 1000 ∧ okK sk ∧ m_law_p6 (EN ns x2 x3 x4 x5 x6 x7 x8 x9 x10 x11 x12) (MO.lst (List.map D.int (Prod.fst d)) :: MO.lsW [W.loc 0, W.val (D.int (Prod.snd d))] :: ([])) = some (.nx (EN ns x2 x3 x4 x5 (some (.val (.tup [oi sk, .bl el, .bl ho]))) x7 x8 x9 x10 x11 x12) (MO.lst (List.map D.int (Prod.fst d2)) :: MO.lsW [W.loc 0, W.val (D.int (Prod.snd d2))] :: ([]))) := by
  obtain ⟨d2, sk, el, ho, hd2, hk, h1⟩ := one_ex d hd
  refine ⟨d2, sk, el, ho, hd2, hk, ?_⟩
  have h := h1 []
  generalize ((MO.lst (List.map D.int (Prod.fst d)) :: MO.lsW [W.loc 0, W.val (D.int (Prod.snd d))] :: ([])) : Mu) = μ at h ⊢
  unfold m_law_p6 EN
  push_cast [h]
theorem q7 (hk : okK sk) {x3 x4 : Option W} : m_law_p7 (EN ns x2 x3 x4 x5 (some (.val (.tup [oi sk, .bl el, .bl ho]))) x7 x8 x9 x10 x11 x12) μ = some (.nx (EN ns x2 x3 x4 x5 (some (.val (.tup [oi sk, .bl el, .bl ho]))) (some (.val (tmE sk el ho))) x8 x9 x10 x11 x12) μ) := by
  have n0 : ∀ {x y z : D}, atI [x, y, z] 0 = some x := fun {x y z} => rfl
  have n1 : ∀ {x y z : D}, atI [x, y, z] 1 = some y := fun {x y z} => rfl
  have n2 : ∀ {x y z : D}, atI [x, y, z] 2 = some z := fun {x y z} => rfl
  have hm := fun μ => mk_tm (μ := μ) (el := el) (ho := ho) hk
  unfold m_law_p7 EN
  push_cast [n0, n1, n2, hm]
theorem q9 (ok : ∀ e ∈ es, EvOk e) (pos : posAll 0 es = true) : m_law_p9 (EN ns x2 (some (.val (.lst (evL es)))) (some (.val (storyD es))) x5 (some (.val (.tup [oi sk, .bl el, .bl ho]))) (some (.val (tmE sk el ho))) x8 x9 x10 x11 x12) μ = some (.nx (EN ns x2 (some (.val (.lst (evL es)))) (some (.val (storyD es))) x5 (some (.val (.tup [oi sk, .bl el, .bl ho]))) (some (.val (tmE sk el ho))) x8 x9 x10 x11 x12) μ) := by
  have h1 := fun μ => e_lets (μ := μ) (sk := sk) (el := el) (ho := ho) (es := es)
  have h2 := fun μ => e_llets (μ := μ) (sk := sk) (el := el) (ho := ho) ok pos
  have rc := fun μ => recv_tm (μ := μ) (sk := sk) (el := el) (ho := ho) (m := "lets") (by decide +kernel)
  have hb : showsB (.bl (letsE sk el ho es)) = true := sh_bl.b (by omega) (by decide)
  unfold m_law_p9 EN
  push_cast [q_reprC, rc, h1, h2, hb]
end
end DX.K14
namespace DX.K14
open PySem PySem.Spec L2 DK
local macro_rules
  | `(tactic| push_cast [$ts,*]) => `(tactic| simp only [q_seq, q_ifS, q_if, q_and, q_or, q_not, q_andV, q_orV, q_notV, q_test, q_op, q_un, q_asg, q_ret, q_drop, q_cons, q_dat, q_dat1, q_tup, q_lst, q_call, q_meth, q_for, q_lc, q_seqI, q_sl, q_var, q_c, q_nil, q_next, q_cont, q_break, q_retN, q_yes, q_noPart, q_partB, q_isN, q_ixB, q_fld, q_enum, q_par, q_body, varW_some, view_val, view_loc, viewM_lst, viewM_frz, isBl_bl, partW_int, name_set, ixW_val, ixF_l, ixF_t, fld_row_word, fld_row_tests, fld_row_deeds, fld_row_opens, fld_tool_window, fld_tool_rows, fld_tool_marks, recv_row, recv_tool, bodyE_rt, bodyE_nx, exit_any, exit_dst, negF_int, plusF_int, minusF_int, ltF_int, leF_int, gtF_int, geF_int, eqF_int, eqF_str, eqF_bl, intF_int, maxF_int, minF_int, lenF_l, lenF_t, lenF_s, tupF_l, tupF_t, lstF_l, lstF_t, strF_s, seqOf_t, seqOf_l, guard_val, guard_loc, isNW_val, isNW_loc, enumW_1, parW_2, tup_set, cons_set, nil_set, frzL_nil, frzL_cons, frz1_val, frz1_loc, frzM_lst, frzM_frz, ofS, ite_bind, Option.bind_some, then_nx, then_rt, then_ct, then_bk, start, List.length_cons, List.length_nil, List.map_cons, List.map_nil, List.replicate, List.cons_append, List.nil_append, List.append_nil, List.getElem?_cons_succ, List.getElem?_cons_zero, List.set_cons_succ, List.set_cons_zero, Nat.sub_self, Nat.reduceSub, Nat.reduceAdd, Nat.reduceEqDiff, if_true, if_false, reduceIte, decide_eq_true_eq, decide_true, decide_false, Bool.false_xor, Bool.true_xor, Nat.zero_add, eq_self, String.reduceEq, Bool.false_eq_true, wipeE, List.foldl_cons, List.foldl_nil, Bool.not_true, Bool.not_false, inF_strsT, inF_strsL, q_fldS, q_make, isNon_int, isNon_non, isNon_bl, isNon_str, isNon_tup, isNon_lst, q_lcM, q_setI, q_addM, addW_val, seqOf_loc, seqM_lst, seqM_frz, ixW_loc, ixM_lsW, ixM_lst, ixM_frz, setIW_loc, setIM_lst, exit_val, exit_loc, exitV_if, List.take_succ_cons, List.take_zero, List.take_nil, List.all_cons, List.all_nil, Bool.and_true, Bool.true_and, Bool.and_self, Nat.reduceLT, Nat.reduceLeDiff, Nat.zero_le, Nat.lt_add_one, exitM_lst, exitM_frz, below_lst, below_frz, below_dK, below_scr, below_lsW, below_ins, below_dW, wbelow_val, wbelow_loc, q_append, appA_loc, appW_1, appM_lst, q_lstOfM, lstM_lst, q_lstM, q_rng1, standB_none, standB_some, standM_lst, standM_frz, q_join, joinA_str, q_joined, q_jNil, q_jCons, jW_str, q_star, q_own1, ownW_val, okStr_str, isIns_row, isIns_tool, q_kget, kgetW_str, q_indexC, indexW_lst, q_makeL, mkL_cls, q_cmeth, cmW_cls, q_star1, star1W_cons, q_chain, chainW_bl, chainE_bl, q_eqOwn, fmtF_s, and_self, q_aug, augM_int, q_parN, setAll_cons, setAll_nil, q_never, intF_bl, q_extend, extA_loc, extW_1, extD_lst, extM_lst, q_asgT, uTup_tup, uCons_cons, uNil_nil, uName_eq, uFld_eq, ufW_loc, ufM_ins, fldSW_loc, fldSM_ins, fldW_loc, fldM_ins, look_cons, putW_nil, putW_cons, $ts,*])
variable {ρ : Env'} {μ : Mu}
section
variable {ns : List Int} {x2 x3 x4 x5 x6 x7 x8 x9 x10 x11 x12 : Option W} {d : Dl} {es : List Evt} {sk s2 : Option Int} {el ho e2 : Bool}
theorem q10 (hk : okK sk) (hd : d.1.length ≤ 1000) : ∃ d2 s2 e2, d2.1.length ≤ 1000 ∧ (letsE sk el ho es = true → letsE s2 e2 ho es = true) ∧ m_law_p10 (EN ns x2 x3 x4 x5 x6 (some (.val (tmE sk el ho))) x8 x9 x10 x11 x12) (MO.lst (List.map D.int (Prod.fst d)) :: MO.lsW [W.loc 0, W.val (D.int (Prod.snd d))] :: ([])) = some (.nx (EN ns x2 x3 x4 x5 x6 (some (.val (tmE sk el ho))) (some (.val (tmE s2 e2 ho))) x9 x10 x11 x12) (MO.lst (List.map D.int (Prod.fst d2)) :: MO.lsW [W.loc 0, W.val (D.int (Prod.snd d2))] :: ([]))) := by
  obtain ⟨k, d2, -, -, hd2, h1⟩ := draw_ex d 2 hd (by omega) (by omega)
  have h1 := h1 []
  have z2 : (2 ≤ LB) = True := eq_true (by decide)
  by_cases q : k = 0
  · refine ⟨d2, sk, true, hd2, lets_wide1, ?_⟩
    have ht : mTest (mOp (eqF false) (mCall f_law_draw [] (mCons (mVar 1) (mCons (mC (.int 2)) mNil))) (mC (.int 0))) (EN ns x2 x3 x4 x5 x6 (some (.val (tmE sk el ho))) x8 x9 x10 x11 x12) (MO.lst (List.map D.int (Prod.fst d)) :: MO.lsW [W.loc 0, W.val (D.int (Prod.snd d))] :: ([])) = some (true, (MO.lst (List.map D.int (Prod.fst d2)) :: MO.lsW [W.loc 0, W.val (D.int (Prod.snd d2))] :: ([]))) := by
      generalize ((MO.lst (List.map D.int (Prod.fst d)) :: MO.lsW [W.loc 0, W.val (D.int (Prod.snd d))] :: ([])) : Mu) = μ at h1 ⊢
      generalize ((MO.lst (List.map D.int (Prod.fst d2)) :: MO.lsW [W.loc 0, W.val (D.int (Prod.snd d2))] :: ([])) : Mu) = μ2 at h1 ⊢
      subst q
      unfold EN
      push_cast [h1, z2]
    have hb : mMethKw "Terms" "but" f_Terms_but ["elder"] (mVar 7) (mCons (mC (.bl true)) mNil) (EN ns x2 x3 x4 x5 x6 (some (.val (tmE sk el ho))) x8 x9 x10 x11 x12) (MO.lst (List.map D.int (Prod.fst d2)) :: MO.lsW [W.loc 0, W.val (D.int (Prod.snd d2))] :: ([])) = some (.val (tmE sk true ho), (MO.lst (List.map D.int (Prod.fst d2)) :: MO.lsW [W.loc 0, W.val (D.int (Prod.snd d2))] :: ([]))) :=
      q_but (ws := [.val (.bl true)]) hk rfl rfl rfl (fun w h => ⟨.bl true, List.mem_singleton.mp h⟩) rfl (by decide) rfl
    unfold m_law_p10 mAsg mIf
    rw [ht]
    dsimp only
    rw [hb]
    rfl
  · refine ⟨d2, none, el, hd2, lets_wide2, ?_⟩
    have ht : mTest (mOp (eqF false) (mCall f_law_draw [] (mCons (mVar 1) (mCons (mC (.int 2)) mNil))) (mC (.int 0))) (EN ns x2 x3 x4 x5 x6 (some (.val (tmE sk el ho))) x8 x9 x10 x11 x12) (MO.lst (List.map D.int (Prod.fst d)) :: MO.lsW [W.loc 0, W.val (D.int (Prod.snd d))] :: ([])) = some (false, (MO.lst (List.map D.int (Prod.fst d2)) :: MO.lsW [W.loc 0, W.val (D.int (Prod.snd d2))] :: ([]))) := by
      generalize ((MO.lst (List.map D.int (Prod.fst d)) :: MO.lsW [W.loc 0, W.val (D.int (Prod.snd d))] :: ([])) : Mu) = μ at h1 ⊢
      generalize ((MO.lst (List.map D.int (Prod.fst d2)) :: MO.lsW [W.loc 0, W.val (D.int (Prod.snd d2))] :: ([])) : Mu) = μ2 at h1 ⊢
      have q' : (k = 0) = False := eq_false q
      unfold EN
      push_cast [h1, z2, q']
    have hb : mMethKw "Terms" "but" f_Terms_but ["skips"] (mVar 7) (mCons (mC .non) mNil) (EN ns x2 x3 x4 x5 x6 (some (.val (tmE sk el ho))) x8 x9 x10 x11 x12) (MO.lst (List.map D.int (Prod.fst d2)) :: MO.lsW [W.loc 0, W.val (D.int (Prod.snd d2))] :: ([])) = some (.val (tmE none el ho), (MO.lst (List.map D.int (Prod.fst d2)) :: MO.lsW [W.loc 0, W.val (D.int (Prod.snd d2))] :: ([]))) :=
      q_but (ws := [.val .non]) (fun k h => nomatch h) rfl rfl rfl (fun w h => ⟨.non, List.mem_singleton.mp h⟩) rfl (by decide) rfl
    unfold m_law_p10 mAsg mIf
    rw [ht]
    dsimp only
    rw [hb]
    rfl
theorem q12 (hl : letsE sk el ho es = true → letsE s2 e2 ho es = true) : m_law_p12 (EN ns x2 x3 (some (.val (storyD es))) x5 x6 (some (.val (tmE sk el ho))) (some (.val (tmE s2 e2 ho))) x9 x10 x11 x12) μ = some (.nx (EN ns x2 x3 (some (.val (storyD es))) x5 x6 (some (.val (tmE sk el ho))) (some (.val (tmE s2 e2 ho))) x9 x10 x11 x12) μ) := by
  have h1 := fun μ => e_lets (μ := μ) (sk := sk) (el := el) (ho := ho) (es := es)
  have h2 := fun μ => e_lets (μ := μ) (sk := s2) (el := e2) (ho := ho) (es := es)
  have r1 := fun μ => recv_tm (μ := μ) (sk := sk) (el := el) (ho := ho) (m := "lets") (by decide +kernel)
  have r2 := fun μ => recv_tm (μ := μ) (sk := s2) (el := e2) (ho := ho) (m := "lets") (by decide +kernel)
  generalize letsE sk el ho es = a at h1 hl
  generalize letsE s2 e2 ho es = b at h2 hl
  unfold m_law_p12 EN
  cases a with
  | false => push_cast [r1, r2, h1, h2]
  | true =>
    cases hl rfl
    push_cast [r1, r2, h1, h2]
theorem q13f (hl : letsE sk el ho es = false) : m_law_p13 (EN ns x2 x3 (some (.val (storyD es))) x5 x6 (some (.val (tmE sk el ho))) x8 x9 x10 x11 x12) μ = some (.ct (EN ns x2 x3 (some (.val (storyD es))) x5 x6 (some (.val (tmE sk el ho))) x8 x9 x10 x11 x12) μ) := by
  have h1 := fun μ => e_lets (μ := μ) (sk := sk) (el := el) (ho := ho) (es := es)
  have r1 := fun μ => recv_tm (μ := μ) (sk := sk) (el := el) (ho := ho) (m := "lets") (by decide +kernel)
  rw [hl] at h1
  unfold m_law_p13 mCont EN
  push_cast [r1, h1]
theorem q13t (hl : letsE sk el ho es = true) : m_law_p13 (EN ns x2 x3 (some (.val (storyD es))) x5 x6 (some (.val (tmE sk el ho))) x8 x9 x10 x11 x12) μ = some (.nx (EN ns x2 x3 (some (.val (storyD es))) x5 x6 (some (.val (tmE sk el ho))) x8 x9 x10 x11 x12) μ) := by
  have h1 := fun μ => e_lets (μ := μ) (sk := sk) (el := el) (ho := ho) (es := es)
  have r1 := fun μ => recv_tm (μ := μ) (sk := sk) (el := el) (ho := ho) (m := "lets") (by decide +kernel)
  rw [hl] at h1
  unfold m_law_p13 EN
  push_cast [r1, h1]
end
end DX.K14
namespace DX.K14
open PySem PySem.Spec L2 DK
local macro_rules
  | `(tactic| push_cast [$ts,*]) => `(tactic| simp only [q_seq, q_ifS, q_if, q_and, q_or, q_not, q_andV, q_orV, q_notV, q_test, q_op, q_un, q_asg, q_ret, q_drop, q_cons, q_dat, q_dat1, q_tup, q_lst, q_call, q_meth, q_for, q_lc, q_seqI, q_sl, q_var, q_c, q_nil, q_next, q_cont, q_break, q_retN, q_yes, q_noPart, q_partB, q_isN, q_ixB, q_fld, q_enum, q_par, q_body, varW_some, view_val, view_loc, viewM_lst, viewM_frz, isBl_bl, partW_int, name_set, ixW_val, ixF_l, ixF_t, fld_row_word, fld_row_tests, fld_row_deeds, fld_row_opens, fld_tool_window, fld_tool_rows, fld_tool_marks, recv_row, recv_tool, bodyE_rt, bodyE_nx, exit_any, exit_dst, negF_int, plusF_int, minusF_int, ltF_int, leF_int, gtF_int, geF_int, eqF_int, eqF_str, eqF_bl, intF_int, maxF_int, minF_int, lenF_l, lenF_t, lenF_s, tupF_l, tupF_t, lstF_l, lstF_t, strF_s, seqOf_t, seqOf_l, guard_val, guard_loc, isNW_val, isNW_loc, enumW_1, parW_2, tup_set, cons_set, nil_set, frzL_nil, frzL_cons, frz1_val, frz1_loc, frzM_lst, frzM_frz, ofS, ite_bind, Option.bind_some, then_nx, then_rt, then_ct, then_bk, start, List.length_cons, List.length_nil, List.map_cons, List.map_nil, List.replicate, List.cons_append, List.nil_append, List.append_nil, List.getElem?_cons_succ, List.getElem?_cons_zero, List.set_cons_succ, List.set_cons_zero, Nat.sub_self, Nat.reduceSub, Nat.reduceAdd, Nat.reduceEqDiff, if_true, if_false, reduceIte, decide_eq_true_eq, decide_true, decide_false, Bool.false_xor, Bool.true_xor, Nat.zero_add, eq_self, String.reduceEq, Bool.false_eq_true, wipeE, List.foldl_cons, List.foldl_nil, Bool.not_true, Bool.not_false, inF_strsT, inF_strsL, q_fldS, q_make, isNon_int, isNon_non, isNon_bl, isNon_str, isNon_tup, isNon_lst, q_lcM, q_setI, q_addM, addW_val, seqOf_loc, seqM_lst, seqM_frz, ixW_loc, ixM_lsW, ixM_lst, ixM_frz, setIW_loc, setIM_lst, exit_val, exit_loc, exitV_if, List.take_succ_cons, List.take_zero, List.take_nil, List.all_cons, List.all_nil, Bool.and_true, Bool.true_and, Bool.and_self, Nat.reduceLT, Nat.reduceLeDiff, Nat.zero_le, Nat.lt_add_one, exitM_lst, exitM_frz, below_lst, below_frz, below_dK, below_scr, below_lsW, below_ins, below_dW, wbelow_val, wbelow_loc, q_append, appA_loc, appW_1, appM_lst, q_lstOfM, lstM_lst, q_lstM, q_rng1, standB_none, standB_some, standM_lst, standM_frz, q_join, joinA_str, q_joined, q_jNil, q_jCons, jW_str, q_star, q_own1, ownW_val, okStr_str, isIns_row, isIns_tool, q_kget, kgetW_str, q_indexC, indexW_lst, q_makeL, mkL_cls, q_cmeth, cmW_cls, q_star1, star1W_cons, q_chain, chainW_bl, chainE_bl, q_eqOwn, fmtF_s, and_self, q_aug, augM_int, q_parN, setAll_cons, setAll_nil, q_never, intF_bl, q_extend, extA_loc, extW_1, extD_lst, extM_lst, q_asgT, uTup_tup, uCons_cons, uNil_nil, uName_eq, uFld_eq, ufW_loc, ufM_ins, fldSW_loc, fldSM_ins, fldW_loc, fldM_ins, look_cons, putW_nil, putW_cons, $ts,*])
variable {ρ : Env'} {μ : Mu}
section
variable {ns : List Int} {x2 x3 x4 x5 x6 x7 x8 x9 x10 x11 x12 : Option W} {d : Dl} {es : List Evt} {sk s2 : Option Int} {el ho e2 : Bool}
theorem q15 (ok : ∀ e ∈ es, EvOk e) (pos : posAll 0 es = true) (hz : es.length < 150) (hl : letsE sk el ho es = true) : m_law_p15 (EN ns x2 x3 (some (.val (storyD es))) x5 x6 (some (.val (tmE sk el ho))) x8 x9 x10 x11 x12) μ = some (.nx (EN ns x2 x3 (some (.val (storyD es))) x5 x6 (some (.val (tmE sk el ho))) x8 x9 x10 x11 x12) μ) := by
  have r1 := fun μ => recv_tm (μ := μ) (sk := sk) (el := el) (ho := ho) (m := "lets") (by decide +kernel)
  have hc : ∀ {μ : Mu}, lcR (hName 9) (mNot (mTest (mMeth "Terms" "lets" f_Terms_lets [] (mVar 7) (mCons (mMeth "Story" "upto" f_Story_upto [] (mVar 4) (mCons (mVar 9) mNil)) mNil)))) (mVar 9) none [some (.val (.scr ns)), some (.loc 1), x2, x3, some (.val (storyD es)), x5, x6, some (.val (tmE sk el ho)), x8, none, x10, x11, x12] (rangeD 0 es.length) μ = some (((List.range es.length).filter fun _ => false).map (fun k : Nat => D.int (0 + (k : Int))), μ) := fun {μ} =>
    lc_map (f := fun k : Nat => D.int (0 + (k : Int))) (h := fun k : Nat => D.int (0 + (k : Int))) (p := fun _ => false) rfl (fun k hk => ⟨_, rfl, by
      have h1 := fun μ => e_lets (μ := μ) (sk := sk) (el := el) (ho := ho) (es := es.take k)
      rw [lets_take hl] at h1
      have hu := fun μ => e_upto (μ := μ) (i := k) ok pos hz
      have rs : ∀ μ, recvOk "Story" "upto" μ (.val (storyD es)) = true := fun μ => by rfl
      have z0 : (0 : Int) + (k : Int) = (k : Int) := by omega
      push_cast [z0, hu, rs, r1, h1], fun h => nomatch h⟩)
  have hn : ((List.range es.length).filter fun _ => false) = [] := List.filter_eq_nil_iff.mpr fun _ _ h => nomatch h
  rw [hn] at hc
  have hs := fun μ => e_slen (μ := μ) (es := es)
  have hi := fun μ => isIns_story (μ := μ) (es := es)
  have hr : ∀ μ, rngW ([.int (es.length : Int)], μ) = some (rangeD 0 es.length, none, μ) := fun μ => rng_ok (by omega) (by omega)
  have zL : ((rangeD 0 es.length).length ≤ LB) = True := eq_true (by rw [range_len]; exact Nat.le_trans (Nat.le_of_lt hz) (by decide))
  have oz : okLen (.int (es.length : Int)) = true := by
    unfold okLen
    simp
    omega
  have eg : eqF true (.lst []) (.lst []) = some (.bl false) := by kernel_rfl
  unfold m_law_p15 EN
  push_cast [hs, hi, hr, oz, zL, hc, eg]
end
end DX.K14
namespace DX.K14
open PySem PySem.Spec L2 DK
local macro_rules
  | `(tactic| push_cast [$ts,*]) => `(tactic| simp only [q_seq, q_ifS, q_if, q_and, q_or, q_not, q_andV, q_orV, q_notV, q_test, q_op, q_un, q_asg, q_ret, q_drop, q_cons, q_dat, q_dat1, q_tup, q_lst, q_call, q_meth, q_for, q_lc, q_seqI, q_sl, q_var, q_c, q_nil, q_next, q_cont, q_break, q_retN, q_yes, q_noPart, q_partB, q_isN, q_ixB, q_fld, q_enum, q_par, q_body, varW_some, view_val, view_loc, viewM_lst, viewM_frz, isBl_bl, partW_int, name_set, ixW_val, ixF_l, ixF_t, fld_row_word, fld_row_tests, fld_row_deeds, fld_row_opens, fld_tool_window, fld_tool_rows, fld_tool_marks, recv_row, recv_tool, bodyE_rt, bodyE_nx, exit_any, exit_dst, negF_int, plusF_int, minusF_int, ltF_int, leF_int, gtF_int, geF_int, eqF_int, eqF_str, eqF_bl, intF_int, maxF_int, minF_int, lenF_l, lenF_t, lenF_s, tupF_l, tupF_t, lstF_l, lstF_t, strF_s, seqOf_t, seqOf_l, guard_val, guard_loc, isNW_val, isNW_loc, enumW_1, parW_2, tup_set, cons_set, nil_set, frzL_nil, frzL_cons, frz1_val, frz1_loc, frzM_lst, frzM_frz, ofS, ite_bind, Option.bind_some, then_nx, then_rt, then_ct, then_bk, start, List.length_cons, List.length_nil, List.map_cons, List.map_nil, List.replicate, List.cons_append, List.nil_append, List.append_nil, List.getElem?_cons_succ, List.getElem?_cons_zero, List.set_cons_succ, List.set_cons_zero, Nat.sub_self, Nat.reduceSub, Nat.reduceAdd, Nat.reduceEqDiff, if_true, if_false, reduceIte, decide_eq_true_eq, decide_true, decide_false, Bool.false_xor, Bool.true_xor, Nat.zero_add, eq_self, String.reduceEq, Bool.false_eq_true, wipeE, List.foldl_cons, List.foldl_nil, Bool.not_true, Bool.not_false, inF_strsT, inF_strsL, q_fldS, q_make, isNon_int, isNon_non, isNon_bl, isNon_str, isNon_tup, isNon_lst, q_lcM, q_setI, q_addM, addW_val, seqOf_loc, seqM_lst, seqM_frz, ixW_loc, ixM_lsW, ixM_lst, ixM_frz, setIW_loc, setIM_lst, exit_val, exit_loc, exitV_if, List.take_succ_cons, List.take_zero, List.take_nil, List.all_cons, List.all_nil, Bool.and_true, Bool.true_and, Bool.and_self, Nat.reduceLT, Nat.reduceLeDiff, Nat.zero_le, Nat.lt_add_one, exitM_lst, exitM_frz, below_lst, below_frz, below_dK, below_scr, below_lsW, below_ins, below_dW, wbelow_val, wbelow_loc, q_append, appA_loc, appW_1, appM_lst, q_lstOfM, lstM_lst, q_lstM, q_rng1, standB_none, standB_some, standM_lst, standM_frz, q_join, joinA_str, q_joined, q_jNil, q_jCons, jW_str, q_star, q_own1, ownW_val, okStr_str, isIns_row, isIns_tool, q_kget, kgetW_str, q_indexC, indexW_lst, q_makeL, mkL_cls, q_cmeth, cmW_cls, q_star1, star1W_cons, q_chain, chainW_bl, chainE_bl, q_eqOwn, fmtF_s, and_self, q_aug, augM_int, q_parN, setAll_cons, setAll_nil, q_never, intF_bl, q_extend, extA_loc, extW_1, extD_lst, extM_lst, q_asgT, uTup_tup, uCons_cons, uNil_nil, uName_eq, uFld_eq, ufW_loc, ufM_ins, fldSW_loc, fldSM_ins, fldW_loc, fldM_ins, look_cons, putW_nil, putW_cons, $ts,*])
variable {ρ : Env'} {μ : Mu}
section
variable {ns : List Int} {x2 x3 x4 x5 x6 x7 x8 x9 x10 x11 x12 : Option W} {d : Dl} {es : List Evt} {sk s2 : Option Int} {el ho e2 : Bool}
def II (ns : List Int) (es : List Evt) : Env' → Mu → Prop := fun ρ μ => ∃ (d : Dl) (x2 x5 x6 x7 x8 x9 x10 x11 x12 : Option W), d.1.length ≤ 1000 ∧ ρ = EN ns x2 (some (.val (.lst (evL es)))) (some (.val (storyD es))) x5 x6 x7 x8 x9 x10 x11 x12 ∧ μ = (MO.lst (List.map D.int (Prod.fst d)) :: MO.lsW [W.loc 0, W.val (D.int (Prod.snd d))] :: ([]))
theorem turn (ok : ∀ e ∈ es, EvOk e) (pos : posAll 0 es = true) (hz : es.length < 150) (hd : d.1.length ≤ 1000) : ∃ ρ2 μ2, (mCut m_law_1 (EN ns x2 (some (.val (.lst (evL es)))) (some (.val (storyD es))) x5 x6 x7 x8 x9 x10 x11 x12) (MO.lst (List.map D.int (Prod.fst d)) :: MO.lsW [W.loc 0, W.val (D.int (Prod.snd d))] :: ([])) = some (.nx ρ2 μ2) ∨ mCut m_law_1 (EN ns x2 (some (.val (.lst (evL es)))) (some (.val (storyD es))) x5 x6 x7 x8 x9 x10 x11 x12) (MO.lst (List.map D.int (Prod.fst d)) :: MO.lsW [W.loc 0, W.val (D.int (Prod.snd d))] :: ([])) = some (.ct ρ2 μ2)) ∧ II ns es ρ2 μ2 := by
  obtain ⟨d2, sk, el, ho, hd2, hk, h6⟩ := q6 (ns := ns) (x2 := x2) (x3 := some (.val (.lst (evL es)))) (x4 := some (.val (storyD es))) (x5 := x5) (x7 := x7) (x8 := x8) (x9 := x9) (x10 := x10) (x11 := x11) (x12 := x12) (x6 := x6) hd
  have h7 := q7 (ns := ns) (x2 := x2) (x3 := some (.val (.lst (evL es)))) (x4 := some (.val (storyD es))) (x5 := x5) (x7 := x7) (x8 := x8) (x9 := x9) (x10 := x10) (x11 := x11) (x12 := x12) (el := el) (ho := ho) (μ := (MO.lst (List.map D.int (Prod.fst d2)) :: MO.lsW [W.loc 0, W.val (D.int (Prod.snd d2))] :: ([]))) hk
  have h9 := q9 (ns := ns) (x2 := x2) (x5 := x5) (x8 := x8) (x9 := x9) (x10 := x10) (x11 := x11) (x12 := x12) (sk := sk) (el := el) (ho := ho) (μ := (MO.lst (List.map D.int (Prod.fst d2)) :: MO.lsW [W.loc 0, W.val (D.int (Prod.snd d2))] :: ([]))) ok pos
  obtain ⟨d3, s3, e3, hd3, hw, h10⟩ := q10 (es := es) (ns := ns) (x2 := x2) (x3 := some (.val (.lst (evL es)))) (x4 := some (.val (storyD es))) (x5 := x5) (x6 := some (.val (.tup [oi sk, .bl el, .bl ho]))) (x8 := x8) (x9 := x9) (x10 := x10) (x11 := x11) (x12 := x12) (el := el) (ho := ho) hk hd2
  have h12 := q12 (es := es) (ns := ns) (x2 := x2) (x3 := some (.val (.lst (evL es)))) (x5 := x5) (x6 := some (.val (.tup [oi sk, .bl el, .bl ho]))) (x9 := x9) (x10 := x10) (x11 := x11) (x12 := x12) (μ := (MO.lst (List.map D.int (Prod.fst d3)) :: MO.lsW [W.loc 0, W.val (D.int (Prod.snd d3))] :: ([]))) hw
  cases hl : letsE sk el ho es with
  | false =>
    have h13 := q13f (es := es) (ns := ns) (x2 := x2) (x3 := some (.val (.lst (evL es)))) (x5 := x5) (x6 := some (.val (.tup [oi sk, .bl el, .bl ho]))) (x8 := some (.val (tmE s3 e3 ho))) (x9 := x9) (x10 := x10) (x11 := x11) (x12 := x12) (μ := (MO.lst (List.map D.int (Prod.fst d3)) :: MO.lsW [W.loc 0, W.val (D.int (Prod.snd d3))] :: ([]))) hl
    exact ⟨_, _, .inr (cut_ct (seq_nx h6 (seq_nx h7 (seq_nx h9 (seq_nx h10 (seq_nx h12 (seq_ct h13))))))), d3, _, _, _, _, _, _, _, _, _, hd3, rfl, rfl⟩
  | true =>
    have h13 := q13t (es := es) (ns := ns) (x2 := x2) (x3 := some (.val (.lst (evL es)))) (x5 := x5) (x6 := some (.val (.tup [oi sk, .bl el, .bl ho]))) (x8 := some (.val (tmE s3 e3 ho))) (x9 := x9) (x10 := x10) (x11 := x11) (x12 := x12) (μ := (MO.lst (List.map D.int (Prod.fst d3)) :: MO.lsW [W.loc 0, W.val (D.int (Prod.snd d3))] :: ([]))) hl
    have h15 := q15 (es := es) (ns := ns) (x2 := x2) (x3 := some (.val (.lst (evL es)))) (x5 := x5) (x6 := some (.val (.tup [oi sk, .bl el, .bl ho]))) (x8 := some (.val (tmE s3 e3 ho))) (x9 := x9) (x10 := x10) (x11 := x11) (x12 := x12) (μ := (MO.lst (List.map D.int (Prod.fst d3)) :: MO.lsW [W.loc 0, W.val (D.int (Prod.snd d3))] :: ([]))) ok pos hz hl
    exact ⟨_, _, .inl (cut_nx (seq_nx h6 (seq_nx h7 (seq_nx h9 (seq_nx h10 (seq_nx h12 (seq_nx h13 h15)))))) (by show 2 ≤ 2; omega) (by rfl)), d3, clr 2 x2, clr 2 x5, _, _, _, clr 2 x9, clr 2 x10, clr 2 x11, clr 2 x12, hd3, rfl, rfl⟩
theorem q16 (ok : ∀ e ∈ es, EvOk e) (pos : posAll 0 es = true) (hz : es.length < 150) (hd : d.1.length ≤ 1000) : ∃ ρ2 μ2, m_law_p16 (EN ns x2 (some (.val (.lst (evL es)))) (some (.val (storyD es))) x5 x6 x7 x8 x9 x10 x11 x12) (MO.lst (List.map D.int (Prod.fst d)) :: MO.lsW [W.loc 0, W.val (D.int (Prod.snd d))] :: ([])) = some (.nx ρ2 μ2) ∧ II ns es ρ2 μ2 := by
  obtain ⟨ρ5, μ5, l1, l2⟩ := loop_all (g := hName 5) (b := mCut m_law_1) (c := none) (I := II ns es) (xs := rangeD 0 (6 : Int).toNat) (ρ := EN ns x2 (some (.val (.lst (evL es)))) (some (.val (storyD es))) x5 x6 x7 x8 x9 x10 x11 x12) (μ := (MO.lst (List.map D.int (Prod.fst d)) :: MO.lsW [W.loc 0, W.val (D.int (Prod.snd d))] :: ([]))) (by
    rintro x ρ μ hx ⟨d, x2, x5, x6, x7, x8, x9, x10, x11, x12, hd, rfl, rfl⟩
    obtain ⟨ρ2, μ2, i1, i2⟩ := turn (ns := ns) (x2 := x2) (x5 := some (.val x)) (x6 := x6) (x7 := x7) (x8 := x8) (x9 := x9) (x10 := x10) (x11 := x11) (x12 := x12) ok pos hz hd
    exact ⟨_, ρ2, μ2, rfl, i1, rfl, i2⟩) ⟨d, x2, x5, x6, x7, x8, x9, x10, x11, x12, hd, rfl, rfl⟩
  refine ⟨ρ5, μ5, ?_, l2⟩
  have e0 : kRng1 (mCons (mC (.int 6)) mNil) (EN ns x2 (some (.val (.lst (evL es)))) (some (.val (storyD es))) x5 x6 x7 x8 x9 x10 x11 x12) (MO.lst (List.map D.int (Prod.fst d)) :: MO.lsW [W.loc 0, W.val (D.int (Prod.snd d))] :: ([])) = some (rangeD 0 (6 : Int).toNat, none, (MO.lst (List.map D.int (Prod.fst d)) :: MO.lsW [W.loc 0, W.val (D.int (Prod.snd d))] :: ([]))) := by
    generalize ((MO.lst (List.map D.int (Prod.fst d)) :: MO.lsW [W.loc 0, W.val (D.int (Prod.snd d))] :: ([])) : Mu) = μ
    unfold EN
    push_cast [rng_ok (k := 6) (by omega) (by omega)]
  unfold m_law_p16
  rw [q_for, e0]
  exact l1
end
end DX.K14
namespace DX.K14
open PySem PySem.Spec L2 DK
local macro_rules
  | `(tactic| push_cast [$ts,*]) => `(tactic| simp only [q_seq, q_ifS, q_if, q_and, q_or, q_not, q_andV, q_orV, q_notV, q_test, q_op, q_un, q_asg, q_ret, q_drop, q_cons, q_dat, q_dat1, q_tup, q_lst, q_call, q_meth, q_for, q_lc, q_seqI, q_sl, q_var, q_c, q_nil, q_next, q_cont, q_break, q_retN, q_yes, q_noPart, q_partB, q_isN, q_ixB, q_fld, q_enum, q_par, q_body, varW_some, view_val, view_loc, viewM_lst, viewM_frz, isBl_bl, partW_int, name_set, ixW_val, ixF_l, ixF_t, fld_row_word, fld_row_tests, fld_row_deeds, fld_row_opens, fld_tool_window, fld_tool_rows, fld_tool_marks, recv_row, recv_tool, bodyE_rt, bodyE_nx, exit_any, exit_dst, negF_int, plusF_int, minusF_int, ltF_int, leF_int, gtF_int, geF_int, eqF_int, eqF_str, eqF_bl, intF_int, maxF_int, minF_int, lenF_l, lenF_t, lenF_s, tupF_l, tupF_t, lstF_l, lstF_t, strF_s, seqOf_t, seqOf_l, guard_val, guard_loc, isNW_val, isNW_loc, enumW_1, parW_2, tup_set, cons_set, nil_set, frzL_nil, frzL_cons, frz1_val, frz1_loc, frzM_lst, frzM_frz, ofS, ite_bind, Option.bind_some, then_nx, then_rt, then_ct, then_bk, start, List.length_cons, List.length_nil, List.map_cons, List.map_nil, List.replicate, List.cons_append, List.nil_append, List.append_nil, List.getElem?_cons_succ, List.getElem?_cons_zero, List.set_cons_succ, List.set_cons_zero, Nat.sub_self, Nat.reduceSub, Nat.reduceAdd, Nat.reduceEqDiff, if_true, if_false, reduceIte, decide_eq_true_eq, decide_true, decide_false, Bool.false_xor, Bool.true_xor, Nat.zero_add, eq_self, String.reduceEq, Bool.false_eq_true, wipeE, List.foldl_cons, List.foldl_nil, Bool.not_true, Bool.not_false, inF_strsT, inF_strsL, q_fldS, q_make, isNon_int, isNon_non, isNon_bl, isNon_str, isNon_tup, isNon_lst, q_lcM, q_setI, q_addM, addW_val, seqOf_loc, seqM_lst, seqM_frz, ixW_loc, ixM_lsW, ixM_lst, ixM_frz, setIW_loc, setIM_lst, exit_val, exit_loc, exitV_if, List.take_succ_cons, List.take_zero, List.take_nil, List.all_cons, List.all_nil, Bool.and_true, Bool.true_and, Bool.and_self, Nat.reduceLT, Nat.reduceLeDiff, Nat.zero_le, Nat.lt_add_one, exitM_lst, exitM_frz, below_lst, below_frz, below_dK, below_scr, below_lsW, below_ins, below_dW, wbelow_val, wbelow_loc, q_append, appA_loc, appW_1, appM_lst, q_lstOfM, lstM_lst, q_lstM, q_rng1, standB_none, standB_some, standM_lst, standM_frz, q_join, joinA_str, q_joined, q_jNil, q_jCons, jW_str, q_star, q_own1, ownW_val, okStr_str, isIns_row, isIns_tool, q_kget, kgetW_str, q_indexC, indexW_lst, q_makeL, mkL_cls, q_cmeth, cmW_cls, q_star1, star1W_cons, q_chain, chainW_bl, chainE_bl, q_eqOwn, fmtF_s, and_self, q_aug, augM_int, q_parN, setAll_cons, setAll_nil, q_never, intF_bl, q_extend, extA_loc, extW_1, extD_lst, extM_lst, q_asgT, uTup_tup, uCons_cons, uNil_nil, uName_eq, uFld_eq, ufW_loc, ufM_ins, fldSW_loc, fldSM_ins, fldW_loc, fldM_ins, look_cons, putW_nil, putW_cons, $ts,*])
variable {ρ : Env'} {μ : Mu}
section
variable {ns : List Int} {x2 x3 x4 x5 x6 x7 x8 x9 x10 x11 x12 : Option W} {d : Dl} {es : List Evt}
theorem q2 (hd : d.1.length ≤ 1000) : ∃ (d' : Dl) (es : List Evt), d'.1.length ≤ 1000 ∧ (∀ e ∈ es, EvOk e) ∧ posAll 0 es = true ∧ es.length < 150 ∧ m_law_p2 (EN ns x2 x3 x4 x5 x6 x7 x8 x9 x10 x11 x12) (MO.lst (List.map D.int (Prod.fst d)) :: MO.lsW [W.loc 0, W.val (D.int (Prod.snd d))] :: ([])) = some (.nx (EN ns x2 (some (.val (.lst (evL es)))) x4 x5 x6 x7 x8 x9 x10 x11 x12) (MO.lst (List.map D.int (Prod.fst d')) :: MO.lsW [W.loc 0, W.val (D.int (Prod.snd d'))] :: ([]))) := by
  have hlb : LB = 100000 := rfl
  have h2 : (2 ≤ LB) = True := eq_true (by omega)
  obtain ⟨k, d1, k0, k1, hd1, hdr⟩ := draw_ex d 25 hd (by omega) (by omega)
  obtain ⟨x, d2, hx, hd2, hpk⟩ := pick_ex d1 [.int 3, .int 9] hd1 (by simp) (by simp)
  obtain ⟨k, rfl⟩ : ∃ n : Nat, k = (n : Nat) := ⟨k.toNat, by omega⟩
  obtain ⟨m, hm, hm1, hm60⟩ : ∃ m : Nat, x = .int (m : Nat) ∧ 1 ≤ m ∧ m ≤ 30 := by
    simp only [List.mem_cons, List.not_mem_nil, or_false] at hx
    rcases hx with rfl | rfl
    · exact ⟨3, rfl, by omega, by omega⟩
    · exact ⟨9, rfl, by omega, by omega⟩
  subst hm
  obtain ⟨d3, es, hd3, hev, hlen, hc⟩ := events_ex d2 k m hd2 (by omega) hm1 (by omega)
  have hdr := hdr []
  have hpk := hpk []
  have hc := hc []
  refine ⟨d3, es, hd3, hev.ok, hev.pos, by omega, ?_⟩
  generalize ((MO.lst (List.map D.int (Prod.fst d)) :: MO.lsW [W.loc 0, W.val (D.int (Prod.snd d))] :: ([])) : Mu) = μ at hdr ⊢
  generalize ((MO.lst (List.map D.int (Prod.fst d1)) :: MO.lsW [W.loc 0, W.val (D.int (Prod.snd d1))] :: ([])) : Mu) = μ1 at hdr hpk
  generalize ((MO.lst (List.map D.int (Prod.fst d2)) :: MO.lsW [W.loc 0, W.val (D.int (Prod.snd d2))] :: ([])) : Mu) = μ2 at hpk hc
  generalize ((MO.lst (List.map D.int (Prod.fst d3)) :: MO.lsW [W.loc 0, W.val (D.int (Prod.snd d3))] :: ([])) : Mu) = μ3 at hc ⊢
  unfold m_law_p2 EN
  push_cast [hdr, h2, hpk, hc]
  try rfl
theorem q3 (ok : ∀ e ∈ es, EvOk e) (pos : posAll 0 es = true) (hz : es.length < 150) : m_law_p3 (EN ns x2 (some (.val (.lst (evL es)))) x4 x5 x6 x7 x8 x9 x10 x11 x12) μ = some (.nx (EN ns x2 (some (.val (.lst (evL es)))) (some (.val (storyD es))) x5 x6 x7 x8 x9 x10 x11 x12) μ) := by
  have hS := fun μ => e_Story (μ := μ) (m := .lst (evL es)) (es := es) rfl ok pos (by omega)
  unfold m_law_p3 EN
  push_cast [hS]
theorem q5 : m_law_p5 (EN ns x2 x3 (some (.val (storyD es))) x5 x6 x7 x8 x9 x10 x11 x12) μ = some (.nx (EN ns x2 x3 (some (.val (storyD es))) x5 x6 x7 x8 x9 x10 x11 x12) μ) := by
  have h := fun μ => e_less (μ := μ) (es := es)
  unfold m_law_p5 EN
  push_cast [h]
def IO (ns : List Int) : Env' → Mu → Prop := fun ρ μ => ∃ (d : Dl) (x2 x3 x4 x5 x6 x7 x8 x9 x10 x11 x12 : Option W), d.1.length ≤ 1000 ∧ ρ = EN ns x2 x3 x4 x5 x6 x7 x8 x9 x10 x11 x12 ∧ μ = (MO.lst (List.map D.int (Prod.fst d)) :: MO.lsW [W.loc 0, W.val (D.int (Prod.snd d))] :: ([]))
theorem outer (hd : d.1.length ≤ 1000) : ∃ ρ2 μ2, mCut m_law_2 (EN ns x2 x3 x4 x5 x6 x7 x8 x9 x10 x11 x12) (MO.lst (List.map D.int (Prod.fst d)) :: MO.lsW [W.loc 0, W.val (D.int (Prod.snd d))] :: ([])) = some (.nx ρ2 μ2) ∧ IO ns ρ2 μ2 := by
  obtain ⟨d1, es, hd1, ok, pos, hz, h2⟩ := q2 (ns := ns) (x2 := x2) (x3 := x3) (x4 := x4) (x5 := x5) (x6 := x6) (x7 := x7) (x8 := x8) (x9 := x9) (x10 := x10) (x11 := x11) (x12 := x12) hd
  have h3 := q3 (ns := ns) (x2 := x2) (x4 := x4) (x5 := x5) (x6 := x6) (x7 := x7) (x8 := x8) (x9 := x9) (x10 := x10) (x11 := x11) (x12 := x12) (μ := (MO.lst (List.map D.int (Prod.fst d1)) :: MO.lsW [W.loc 0, W.val (D.int (Prod.snd d1))] :: ([]))) ok pos hz
  have h5 := q5 (es := es) (ns := ns) (x2 := x2) (x3 := some (.val (.lst (evL es)))) (x5 := x5) (x6 := x6) (x7 := x7) (x8 := x8) (x9 := x9) (x10 := x10) (x11 := x11) (x12 := x12) (μ := (MO.lst (List.map D.int (Prod.fst d1)) :: MO.lsW [W.loc 0, W.val (D.int (Prod.snd d1))] :: ([])))
  obtain ⟨ρ2, μ2, h16, d2, y2, y5, y6, y7, y8, y9, y10, y11, y12, hd2, rfl, rfl⟩ := q16 (ns := ns) (x2 := x2) (x5 := x5) (x6 := x6) (x7 := x7) (x8 := x8) (x9 := x9) (x10 := x10) (x11 := x11) (x12 := x12) ok pos hz hd1
  exact ⟨_, _, cut_nx (seq_nx h2 (seq_nx h3 (seq_nx h5 h16))) (by show 2 ≤ 2; omega) (by rfl), d2, clr 2 y2, _, _, clr 2 y5, clr 2 y6, clr 2 y7, clr 2 y8, clr 2 y9, clr 2 y10, clr 2 y11, clr 2 y12, hd2, rfl, rfl⟩
end
end DX.K14
namespace DX.K14
open PySem PySem.Spec L2 DK
local macro_rules
  | `(tactic| push_cast [$ts,*]) => `(tactic| simp only [q_seq, q_ifS, q_if, q_and, q_or, q_not, q_andV, q_orV, q_notV, q_test, q_op, q_un, q_asg, q_ret, q_drop, q_cons, q_dat, q_dat1, q_tup, q_lst, q_call, q_meth, q_for, q_lc, q_seqI, q_sl, q_var, q_c, q_nil, q_next, q_cont, q_break, q_retN, q_yes, q_noPart, q_partB, q_isN, q_ixB, q_fld, q_enum, q_par, q_body, varW_some, view_val, view_loc, viewM_lst, viewM_frz, isBl_bl, partW_int, name_set, ixW_val, ixF_l, ixF_t, fld_row_word, fld_row_tests, fld_row_deeds, fld_row_opens, fld_tool_window, fld_tool_rows, fld_tool_marks, recv_row, recv_tool, bodyE_rt, bodyE_nx, exit_any, exit_dst, negF_int, plusF_int, minusF_int, ltF_int, leF_int, gtF_int, geF_int, eqF_int, eqF_str, eqF_bl, intF_int, maxF_int, minF_int, lenF_l, lenF_t, lenF_s, tupF_l, tupF_t, lstF_l, lstF_t, strF_s, seqOf_t, seqOf_l, guard_val, guard_loc, isNW_val, isNW_loc, enumW_1, parW_2, tup_set, cons_set, nil_set, frzL_nil, frzL_cons, frz1_val, frz1_loc, frzM_lst, frzM_frz, ofS, ite_bind, Option.bind_some, then_nx, then_rt, then_ct, then_bk, start, List.length_cons, List.length_nil, List.map_cons, List.map_nil, List.replicate, List.cons_append, List.nil_append, List.append_nil, List.getElem?_cons_succ, List.getElem?_cons_zero, List.set_cons_succ, List.set_cons_zero, Nat.sub_self, Nat.reduceSub, Nat.reduceAdd, Nat.reduceEqDiff, if_true, if_false, reduceIte, decide_eq_true_eq, decide_true, decide_false, Bool.false_xor, Bool.true_xor, Nat.zero_add, eq_self, String.reduceEq, Bool.false_eq_true, wipeE, List.foldl_cons, List.foldl_nil, Bool.not_true, Bool.not_false, inF_strsT, inF_strsL, q_fldS, q_make, isNon_int, isNon_non, isNon_bl, isNon_str, isNon_tup, isNon_lst, q_lcM, q_setI, q_addM, addW_val, seqOf_loc, seqM_lst, seqM_frz, ixW_loc, ixM_lsW, ixM_lst, ixM_frz, setIW_loc, setIM_lst, exit_val, exit_loc, exitV_if, List.take_succ_cons, List.take_zero, List.take_nil, List.all_cons, List.all_nil, Bool.and_true, Bool.true_and, Bool.and_self, Nat.reduceLT, Nat.reduceLeDiff, Nat.zero_le, Nat.lt_add_one, exitM_lst, exitM_frz, below_lst, below_frz, below_dK, below_scr, below_lsW, below_ins, below_dW, wbelow_val, wbelow_loc, q_append, appA_loc, appW_1, appM_lst, q_lstOfM, lstM_lst, q_lstM, q_rng1, standB_none, standB_some, standM_lst, standM_frz, q_join, joinA_str, q_joined, q_jNil, q_jCons, jW_str, q_star, q_own1, ownW_val, okStr_str, isIns_row, isIns_tool, q_kget, kgetW_str, q_indexC, indexW_lst, q_makeL, mkL_cls, q_cmeth, cmW_cls, q_star1, star1W_cons, q_chain, chainW_bl, chainE_bl, q_eqOwn, fmtF_s, and_self, q_aug, augM_int, q_parN, setAll_cons, setAll_nil, q_never, intF_bl, q_extend, extA_loc, extW_1, extD_lst, extM_lst, q_asgT, uTup_tup, uCons_cons, uNil_nil, uName_eq, uFld_eq, ufW_loc, ufM_ins, fldSW_loc, fldSM_ins, fldW_loc, fldM_ins, look_cons, putW_nil, putW_cons, $ts,*])
variable {ρ : Env'} {μ : Mu}
theorem tail_ok {ns : List Int} {x2 x3 x4 x5 x6 x7 x8 x9 x10 x11 x12 : Option W} {d : Dl} : (mSeq (m_law_p18) (mSeq (m_law_p19) (mSeq (m_law_p20) (mSeq (m_law_p21) (mSeq (m_law_p22) (m_law_p23)))))) (EN ns x2 x3 x4 x5 x6 x7 x8 x9 x10 x11 x12) (MO.lst (List.map D.int (Prod.fst d)) :: MO.lsW [W.loc 0, W.val (D.int (Prod.snd d))] :: ([])) = some (.rt (.val (.bl true)) (MO.lst (List.map D.int (Prod.fst d)) :: MO.lsW [W.loc 0, W.val (D.int (Prod.snd d))] :: ([]))) := by
  kernel_rfl
theorem law_ok (ns : List Int) (hl : ns.length ≤ 63) : f_law [.val (.scr ns)] [] = some (.val (.bl true), []) := by
  obtain ⟨d, hd, hdl⟩ := e_gdeal (a := 36195017) (b := 43) (p := 2147483629) (q := 2147483647) (base := 0) (ns := ns) (by decide) (by decide) (by decide) (by omega)
  have hg : mCall f_law_deal [] (mCons (mVar 0) (mCons (mC (.int 0)) mNil)) [some (.val (.scr ns)), none, none, none, none, none, none, none, none, none, none, none, none] [] = some (.loc 1, (MO.lst (List.map D.int (Prod.fst d)) :: MO.lsW [W.loc 0, W.val (D.int (Prod.snd d))] :: ([]))) := call_of rfl (callX_nil rfl hd)
  obtain ⟨ρ5, μ5, l1, l2⟩ := loop_all (g := hName 2) (b := mCut m_law_2) (c := none) (I := IO ns) (xs := rangeD 0 (10 : Int).toNat) (ρ := EN ns none none none none none none none none none none none) (μ := (MO.lst (List.map D.int (Prod.fst d)) :: MO.lsW [W.loc 0, W.val (D.int (Prod.snd d))] :: ([]))) (by
    rintro x ρ μ hx ⟨d, x2, x3, x4, x5, x6, x7, x8, x9, x10, x11, x12, hd, rfl, rfl⟩
    obtain ⟨ρ2, μ2, i1, i2⟩ := outer (ns := ns) (x2 := some (.val x)) (x3 := x3) (x4 := x4) (x5 := x5) (x6 := x6) (x7 := x7) (x8 := x8) (x9 := x9) (x10 := x10) (x11 := x11) (x12 := x12) hd
    exact ⟨_, ρ2, μ2, rfl, .inl i1, rfl, i2⟩) ⟨d, none, none, none, none, none, none, none, none, none, none, none, by omega, rfl, rfl⟩
  obtain ⟨d4, x2, x3, x4, x5, x6, x7, x8, x9, x10, x11, x12, hd4, rfl, rfl⟩ := l2
  have q1 : m_law_p1 [some (.val (.scr ns)), none, none, none, none, none, none, none, none, none, none, none, none] [] = some (.nx (EN ns none none none none none none none none none none none) (MO.lst (List.map D.int (Prod.fst d)) :: MO.lsW [W.loc 0, W.val (D.int (Prod.snd d))] :: ([]))) := by
    unfold m_law_p1
    rw [q_asg, hg]
    rfl
  have e0 : kRng1 (mCons (mC (.int 10)) mNil) (EN ns none none none none none none none none none none none) (MO.lst (List.map D.int (Prod.fst d)) :: MO.lsW [W.loc 0, W.val (D.int (Prod.snd d))] :: ([])) = some (rangeD 0 (10 : Int).toNat, none, (MO.lst (List.map D.int (Prod.fst d)) :: MO.lsW [W.loc 0, W.val (D.int (Prod.snd d))] :: ([]))) := by
    generalize ((MO.lst (List.map D.int (Prod.fst d)) :: MO.lsW [W.loc 0, W.val (D.int (Prod.snd d))] :: ([])) : Mu) = μ
    unfold EN
    push_cast [rng_ok (k := 10) (by omega) (by omega)]
  have q17 : m_law_p17 (EN ns none none none none none none none none none none none) (MO.lst (List.map D.int (Prod.fst d)) :: MO.lsW [W.loc 0, W.val (D.int (Prod.snd d))] :: ([])) = some (.nx (EN ns x2 x3 x4 x5 x6 x7 x8 x9 x10 x11 x12) (MO.lst (List.map D.int (Prod.fst d4)) :: MO.lsW [W.loc 0, W.val (D.int (Prod.snd d4))] :: ([]))) := by
    unfold m_law_p17
    rw [q_for, e0]
    exact l1
  have hL := seq_nx q1 (seq_nx q17 (tail_ok (ns := ns) (x2 := x2) (x3 := x3) (x4 := x4) (x5 := x5) (x6 := x6) (x7 := x7) (x8 := x8) (x9 := x9) (x10 := x10) (x11 := x11) (x12 := x12) (d := d4)))
  unfold f_law m_law
  generalize mSeq m_law_p1 _ = B at hL ⊢
  push_cast [hL]
end DX.K14
namespace DX.K14
open PySem PySem.Spec PyProof.Rows L2 DK
theorem facts {P : Program} {w : World} {K : PySem.W.Frag} {h : Heap} {mg : Str → Option Value} {f : Addr} (X : K.In h) (G : h.Ns mainGlobals mg) (hfa : mg ("law" : Str) = some (.ref f)) (c : SaysY sy w K) :
    ∃ fd : FuncData, (∀ (s : Shared) (v : Value), BindsTo s fd ⟨[v], []⟩ [("_law_script", v)]) ∧ ∀ base : Heap, K.In base → base.Ns mainGlobals mg → FnG P w K mg base CX0 9 f fd ["_law_script"] (@sp_law K ⟨w, []⟩) := by
  obtain ⟨fd_is_integer, F_is_integer⟩ := c.def_ 0 (y := dq_is_integer) rfl
  obtain ⟨fd_is_number, F_is_number⟩ := c.def_ 1 (y := dq_is_number) rfl
  obtain ⟨fd_is_sequence, F_is_sequence⟩ := c.def_ 2 (y := dq_is_sequence) rfl
  obtain ⟨fd_number_in, F_number_in⟩ := c.def_ 3 (y := dq_number_in) rfl
  obtain ⟨fd_Terms_init, F_Terms_init⟩ := c.def_ 4 (y := dq_Terms_init) rfl
  obtain ⟨fd_Terms_lets, F_Terms_lets⟩ := c.def_ 5 (y := dq_Terms_lets) rfl
  obtain ⟨fd_Terms_but, F_Terms_but⟩ := c.def_ 6 (y := dq_Terms_but) rfl
  obtain ⟨fd_Terms_str, F_Terms_str⟩ := c.def_ 7 (y := dq_Terms_str) rfl
  obtain ⟨fd_parse, F_parse⟩ := c.def_ 8 (y := dq_parse) rfl
  obtain ⟨fd_is_possible, F_is_possible⟩ := c.def_ 9 (y := dq_is_possible) rfl
  obtain ⟨fd_needs_of, F_needs_of⟩ := c.def_ 10 (y := dq_needs_of) rfl
  obtain ⟨fd_Story_init, F_Story_init⟩ := c.def_ 11 (y := dq_Story_init) rfl
  obtain ⟨fd_Story_read, F_Story_read⟩ := c.def_ 12 (y := dq_Story_read) rfl
  obtain ⟨fd_Story_upto, F_Story_upto⟩ := c.def_ 13 (y := dq_Story_upto) rfl
  obtain ⟨fd_Story_len, F_Story_len⟩ := c.def_ 14 (y := dq_Story_len) rfl
  obtain ⟨fd_law_deal, F_law_deal⟩ := c.def_ 15 (y := dq_law_deal) rfl
  obtain ⟨fd_law_draw, F_law_draw⟩ := c.def_ 16 (y := dq_law_draw) rfl
  obtain ⟨fd_law_needs, F_law_needs⟩ := c.def_ 17 (y := dq_law_needs) rfl
  obtain ⟨fd_law_lets, F_law_lets⟩ := c.def_ 18 (y := dq_law_lets) rfl
  obtain ⟨fd_law_pick, F_law_pick⟩ := c.def_ 19 (y := dq_law_pick) rfl
  obtain ⟨fd_law_events, F_law_events⟩ := c.def_ 20 (y := dq_law_events) rfl
  obtain ⟨fd_law_one, F_law_one⟩ := c.def_ 21 (y := dq_law_one) rfl
  obtain ⟨fd_law_less_right, F_law_less_right⟩ := c.def_ 22 (y := dq_law_less_right) rfl
  obtain ⟨fd_law, F_law⟩ := c.def_ 23 (y := dq_law) rfl
  have y0 := xb_all c.x
  letI : HasW K := ⟨w, []⟩
  let T : Tx K mg w := {
    hww := rfl
    f_abs := He.free_ok X G (c.fact 0 (f := .free "abs") rfl)
    f_all := He.free_ok X G (c.fact 1 (f := .free "all") rfl)
    f_bool := He.free_ok X G (c.fact 2 (f := .free "bool") rfl)
    f_enumerate := He.free_ok X G (c.fact 3 (f := .free "enumerate") rfl)
    f_int := He.free_ok X G (c.fact 4 (f := .free "int") rfl)
    f_isinstance := He.free_ok X G (c.fact 5 (f := .free "isinstance") rfl)
    f_len := He.free_ok X G (c.fact 6 (f := .free "len") rfl)
    f_list := He.free_ok X G (c.fact 7 (f := .free "list") rfl)
    f_max := He.free_ok X G (c.fact 8 (f := .free "max") rfl)
    f_range := He.free_ok X G (c.fact 9 (f := .free "range") rfl)
    f_repr := He.free_ok X G (c.fact 10 (f := .free "repr") rfl)
    f_str := He.free_ok X G (c.fact 11 (f := .free "str") rfl)
    f_tuple := He.free_ok X G (c.fact 12 (f := .free "tuple") rfl)
    c_DIGITS := He.str_ok X G (c.fact 13 (f := .str "DIGITS" "0123456789") rfl)
    g_Story := He.glo_ok X G (c.fact 14 (f := .glo "Story") rfl)
    g_Terms := He.glo_ok X G (c.fact 15 (f := .glo "Terms") rfl)
    g_is_integer := He.glo_ok X G (c.fact 16 (f := .glo "is_integer") rfl)
    g_is_number := He.glo_ok X G (c.fact 17 (f := .glo "is_number") rfl)
    g_is_sequence := He.glo_ok X G (c.fact 18 (f := .glo "is_sequence") rfl)
    g_number_in := He.glo_ok X G (c.fact 19 (f := .glo "number_in") rfl)
    mk_Terms := He.mkr_ok (c.fact 20 (f := .mkr "Terms") rfl)
    m_Terms_lets := He.meth_ok (c.fact 21 (f := .meth "Terms" "lets") rfl)
    m_Terms_but := He.meth_ok (c.fact 22 (f := .meth "Terms" "but") rfl)
    g_parse := He.glo_ok X G (c.fact 23 (f := .glo "parse") rfl)
    g_is_possible := He.glo_ok X G (c.fact 24 (f := .glo "is_possible") rfl)
    g_needs_of := He.glo_ok X G (c.fact 25 (f := .glo "needs_of") rfl)
    mk_Story := He.mkr_ok (c.fact 26 (f := .mkr "Story") rfl)
    m_Story_upto := He.meth_ok (c.fact 27 (f := .meth "Story" "upto") rfl)
    g_law_deal := He.glo_ok X G (c.fact 28 (f := .glo "_law_deal") rfl)
    g_law_draw := He.glo_ok X G (c.fact 29 (f := .glo "_law_draw") rfl)
    g_law_needs := He.glo_ok X G (c.fact 30 (f := .glo "_law_needs") rfl)
    g_law_lets := He.glo_ok X G (c.fact 31 (f := .glo "_law_lets") rfl)
    g_law_pick := He.glo_ok X G (c.fact 32 (f := .glo "_law_pick") rfl)
    g_law_events := He.glo_ok X G (c.fact 33 (f := .glo "_law_events") rfl)
    g_law_one := He.glo_ok X G (c.fact 34 (f := .glo "_law_one") rfl)
    g_law_less_right := He.glo_ok X G (c.fact 35 (f := .glo "_law_less_right") rfl)
    g_law := He.glo_ok X G (c.fact 36 (f := .glo "law") rfl)
    cl_Story := He.cls_ok (c.fact 37 (f := .cls "Story") rfl)
    cl_Terms := He.cls_ok (c.fact 38 (f := .cls "Terms") rfl)
    ck_Story := clsB_ok (xb_at y0 0 _ rfl)
    ck_Terms := clsB_ok (xb_at y0 1 _ rfl)
    na_Story_events := na1 (xb_at y0 2 _ rfl)
    na_Story_needs := na1 (xb_at y0 3 _ rfl)
    na_Story_parsed := na1 (xb_at y0 4 _ rfl)
    na_Terms_elder := na1 (xb_at y0 5 _ rfl)
    na_Terms_house := na1 (xb_at y0 6 _ rfl)
    na_Terms_skips := na1 (xb_at y0 7 _ rfl)
    cr_Story := crB_ok (xb_at y0 8 _ rfl)
    cm_Story_read := cmB_ok (xb_at y0 9 _ rfl)
    fs_Story_len := fsB_ok (xb_at y0 10 _ rfl)
    fs_Terms_str := fsB_ok (xb_at y0 11 _ rfl)
    dt_Story_init_0 := tup0B_ok (xb_at y0 12 _ rfl)
    fd_is_integer := fd_is_integer
    F_is_integer := F_is_integer
    fd_is_number := fd_is_number
    F_is_number := F_is_number
    fd_is_sequence := fd_is_sequence
    F_is_sequence := F_is_sequence
    fd_number_in := fd_number_in
    F_number_in := F_number_in
    fd_Terms_init := fd_Terms_init
    F_Terms_init := F_Terms_init
    fd_Terms_lets := fd_Terms_lets
    F_Terms_lets := F_Terms_lets
    fd_Terms_but := fd_Terms_but
    F_Terms_but := F_Terms_but
    fd_Terms_str := fd_Terms_str
    F_Terms_str := F_Terms_str
    fd_parse := fd_parse
    F_parse := F_parse
    fd_is_possible := fd_is_possible
    F_is_possible := F_is_possible
    fd_needs_of := fd_needs_of
    F_needs_of := F_needs_of
    fd_Story_init := fd_Story_init
    F_Story_init := F_Story_init
    fd_Story_read := fd_Story_read
    F_Story_read := F_Story_read
    fd_Story_upto := fd_Story_upto
    F_Story_upto := F_Story_upto
    fd_Story_len := fd_Story_len
    F_Story_len := F_Story_len
    fd_law_deal := fd_law_deal
    F_law_deal := F_law_deal
    fd_law_draw := fd_law_draw
    F_law_draw := F_law_draw
    fd_law_needs := fd_law_needs
    F_law_needs := F_law_needs
    fd_law_lets := fd_law_lets
    F_law_lets := F_law_lets
    fd_law_pick := fd_law_pick
    F_law_pick := F_law_pick
    fd_law_events := fd_law_events
    F_law_events := F_law_events
    fd_law_one := fd_law_one
    F_law_one := F_law_one
    fd_law_less_right := fd_law_less_right
    F_law_less_right := F_law_less_right
    fd_law := fd_law
    F_law := F_law
    }
  have e := hfa.symm.trans (He.glo_ok X G (c.fact 36 (f := .glo "law") rfl))
  cases e
  have b := FunD.bindsA (ps := ["_law_script"]) F_law fun _ _ _ _ _ _ us hl => match us, hl with | [_], _ => rfl
  exact ⟨fd_law, fun s v => b s [v] rfl, fun base _ _ => ok_law T⟩
end DX.K14
open PySem PySem.W PySem.Calls PyProof.Rows
theorem PySem.Challenge.cw_deskcards_k14_terms_and_stories_holds : PySem.Challenge.rw_deskcards_k14_terms_and_stories.Holds := by
  w_on; o_law
  refine HandSHeadRun.head_any (r := OpenLaw.row PySem.Challenge.rw_deskcards_k14_terms_and_stories) (q := view (OpenLaw.row PySem.Challenge.rw_deskcards_k14_terms_and_stories).prog [28]) (H := DX.K14.hk) (ob := DX.K14.ob) (M := 20000) (loose := DX.K14.names) (d := HandSHeadRun.topDef (OpenLaw.row PySem.Challenge.rw_deskcards_k14_terms_and_stories).prog 28) (kwd := []) DX.K14.ob_eq
    (by kernel_rfl) (fun s => by kernel_rfl) DX.K14.run (by kernel_rfl) (by kernel_rfl) (by kernel_rfl) (by rfl) (by first | assumption | decide +kernel) (by decide +kernel) ⟨rfl, rfl, rfl, rfl, rfl, by decide +kernel⟩ ?hw ?hc
  case hw => w_witness2
  case hc =>
    refine DK.walk_G (l := PySem.Challenge.rw_deskcards_k14_terms_and_stories) (n := 63) (k := 9) (xn := "_law_script") (CX := L2.CX0) rfl (by decide) (by kernel_rfl) ⟨rfl, by decide, by decide⟩ ?F (fun _ _ _ _ z => z)
    intro w mg fa h Y G hmg0
    obtain ⟨K, KX, c⟩ := Y
    have hmg : mg ("law" : PySem.Str) = some (.ref fa) := by
      have e : (HandSHeadRun.topDef (OpenLaw.row PySem.Challenge.rw_deskcards_k14_terms_and_stories).prog 28).name = ("law" : PySem.Str) := by kernel_rfl
      rw [← e]
      exact hmg0
    obtain ⟨fd, hb, hF⟩ := DX.K14.facts (P := (PySem.Challenge.rw_deskcards_k14_terms_and_stories).prog) (w := w) KX G hmg c
    exact ⟨K, fd, @DX.K14.sp_law K ⟨w, []⟩, KX, hb, fun H a ns hl hS => @DX.law_spF K ⟨w, []⟩ _ _ _ _ (DX.K14.law_ok ns hl) hS rfl, hF⟩
