import PyProof.Rows.All
import Wide.All
import OpenK.AllK
import Wide.FinOn
import KE.KStateDown
import HandS.ForMost
import HandS.HeadHook2
import HandS.IsInst
import HandS.TupAny
import HandS.TupMul
import HandS.Style
import HandS.RaiseMore
import HandS.FStr
import HandS.Steps
import HandS.Set
import HandS.SetBool
import HandS.Codes
import HandS.Star
import HandS.DictComp
import HandS.Flow
import KE.GoesEnum
import HandS.Head0
import HandS.Head1
import HandS.Head2
import HandS.HeadEnd
import HandS.HeadHook1
import PyProof.ReprRoads
import PyProof.StrLawsRepr
import HandS.Deep
import KE.KAssignIn
import PyProof.P3In
import HandS.More
import HandS.SlotsOwn
import PyProof.CallStr
import PyProof.Rows.Range3
import KE.KUnpack
import PyProof.CollectIter
import HandS.Exc
import HandS.ClsMeth
import HandS.ExcValue
import HandS.HeadHook3
import PySem.Challenge.RW_deskcards_k09_tools_answer
set_option Elab.async false
set_option linter.all false
set_option maxRecDepth 100000
set_option maxHeartbeats 0
/-! DK0: data D over the hand layer's heap, judgements Ev (expressions), Ex (statements). -/
namespace DK
open PySem PySem.Spec L2

inductive D where
  | non | bl (b : Bool) | int (i : Int) | str (s : Str) | tup (xs : List D) | lst (xs : List D)
  | obj (c : Str) (ns : List Str) (xs : List D) | ty (n : String) | cls (c : Str) | scr (ns : List Int)

abbrev SB : Nat := 90000
abbrev LB : Nat := 100000
/-- a text: not too long, of code points -/
def sOk (s : Str) : Prop := s.length ≤ SB ∧ s.cps.all (· < 0x110000) = true

/-- what of the text is wanted of a class of its own -/
structure ClsOk (K : PySem.W.Frag) (C : Addr) : Prop where
  cl : Cls K C
  ha : PySem.W.findIn K (.ref C) "__class__" = some (some (.builtin "object.__class__"))
  hn : PySem.W.specialIn K (.builtin "object.__class__") "__get__" = some (some (.builtin "getset_descriptor.__get__"))
  htk : PySem.W.takesIn K (.builtin "object.__class__") = some true
  hm : PySem.W.mroIn K C (.type "object") = some true
  no : ∀ T : String, T ∈ ["int", "bool", "str", "list", "tuple"] → PySem.W.kitOne K (.ref C) (.type T) = some false

section
variable (K : PySem.W.Frag) (G : Hp)
mutual
def Rep : D → V → Prop
  | .non, v => v = .non
  | .bl b, v => v = .bl b
  | .int i, v => v = .int i
  | .str s, v => v = .str s ∧ sOk s
  | .tup xs, v => xs.length ≤ LB ∧ ∃ a vs, v = .ref a ∧ SqT K G a vs ∧ RepL xs vs
  | .lst xs, v => xs.length ≤ LB ∧ ∃ a vs, v = .ref a ∧ G a = some (.lst vs) ∧ RepL xs vs
  | .obj c ns xs, v => ClsOk K (He.ga K c) ∧ ∃ a dx vs, v = .ref a ∧ G a = some (.ins (He.ga K c) dx (ns.zip vs)) ∧ ns.length = xs.length ∧ RepL xs vs
  | .ty n, v => v = .ty n
  | .cls c, v => v = .ref (He.ga K c)
  | .scr ns, v => ∃ a, v = .ref a ∧ SqL K G a (ns.map V.int)
def RepL : List D → List V → Prop
  | [], vs => vs = []
  | d :: ds, vs => ∃ v r, vs = v :: r ∧ Rep d v ∧ RepL ds r
end
end

section
variable {K : PySem.W.Frag} {G G' : Hp}
theorem same_sql {a : Addr} {xs : List V} (e : Same G G') (h : SqL K G a xs) : SqL K G' a xs := by
  rcases h with (h | ⟨o, h⟩) | h
  · exact .inl (.inl (e _ _ h))
  · exact .inl (.inr ⟨o, e _ _ h⟩)
  · exact .inr h
theorem same_sqt {a : Addr} {xs : List V} (e : Same G G') (h : SqT K G a xs) : SqT K G' a xs := by
  rcases h with (h | ⟨o, h⟩) | h
  · exact .inl (.inl (e _ _ h))
  · exact .inl (.inr ⟨o, e _ _ h⟩)
  · exact .inr h
mutual
theorem Rep.mono (e : Same G G') : ∀ (d : D) (v : V), Rep K G d v → Rep K G' d v
  | .non, _, h => h
  | .bl _, _, h => h
  | .int _, _, h => h
  | .str _, _, h => h
  | .tup xs, _, ⟨z, a, vs, ev, h, r⟩ => ⟨z, a, vs, ev, same_sqt e h, RepL.mono e xs vs r⟩
  | .lst xs, _, ⟨z, a, vs, ev, h, r⟩ => ⟨z, a, vs, ev, e _ _ h, RepL.mono e xs vs r⟩
  | .obj _ _ xs, _, ⟨k, a, dx, vs, ev, h, n, r⟩ => ⟨k, a, dx, vs, ev, e _ _ h, n, RepL.mono e xs vs r⟩
  | .ty _, _, h => h
  | .cls _, _, h => h
  | .scr _, _, ⟨a, e, h⟩ => ⟨a, e, same_sql ‹_› h⟩
theorem RepL.mono (e : Same G G') : ∀ (ds : List D) (vs : List V), RepL K G ds vs → RepL K G' ds vs
  | [], _, h => h
  | d :: ds, _, ⟨v, r, ev, h1, h2⟩ => ⟨v, r, ev, Rep.mono e d v h1, RepL.mono e ds r h2⟩
end
theorem RepL.length : ∀ {ds : List D} {vs : List V}, RepL K G ds vs → vs.length = ds.length
  | [], _, h => by rw [h]; rfl
  | _ :: _, _, ⟨_, _, e, _, h⟩ => by rw [e, List.length_cons, List.length_cons, RepL.length h]
theorem RepL.nil : RepL K G [] [] := rfl
theorem RepL.cons {d : D} {ds : List D} {v : V} {vs : List V} (h : Rep K G d v) (t : RepL K G ds vs) : RepL K G (d :: ds) (v :: vs) := ⟨v, vs, rfl, h, t⟩
theorem RepL.append : ∀ {ds es : List D} {vs us : List V}, RepL K G ds vs → RepL K G es us → RepL K G (ds ++ es) (vs ++ us)
  | [], _, _, _, h, k => by rw [show _ = [] from h]; exact k
  | _ :: _, _, _, _, ⟨v, r, e, h1, h2⟩, k => by rw [e]; exact ⟨v, r ++ _, rfl, h1, RepL.append h2 k⟩
theorem RepL.get : ∀ {ds : List D} {vs : List V} {i : Nat} {d : D}, RepL K G ds vs → ds[i]? = some d → ∃ v, vs[i]? = some v ∧ Rep K G d v
  | [], _, _, _, _, e => by simp at e
  | _ :: _, _, 0, _, ⟨v, r, ev, h1, _⟩, e => by
    subst ev
    simp at e
    subst e
    exact ⟨v, rfl, h1⟩
  | _ :: _, _, i + 1, d, ⟨v, r, ev, _, h2⟩, e => by
    subst ev
    obtain ⟨u, q1, q2⟩ := RepL.get (i := i) (d := d) h2 (by simpa using e)
    exact ⟨u, by simpa using q1, q2⟩
theorem RepL.getR : ∀ {ds : List D} {vs : List V} {i : Nat} {v : V}, RepL K G ds vs → vs[i]? = some v → ∃ d, ds[i]? = some d ∧ Rep K G d v
  | [], _, _, _, h, e => by
    rw [show _ = [] from h] at e
    simp at e
  | d :: _, _, 0, _, ⟨v, r, ev, h1, _⟩, e => by
    subst ev
    simp at e
    subst e
    exact ⟨d, rfl, h1⟩
  | _ :: _, _, i + 1, w, ⟨v, r, ev, _, h2⟩, e => by
    subst ev
    obtain ⟨u, q1, q2⟩ := RepL.getR (i := i) (v := w) h2 (by simpa using e)
    exact ⟨u, by simpa using q1, q2⟩
theorem RepL.take : ∀ {ds : List D} {vs : List V} (n : Nat), RepL K G ds vs → RepL K G (ds.take n) (vs.take n)
  | [], _, n, h => by
    rw [show _ = [] from h]
    simp [RepL]
  | _ :: _, _, 0, ⟨v, r, ev, _, _⟩ => rfl
  | _ :: _, _, n + 1, ⟨v, r, ev, h1, h2⟩ => by
    subst ev
    exact ⟨v, _, rfl, h1, RepL.take n h2⟩
theorem RepL.drop : ∀ {ds : List D} {vs : List V} (n : Nat), RepL K G ds vs → RepL K G (ds.drop n) (vs.drop n)
  | [], _, n, h => by
    rw [show _ = [] from h]
    simp [RepL]
  | _ :: _, _, 0, h => h
  | _ :: _, _, n + 1, ⟨v, r, ev, h1, h2⟩ => by
    subst ev
    exact RepL.drop n h2
theorem RepL.reverse : ∀ {ds : List D} {vs : List V}, RepL K G ds vs → RepL K G ds.reverse vs.reverse
  | [], _, h => by rw [show _ = [] from h]; rfl
  | d :: ds, _, ⟨v, r, ev, h1, h2⟩ => by
    subst ev
    rw [List.reverse_cons, List.reverse_cons]
    exact RepL.append (RepL.reverse h2) (RepL.cons h1 RepL.nil)
theorem RepL.strs : ∀ {ss : List Str} {vs : List V}, RepL K G (ss.map D.str) vs → vs = ss.map V.str ∧ ∀ s ∈ ss, sOk s
  | [], _, h => ⟨h, fun _ hs => by cases hs⟩
  | s :: ss, _, ⟨v, r, ev, ⟨h1, h1'⟩, h2⟩ => by
    obtain ⟨e, k⟩ := RepL.strs h2
    subst ev h1 e
    refine ⟨rfl, fun x hx => ?_⟩
    rcases List.mem_cons.mp hx with rfl | hx
    · exact h1'
    · exact k x hx
theorem RepL.ofStrs : ∀ {ss : List Str}, (∀ s ∈ ss, sOk s) → RepL K G (ss.map D.str) (ss.map V.str)
  | [], _ => rfl
  | s :: ss, h => ⟨.str s, _, rfl, ⟨rfl, h s (List.mem_cons_self)⟩, RepL.ofStrs fun x hx => h x (List.mem_cons_of_mem _ hx)⟩
theorem RepL.ints : ∀ {ns : List Int} {vs : List V}, RepL K G (ns.map D.int) vs → vs = ns.map V.int
  | [], _, h => h
  | _ :: _, _, ⟨v, r, ev, h1, h2⟩ => by
    have e := RepL.ints h2
    subst ev e
    rw [show v = _ from h1]
    rfl
theorem RepL.ofInts : ∀ {ns : List Int}, RepL K G (ns.map D.int) (ns.map V.int)
  | [] => rfl
  | n :: ns => ⟨.int n, _, rfl, rfl, RepL.ofInts⟩
theorem RepL.bls : ∀ {bs : List Bool} {vs : List V}, RepL K G (bs.map D.bl) vs → vs = bs.map V.bl
  | [], _, h => h
  | _ :: _, _, ⟨v, r, ev, h1, h2⟩ => by
    have e := RepL.bls h2
    subst ev e
    rw [show v = _ from h1]
    rfl
end

/-- a value of an expression: data, or a mutable thing of the store -/
inductive W where
  | val (d : D) | loc (j : Nat)
/-- a mutable thing: lst a list of data; frz one that changes no more; lsW a list with locations; ins an instance; dK a dict; scr the script; gone; dW a dict with texts as keys and locations -/
inductive MO where
  | lst (xs : List D) | frz (xs : List D) | lsW (ws : List W) | ins (c : Str) (fs : List (Str × W)) | dK (kvs : List (Key × D)) | scr (ns : List Int) | gone | raw (o : HO) | dW (kvs : List (Str × W))

abbrev Env' := List (Option W)
abbrev Mu := List MO

def W.below (n : Nat) : W → Bool
  | .val _ => true
  | .loc j => decide (j < n)
def MO.below (n : Nat) : MO → Bool
  | .lsW ws => ws.all (W.below n)
  | .ins _ fs => fs.all fun p => p.2.below n
  | .dW fs => fs.all fun p => p.2.below n
  | _ => true

section
variable (K : PySem.W.Frag) (G H : Hp) (as : List Addr)
def RepW : W → V → Prop
  | .val d, v => Rep K G d v
  | .loc j, v => ∃ a, as[j]? = some a ∧ v = .ref a
def RepWs : List W → List V → Prop
  | [], vs => vs = []
  | w :: ws, vs => ∃ v r, vs = v :: r ∧ RepW K G as w v ∧ RepWs ws r
def RepFs : List (Str × W) → List (Str × V) → Prop
  | [], vs => vs = []
  | (f, w) :: ws, vs => ∃ v r, vs = (f, v) :: r ∧ RepW K G as w v ∧ RepFs ws r
def RepK : List (Key × D) → List (Key × V) → Prop
  | [], vs => vs = []
  | (k, d) :: ks, vs => ∃ v r, vs = (k, v) :: r ∧ Rep K G d v ∧ RepK ks r
def kS (p : Str × V) : Key × V := (.inr p.1, p.2)
def MOk (a : Addr) : MO → Prop
  | .lst xs => G a = none ∧ xs.length ≤ LB ∧ ∃ vs, H a = some (.lst vs) ∧ RepL K G xs vs
  | .frz xs => xs.length ≤ LB ∧ ∃ vs, G a = some (.lst vs) ∧ RepL K G xs vs
  | .lsW ws => G a = none ∧ ws.length ≤ LB ∧ ∃ vs, H a = some (.lst vs) ∧ RepWs K G as ws vs
  | .ins c fs => G a = none ∧ fs.length ≤ 100 ∧ ∃ dx vs, H a = some (.ins (He.ga K c) dx vs) ∧ RepFs K G as fs vs
  | .dK kvs => G a = none ∧ kvs.length ≤ LB ∧ ∃ vs, H a = some (.dK vs) ∧ RepK K G kvs vs
  | .scr ns => G a = none ∧ H a ≠ none ∧ SqL K H a (ns.map V.int)
  | .gone => H a ≠ none
  | .raw o => G a = none ∧ H a = some o
  | .dW fs => G a = none ∧ fs.length ≤ 100 ∧ ∃ vs : List (Str × V), H a = some (.dK (vs.map kS)) ∧ RepFs K G as fs vs
structure Rl (P : Addr → Prop) (ρ : Env') (μ : Mu) (σ : St) : Prop where
  sub : Same G H
  pro : ∀ a, P a → G a = none ∧ H a ≠ none ∧ a ∉ as
  nd : as.Nodup
  len : as.length = μ.length
  mu : ∀ (j : Nat) (a : Addr) (m : MO), as[j]? = some a → μ[j]? = some m → MOk K G H as a m
  wf : ∀ m : MO, m ∈ μ → m.below μ.length = true
  sz : ρ.length = σ.length
  env : ∀ (i : Nat) (w : W), ρ[i]? = some (some w) → ∃ v, σ[i]? = some (some v) ∧ RepW K G as w v
end
/-- what a step keeps -/
structure Nx (P : Addr → Prop) (as : List Addr) (G H : Hp) (as' : List Addr) (G' H' : Hp) : Prop where
  pre : ∃ t, as' = as ++ t
  gr : Same G G'
  kp : ∀ a, P a → H' a = H a
theorem Nx.refl {P : Addr → Prop} {as : List Addr} {G H : Hp} : Nx P as G H as G H := ⟨⟨[], by simp⟩, Same.refl _, fun _ _ => rfl⟩
theorem Nx.trans {P : Addr → Prop} {as as1 as2 : List Addr} {G G1 G2 H H1 H2 : Hp} (a : Nx P as G H as1 G1 H1) (b : Nx P as1 G1 H1 as2 G2 H2) : Nx P as G H as2 G2 H2 := by
  obtain ⟨t, e⟩ := a.pre
  obtain ⟨u, f⟩ := b.pre
  exact ⟨⟨t ++ u, by rw [f, e, List.append_assoc]⟩, a.gr.trans b.gr, fun x hx => (b.kp x hx).trans (a.kp x hx)⟩
theorem at_pre {α : Type} {as as' : List α} {j : Nat} {a : α} (p : ∃ t, as' = as ++ t) (h : as[j]? = some a) : as'[j]? = some a := by
  obtain ⟨t, e⟩ := p
  rw [e, List.getElem?_append_left (List.getElem?_eq_some_iff.mp h).1]
  exact h

section
variable {K : PySem.W.Frag} {G G' H H' : Hp} {as as' : List Addr} {P : Addr → Prop} {ρ : Env'} {μ : Mu} {σ : St}
theorem RepW.mono {w : W} {v : V} (e : Same G G') (p : ∃ t, as' = as ++ t) (h : RepW K G as w v) : RepW K G' as' w v := by
  cases w with
  | val d => exact Rep.mono e d v h
  | loc j =>
    obtain ⟨a, q, ev⟩ := h
    exact ⟨a, at_pre p q, ev⟩
theorem RepWs.mono (e : Same G G') (p : ∃ t, as' = as ++ t) : ∀ {ws : List W} {vs : List V}, RepWs K G as ws vs → RepWs K G' as' ws vs
  | [], _, h => h
  | _ :: _, _, ⟨v, r, ev, h1, h2⟩ => ⟨v, r, ev, h1.mono e p, RepWs.mono e p h2⟩
theorem RepFs.mono (e : Same G G') (p : ∃ t, as' = as ++ t) : ∀ {ws : List (Str × W)} {vs : List (Str × V)}, RepFs K G as ws vs → RepFs K G' as' ws vs
  | [], _, h => h
  | (_, _) :: _, _, ⟨v, r, ev, h1, h2⟩ => ⟨v, r, ev, h1.mono e p, RepFs.mono e p h2⟩
theorem RepK.mono (e : Same G G') : ∀ {ks : List (Key × D)} {vs : List (Key × V)}, RepK K G ks vs → RepK K G' ks vs
  | [], _, h => h
  | (_, d) :: _, _, ⟨v, r, ev, h1, h2⟩ => ⟨v, r, ev, Rep.mono e d v h1, RepK.mono e h2⟩
theorem RepWs.vals : ∀ {ds : List D} {vs : List V}, RepWs K G as (ds.map W.val) vs ↔ RepL K G ds vs
  | [], _ => Iff.rfl
  | _ :: _, _ => ⟨fun ⟨v, r, ev, h1, h2⟩ => ⟨v, r, ev, h1, RepWs.vals.mp h2⟩, fun ⟨v, r, ev, h1, h2⟩ => ⟨v, r, ev, h1, RepWs.vals.mpr h2⟩⟩
theorem RepWs.length : ∀ {ws : List W} {vs : List V}, RepWs K G as ws vs → vs.length = ws.length
  | [], _, h => by rw [h]; rfl
  | _ :: _, _, ⟨_, _, e, _, h⟩ => by rw [e, List.length_cons, List.length_cons, RepWs.length h]
theorem MOk.here {a : Addr} {m : MO} (h : MOk K G H as a m) (s : Same G H) : H a ≠ none := by
  cases m with
  | lst xs => obtain ⟨_, _, vs, e, _⟩ := h; rw [e]; simp
  | frz xs => obtain ⟨_, vs, e, _⟩ := h; rw [s _ _ e]; simp
  | lsW ws => obtain ⟨_, _, vs, e, _⟩ := h; rw [e]; simp
  | ins c fs => obtain ⟨_, _, dx, vs, e, _⟩ := h; rw [e]; simp
  | dK kvs => obtain ⟨_, _, vs, e, _⟩ := h; rw [e]; simp
  | scr ns => exact h.2.1
  | gone => exact h
  | raw o => rw [h.2]; simp
  | dW fs => obtain ⟨_, _, vs, e, _⟩ := h; rw [e]; simp
theorem Rl.here (R : Rl K G H as P ρ μ σ) {a : Addr} (h : a ∈ as) : H a ≠ none := by
  obtain ⟨j, hj, e⟩ := List.getElem_of_mem h
  have hm : j < μ.length := R.len ▸ hj
  exact (R.mu j a _ (by rw [← e]; exact List.getElem?_eq_getElem hj) (List.getElem?_eq_getElem hm)).here R.sub
/-- G grows, what H holds at the mutable things stays -/
theorem MOk.mono {a : Addr} {m : MO} (h : MOk K G H as a m) (e : Same G G') (n : G a = none → G' a = none) (k : H' a = H a) (p : ∃ t, as' = as ++ t) : MOk K G' H' as' a m := by
  cases m with
  | lst xs => obtain ⟨g, z, vs, q, r⟩ := h; exact ⟨n g, z, vs, k.trans q, RepL.mono e _ _ r⟩
  | frz xs => obtain ⟨z, vs, q, r⟩ := h; exact ⟨z, vs, e _ _ q, RepL.mono e _ _ r⟩
  | lsW ws => obtain ⟨g, z, vs, q, r⟩ := h; exact ⟨n g, z, vs, k.trans q, r.mono e p⟩
  | ins c fs => obtain ⟨g, z, dx, vs, q, r⟩ := h; exact ⟨n g, z, dx, vs, k.trans q, r.mono e p⟩
  | dK kvs => obtain ⟨g, z, vs, q, r⟩ := h; exact ⟨n g, z, vs, k.trans q, r.mono e⟩
  | scr ns =>
    obtain ⟨g, z, q⟩ := h
    refine ⟨n g, k ▸ z, ?_⟩
    rcases q with (q | ⟨o, q⟩) | q
    · exact .inl (.inl (k.trans q))
    · exact .inl (.inr ⟨o, k.trans q⟩)
    · exact .inr q
  | gone => show H' a ≠ none; rw [k]; exact h
  | raw o => exact ⟨n h.1, k.trans h.2⟩
  | dW fs => obtain ⟨g, z, vs, q, r⟩ := h; exact ⟨n g, z, vs, k.trans q, r.mono e p⟩
/-- a new thing that never changes -/
theorem Rl.imm (R : Rl K G H as P ρ μ σ) {p : Addr} (hp : H p = none) (o : HO) : Rl K (upd G p o) (upd H p o) as P ρ μ σ ∧ Nx P as G H as (upd G p o) (upd H p o) := by
  have gp : G p = none := R.sub.free hp
  have e : Same G (upd G p o) := fun b u h => by rw [upd_ne (ne_of_none h gp)]; exact h
  have ne : ∀ {a}, H a ≠ none → a ≠ p := fun h z => h (by rw [z]; exact hp)
  refine ⟨⟨fun b u h => ?_, fun a h => ?_, R.nd, R.len, fun j a m h1 h2 => ?_, R.wf, R.sz, fun i w h => ?_⟩, ⟨⟨[], by simp⟩, e, fun a h => upd_ne (ne (R.pro a h).2.1)⟩⟩
  · by_cases q : b = p
    · subst q
      rw [upd_same] at h ⊢
      exact h
    · rw [upd_ne q] at h ⊢
      exact R.sub _ _ h
  · obtain ⟨h1, h2, h3⟩ := R.pro a h
    exact ⟨by rw [upd_ne (ne h2)]; exact h1, by rw [upd_ne (ne h2)]; exact h2, h3⟩
  · have q := R.mu j a m h1 h2
    have z := ne (q.here R.sub)
    exact q.mono e (fun g => by rw [upd_ne z]; exact g) (upd_ne z) ⟨[], by simp⟩
  · obtain ⟨v, h1, h2⟩ := R.env i w h
    exact ⟨v, h1, h2.mono e ⟨[], by simp⟩⟩
theorem below_mono {m n : Nat} (h : m ≤ n) {o : MO} (q : o.below m = true) : o.below n = true := by
  have hw : ∀ w : W, w.below m = true → w.below n = true := fun w hw => by
    cases w with
    | val d => rfl
    | loc j => exact decide_eq_true (Nat.lt_of_lt_of_le (of_decide_eq_true hw) h)
  cases o with
  | lsW ws => exact List.all_eq_true.mpr fun w hm => hw w (List.all_eq_true.mp q w hm)
  | ins c fs => exact List.all_eq_true.mpr fun w hm => hw w.2 (List.all_eq_true.mp q w hm)
  | dW fs => exact List.all_eq_true.mpr fun w hm => hw w.2 (List.all_eq_true.mp q w hm)
  | _ => rfl
/-- a new mutable thing -/
theorem Rl.mut (R : Rl K G H as P ρ μ σ) {p : Addr} (hp : H p = none) {o : HO} {m : MO} (hm : MOk K G (upd H p o) (as ++ [p]) p m) (hb : m.below (μ.length + 1) = true) :
    Rl K G (upd H p o) (as ++ [p]) P ρ (μ ++ [m]) σ ∧ Nx P as G H (as ++ [p]) G (upd H p o) := by
  have gp : G p = none := R.sub.free hp
  have ne : ∀ {a}, H a ≠ none → a ≠ p := fun h z => h (by rw [z]; exact hp)
  have pin : p ∉ as := fun z => R.here z hp
  refine ⟨⟨fun b u h => ?_, fun a h => ?_, ?_, by simp [R.len], fun j a k h1 h2 => ?_, fun k hk => ?_, R.sz, fun i w h => ?_⟩, ⟨⟨[p], rfl⟩, Same.refl _, fun a h => upd_ne (ne (R.pro a h).2.1)⟩⟩
  · rw [upd_ne (ne_of_none h gp)]
    exact R.sub _ _ h
  · obtain ⟨h1, h2, h3⟩ := R.pro a h
    refine ⟨h1, by rw [upd_ne (ne h2)]; exact h2, fun z => ?_⟩
    rcases List.mem_append.mp z with z | z
    · exact h3 z
    · exact ne h2 (by simpa using z)
  · refine List.nodup_append.mpr ⟨R.nd, by simp, fun a ha b hb => ?_⟩
    have : b = p := by simpa using hb
    subst this
    exact fun z => pin (z ▸ ha)
  · by_cases q : j < as.length
    · rw [List.getElem?_append_left q] at h1
      rw [List.getElem?_append_left (R.len ▸ q)] at h2
      have z := R.mu j a k h1 h2
      exact z.mono (Same.refl _) id (upd_ne (ne (z.here R.sub))) ⟨[p], rfl⟩
    · have hj : j = as.length := by
        have := (List.getElem?_eq_some_iff.mp h1).1
        simp at this
        omega
      subst hj
      rw [List.getElem?_append_right (Nat.le_refl _)] at h1
      rw [List.getElem?_append_right (by rw [R.len]; exact Nat.le_refl _)] at h2
      simp at h1
      rw [R.len] at h2
      simp at h2
      subst h1 h2
      exact hm
  · rw [List.length_append, List.length_singleton]
    rcases List.mem_append.mp hk with z | z
    · exact below_mono (Nat.le_succ _) (R.wf k z)
    · have : k = m := by simpa using z
      subst this
      exact hb
  · obtain ⟨v, h1, h2⟩ := R.env i w h
    exact ⟨v, h1, h2.mono (Same.refl _) ⟨[p], rfl⟩⟩
/-- a mutable thing changes -/
theorem Rl.put (R : Rl K G H as P ρ μ σ) {j : Nat} {a : Addr} {o : HO} {m m' : MO} (ha : as[j]? = some a) (hm : μ[j]? = some m) (hg : G a = none) (h : MOk K G (upd H a o) as a m') (hb : m'.below μ.length = true) :
    Rl K G (upd H a o) as P ρ (μ.set j m') σ ∧ Nx P as G H as G (upd H a o) := by
  have inA : a ∈ as := List.mem_of_getElem? ha
  have neP : ∀ {b}, P b → b ≠ a := fun hp z => (R.pro _ hp).2.2 (z ▸ inA)
  refine ⟨⟨fun b u q => ?_, fun b hp => ?_, R.nd, by rw [List.length_set]; exact R.len, fun i b k h1 h2 => ?_, fun k hk => ?_, R.sz, R.env⟩, ⟨⟨[], by simp⟩, Same.refl _, fun b hp => upd_ne (neP hp)⟩⟩
  · rw [upd_ne (ne_of_none q hg)]
    exact R.sub _ _ q
  · obtain ⟨h1, h2, h3⟩ := R.pro b hp
    exact ⟨h1, by rw [upd_ne (neP hp)]; exact h2, h3⟩
  · by_cases q : i = j
    · subst q
      rw [ha] at h1
      cases h1
      rw [List.getElem?_set_self (List.getElem?_eq_some_iff.mp hm).1] at h2
      cases h2
      exact h
    · rw [List.getElem?_set_ne (fun z => q z.symm)] at h2
      have ne : b ≠ a := fun z => by
        subst z
        exact q ((List.getElem?_inj (List.getElem?_eq_some_iff.mp h1).1 R.nd).mp (h1.trans ha.symm))
      exact (R.mu i b k h1 h2).mono (Same.refl _) id (upd_ne ne) ⟨[], by simp⟩
  · rw [List.length_set]
    rcases List.mem_or_eq_of_mem_set hk with z | z
    · exact R.wf k z
    · rw [z]
      exact hb
/-- a list changes no more -/
theorem Rl.freeze (R : Rl K G H as P ρ μ σ) {j : Nat} {xs : List D} (hm : μ[j]? = some (.lst xs)) : ∃ a vs, as[j]? = some a ∧ Rl K (upd G a (.lst vs)) H as P ρ (μ.set j (.frz xs)) σ ∧ Nx P as G H as (upd G a (.lst vs)) H ∧ Rep K (upd G a (.lst vs)) (.lst xs) (.ref a) := by
  have hj : j < as.length := by rw [R.len]; exact (List.getElem?_eq_some_iff.mp hm).1
  obtain ⟨a, ha⟩ : ∃ a, as[j]? = some a := ⟨_, List.getElem?_eq_getElem hj⟩
  obtain ⟨g, z, vs, q, r⟩ := R.mu j a _ ha hm
  have inA : a ∈ as := List.mem_of_getElem? ha
  have e : Same G (upd G a (.lst vs)) := fun b u h => by rw [upd_ne (ne_of_none h g)]; exact h
  refine ⟨a, vs, ha, ⟨fun b u h => ?_, fun b hp => ?_, R.nd, by rw [List.length_set]; exact R.len, fun i b k h1 h2 => ?_, fun k hk => ?_, R.sz, fun i w h => ?_⟩, ⟨⟨[], by simp⟩, e, fun _ _ => rfl⟩, z, a, vs, rfl, upd_same, RepL.mono e _ _ r⟩
  · by_cases y : b = a
    · subst y
      rw [upd_same] at h
      rw [q]
      exact h
    · rw [upd_ne y] at h
      exact R.sub _ _ h
  · obtain ⟨h1, h2, h3⟩ := R.pro b hp
    have nb : b ≠ a := fun y => h3 (by rw [y]; exact inA)
    exact ⟨by rw [upd_ne nb]; exact h1, h2, h3⟩
  · by_cases y : i = j
    · subst y
      rw [ha] at h1
      cases h1
      rw [List.getElem?_set_self (List.getElem?_eq_some_iff.mp hm).1] at h2
      cases h2
      exact ⟨z, vs, upd_same, RepL.mono e _ _ r⟩
    · rw [List.getElem?_set_ne (fun z => y z.symm)] at h2
      have ne : b ≠ a := fun z => by
        subst z
        exact y ((List.getElem?_inj (List.getElem?_eq_some_iff.mp h1).1 R.nd).mp (h1.trans ha.symm))
      exact (R.mu i b k h1 h2).mono e (fun g' => by rw [upd_ne ne]; exact g') rfl ⟨[], by simp⟩
  · rw [List.length_set]
    rcases List.mem_or_eq_of_mem_set hk with z | z
    · exact R.wf k z
    · rw [z]
      rfl
  · obtain ⟨v, h1, h2⟩ := R.env i w h
    exact ⟨v, h1, h2.mono e ⟨[], by simp⟩⟩
/-- another environment -/
theorem Rl.to (R : Rl K G H as P ρ μ σ) {ρ' : Env'} {σ' : St} (hz : ρ'.length = σ'.length) (he : ∀ (i : Nat) (w : W), ρ'[i]? = some (some w) → ∃ v, σ'[i]? = some (some v) ∧ RepW K G as w v) : Rl K G H as P ρ' μ σ' := ⟨R.sub, R.pro, R.nd, R.len, R.mu, R.wf, hz, he⟩
theorem Rl.nil (R : Rl K G H as P ρ μ σ) : Rl K G H as P [] μ [] := R.to rfl fun i w h => by simp at h
theorem Rl.set (R : Rl K G H as P ρ μ σ) {i : Nat} {w : W} {v : V} (h : RepW K G as w v) : Rl K G H as P (ρ.set i (some w)) μ (σ.set i (some v)) :=
  R.to (by simp [R.sz]) fun k u hk => by
    by_cases q : k = i
    · subst q
      have hl : k < ρ.length := by
        have := (List.getElem?_eq_some_iff.mp hk).1
        simpa using this
      rw [List.getElem?_set_self hl] at hk
      cases hk
      exact ⟨v, List.getElem?_set_self (R.sz ▸ hl), h⟩
    · rw [List.getElem?_set_ne (fun z => q z.symm)] at hk
      rw [List.getElem?_set_ne (fun z => q z.symm)]
      exact R.env k u hk
/-- the tail of the store is dropped -/
theorem Rl.drop (R : Rl K G H as P ρ μ σ) {μ0 t : Mu} (e : μ = μ0 ++ t) (wf : ∀ m : MO, m ∈ μ0 → m.below μ0.length = true) : Rl K G H (as.take μ0.length) P [] μ0 [] := by
  have hl : μ0.length ≤ as.length := by rw [R.len, e, List.length_append]; omega
  refine ⟨R.sub, fun a h => ?_, R.nd.sublist (List.take_sublist _ _), by rw [List.length_take]; omega, fun j a m h1 h2 => ?_, wf, rfl, fun i w h => by simp at h⟩
  · obtain ⟨h1, h2, h3⟩ := R.pro a h
    exact ⟨h1, h2, fun z => h3 (List.mem_of_mem_take z)⟩
  · have hj : j < μ0.length := (List.getElem?_eq_some_iff.mp h2).1
    rw [List.getElem?_take_of_lt hj] at h1
    have q := R.mu j a m h1 (by rw [e, List.getElem?_append_left hj]; exact h2)
    have hw : ∀ (w : W) (v : V), w.below μ0.length = true → RepW K G as w v → RepW K G (as.take μ0.length) w v := fun w v hb hr => by
      cases w with
      | val d => exact hr
      | loc k =>
        obtain ⟨b, q1, q2⟩ := hr
        exact ⟨b, by rw [List.getElem?_take_of_lt (of_decide_eq_true hb)]; exact q1, q2⟩
    have hws : ∀ (ws : List W) (vs : List V), ws.all (W.below μ0.length) = true → RepWs K G as ws vs → RepWs K G (as.take μ0.length) ws vs := by
      intro ws
      induction ws with
      | nil => exact fun vs _ h => h
      | cons w ws ih =>
        rintro vs hb ⟨v, r, ev, h1, h2⟩
        rw [List.all_cons, Bool.and_eq_true] at hb
        exact ⟨v, r, ev, hw w v hb.1 h1, ih r hb.2 h2⟩
    have hfs : ∀ (ws : List (Str × W)) (vs : List (Str × V)), (ws.all fun p => p.2.below μ0.length) = true → RepFs K G as ws vs → RepFs K G (as.take μ0.length) ws vs := by
      intro ws
      induction ws with
      | nil => exact fun vs _ h => h
      | cons w ws ih =>
        rintro vs hb ⟨v, r, ev, h1, h2⟩
        rw [List.all_cons, Bool.and_eq_true] at hb
        exact ⟨v, r, ev, hw w.2 v hb.1 h1, ih r hb.2 h2⟩
    have hm := wf m (List.mem_of_getElem? h2)
    cases m with
    | lsW ws => obtain ⟨g, z, vs, q, r⟩ := q; exact ⟨g, z, vs, q, hws ws vs hm r⟩
    | ins c fs => obtain ⟨g, z, dx, vs, q, r⟩ := q; exact ⟨g, z, dx, vs, q, hfs fs vs hm r⟩
    | lst xs => exact q
    | frz xs => exact q
    | dK kvs => exact q
    | scr ns => exact q
    | gone => exact q
    | raw o => exact q
    | dW fs => obtain ⟨g, z, vs, q, r⟩ := q; exact ⟨g, z, vs, q, hfs fs vs hm r⟩
end
end DK

/-! DK1: the judgements and their rules. -/
namespace DK
open PySem PySem.Spec L2

section
variable (K : PySem.W.Frag)
def Ev (te : TE) (ρ : Env') (μ : Mu) (w : W) (μ' : Mu) : Prop := ∀ (P : Addr → Prop) (as : List Addr) (σ : St) (G H : Hp), Rl K G H as P ρ μ σ → ∀ Q : VK,
  (∀ v as' G' H', Nx P as G H as' G' H' → Rl K G' H' as' P ρ μ' σ → RepW K G' as' w v → Q v H') → te σ H Q
def EvB (tt : TT) (ρ : Env') (μ : Mu) (b : Bool) (μ' : Mu) : Prop := ∀ (P : Addr → Prop) (as : List Addr) (σ : St) (G H : Hp), Rl K G H as P ρ μ σ → ∀ Q : Bool → Hp → Prop,
  (∀ as' G' H', Nx P as G H as' G' H' → Rl K G' H' as' P ρ μ' σ → Q b H') → tt σ H Q
def EvA (ta : TA) (ρ : Env') (μ : Mu) (ws : List W) (μ' : Mu) : Prop := ∀ (P : Addr → Prop) (as : List Addr) (σ : St) (G H : Hp), Rl K G H as P ρ μ σ → ∀ Q : List V → Hp → Prop,
  (∀ vs as' G' H', Nx P as G H as' G' H' → Rl K G' H' as' P ρ μ' σ → RepWs K G' as' ws vs → Q vs H') → ta σ H Q
inductive Out where
  | nx (ρ : Env') (μ : Mu) | rt (w : W) (μ : Mu) | bk (ρ : Env') (μ : Mu) | ct (ρ : Env') (μ : Mu)
def OutOk (P : Addr → Prop) (as : List Addr) (G H : Hp) (E : Ends) : Out → Prop
  | .nx ρ' μ' => ∀ as' σ' G' H', Nx P as G H as' G' H' → Rl K G' H' as' P ρ' μ' σ' → E.nx σ' H'
  | .rt w μ' => ∀ v as' G' H', Nx P as G H as' G' H' → Rl K G' H' as' P [] μ' [] → RepW K G' as' w v → E.rt v H'
  | .bk ρ' μ' => ∀ as' σ' G' H', Nx P as G H as' G' H' → Rl K G' H' as' P ρ' μ' σ' → E.bk σ' H'
  | .ct ρ' μ' => ∀ as' σ' G' H', Nx P as G H as' G' H' → Rl K G' H' as' P ρ' μ' σ' → E.ct σ' H'
def Ex (ts : TS) (ρ : Env') (μ : Mu) (o : Out) : Prop := ∀ (P : Addr → Prop) (as : List Addr) (σ : St) (G H : Hp), Rl K G H as P ρ μ σ → ∀ E : Ends, OutOk K P as G H E o → ts E σ H
/-- a target takes a value -/
def EvG (g : TG) (w : W) (ρ ρ' : Env') : Prop := ∀ (P : Addr → Prop) (as : List Addr) (μ : Mu) (σ : St) (G H : Hp) (v : V), Rl K G H as P ρ μ σ → RepW K G as w v → ∀ Q : St → Hp → Prop,
  (∀ σ', Rl K G H as P ρ' μ σ' → Q σ' H) → g v σ H Q
/-- the same, targets inside a comprehension: only the slots vs -/
def Op2 (r : R2) (a b d : D) : Prop := ∀ (P : Addr → Prop) (as : List Addr) (ρ : Env') (μ : Mu) (σ : St) (G H : Hp) (x y : V), Rl K G H as P ρ μ σ → Rep K G a x → Rep K G b y → ∀ Q : VK,
  (∀ v G' H', Nx P as G H as G' H' → Rl K G' H' as P ρ μ σ → Rep K G' d v → Q v H') → r x y H Q
/-- a call on values -/
def OpC (r : List V → Hp → VK → Prop) (ds : List D) (d : D) : Prop := ∀ (P : Addr → Prop) (as : List Addr) (ρ : Env') (μ : Mu) (σ : St) (G H : Hp) (vs : List V), Rl K G H as P ρ μ σ → RepL K G ds vs → ∀ Q : VK,
  (∀ v G' H', Nx P as G H as G' H' → Rl K G' H' as P ρ μ σ → Rep K G' d v → Q v H') → r vs H Q
/-- a method on values -/
def OpM (T : String) (r : V → List V → Hp → VK → Prop) (a : D) (ds : List D) (d : D) : Prop := ∀ (P : Addr → Prop) (as : List Addr) (ρ : Env') (μ : Mu) (σ : St) (G H : Hp) (x : V) (vs : List V), Rl K G H as P ρ μ σ → Rep K G a x → RepL K G ds vs → ∀ Q : VK,
  (∀ v G' H', Nx P as G H as G' H' → Rl K G' H' as P ρ μ σ → Rep K G' d v → Q v H') → r x vs H Q
end

section
variable {K : PySem.W.Frag} {ρ ρ1 ρ2 : Env'} {μ μ1 μ2 μ3 : Mu} {ta tb te tc : TE} {t u : TT} {w : W} {a b d : D} {r : R2} {i : Nat}

theorem ev_var (h : ρ[i]? = some (some w)) : Ev K (tVar i) ρ μ w μ := fun P as σ G H R Q q => by
  obtain ⟨v, h1, h2⟩ := R.env i w h
  exact ⟨v, h1, q v as G H .refl R h2⟩
theorem ev_int {n : Int} : Ev K (tC (.int n)) ρ μ (.val (.int n)) μ := fun P as σ G H R Q q => q _ as G H .refl R rfl
theorem ev_bl {n : Bool} : Ev K (tC (.bl n)) ρ μ (.val (.bl n)) μ := fun P as σ G H R Q q => q _ as G H .refl R rfl
theorem ev_non : Ev K (tC .non) ρ μ (.val .non) μ := fun P as σ G H R Q q => q _ as G H .refl R rfl
theorem ev_str {s : Str} (h : sOk s := by exact ⟨by decide +kernel, by decide +kernel⟩) : Ev K (tC (.str s)) ρ μ (.val (.str s)) μ := fun P as σ G H R Q q => q _ as G H .refl R ⟨rfl, h⟩
/-- a written tuple of the module -/
theorem ev_wtup {a : Addr} {vs : List V} {ds : List D} (h : ∀ H, SqT K H a vs) (hr : ∀ G, RepL K G ds vs) (hz : ds.length ≤ LB) : Ev K (tC (.ref a)) ρ μ (.val (.tup ds)) μ := fun P as σ G H R Q q => q _ as G H .refl R ⟨hz, a, vs, rfl, h G, hr G⟩

theorem ev_op (ha : Ev K ta ρ μ (.val a) μ1) (hb : Ev K tb ρ μ1 (.val b) μ2) (hr : Op2 K r a b d) : Ev K (tOp r ta tb) ρ μ (.val d) μ2 := fun P as σ G H R Q q =>
  ha P as σ G H R _ fun x as1 G1 H1 n1 R1 r1 => hb P as1 σ G1 H1 R1 _ fun y as2 G2 H2 n2 R2 r2 => hr P as2 ρ μ2 σ G2 H2 x y R2 (Rep.mono n2.gr _ _ r1) r2 Q fun v G3 H3 n3 R3 r3 => q v as2 G3 H3 ((n1.trans n2).trans n3) R3 r3
theorem ev_un {f : V → Hp → VK → Prop} (ha : Ev K ta ρ μ (.val a) μ1) (hr : ∀ G H x, Rep K G a x → ∀ Q : VK, (∀ v, Rep K G d v → Q v H) → f x H Q) : Ev K (tUn f ta) ρ μ (.val d) μ1 := fun P as σ G H R Q q =>
  ha P as σ G H R _ fun x as1 G1 H1 n1 R1 r1 => hr G1 H1 x r1 Q fun v rv => q v as1 G1 H1 n1 R1 rv

/-! ### tests -/
theorem eb_test {k : Bool} (h : Ev K te ρ μ (.val (.bl k)) μ1) : EvB K (tTest te) ρ μ k μ1 := fun P as σ G H R Q q =>
  h P as σ G H R _ fun v as1 G1 H1 n1 R1 r1 => ⟨k, r1, q as1 G1 H1 n1 R1⟩
theorem eb_B {k : Bool} (h : Ev K te ρ μ (.val (.bl k)) μ1) : EvB K (tB te) ρ μ k μ1 := fun P as σ G H R Q q =>
  h P as σ G H R _ fun v as1 G1 H1 n1 R1 r1 => ⟨k, r1, q as1 G1 H1 n1 R1⟩
theorem eb_not {k : Bool} (h : EvB K t ρ μ k μ1) : EvB K (tNot t) ρ μ (!k) μ1 := fun P as σ G H R Q q => h P as σ G H R _ fun as1 G1 H1 n1 R1 => q as1 G1 H1 n1 R1
theorem eb_and {k l : Bool} (h : EvB K t ρ μ k μ) (h2 : k = true → EvB K u ρ μ l μ) : EvB K (tAnd t u) ρ μ (k && l) μ := fun P as σ G H R Q q =>
  h P as σ G H R _ fun as1 G1 H1 n1 R1 => by
    cases k with
    | true => exact iteT (h2 rfl P as1 σ G1 H1 R1 Q fun as2 G2 H2 n2 R2 => q as2 G2 H2 (n1.trans n2) R2)
    | false => exact iteF (q as1 G1 H1 n1 R1)
theorem eb_or {k l : Bool} (h : EvB K t ρ μ k μ) (h2 : k = false → EvB K u ρ μ l μ) : EvB K (tOr t u) ρ μ (k || l) μ := fun P as σ G H R Q q =>
  h P as σ G H R _ fun as1 G1 H1 n1 R1 => by
    cases k with
    | true => exact iteT (q as1 G1 H1 n1 R1)
    | false => exact iteF (h2 rfl P as1 σ G1 H1 R1 Q fun as2 G2 H2 n2 R2 => q as2 G2 H2 (n1.trans n2) R2)
theorem eb_to {k l : Bool} (h : EvB K t ρ μ k μ1) (e : k = l) : EvB K t ρ μ l μ1 := e ▸ h
theorem ev_to {w' : W} (h : Ev K te ρ μ w μ1) (e : w = w') : Ev K te ρ μ w' μ1 := e ▸ h
theorem ev_and {k : Bool} (ha : Ev K ta ρ μ (.val (.bl k)) μ) (hb : k = true → Ev K tb ρ μ (.val b) μ) : Ev K (tAndV ta tb) ρ μ (.val (if k = true then b else .bl false)) μ := fun P as σ G H R Q q =>
  ha P as σ G H R _ fun v as1 G1 H1 n1 R1 r1 => ⟨k, r1, by
    cases k with
    | true => exact iteT (hb rfl P as1 σ G1 H1 R1 Q fun v as2 G2 H2 n2 R2 r2 => q v as2 G2 H2 (n1.trans n2) R2 r2)
    | false => exact iteF (q _ as1 G1 H1 n1 R1 rfl)⟩
theorem ev_or {k : Bool} (ha : Ev K ta ρ μ (.val (.bl k)) μ) (hb : k = false → Ev K tb ρ μ (.val b) μ) : Ev K (tOrV ta tb) ρ μ (.val (if k = true then .bl true else b)) μ := fun P as σ G H R Q q =>
  ha P as σ G H R _ fun v as1 G1 H1 n1 R1 r1 => ⟨k, r1, by
    cases k with
    | true => exact iteT (q _ as1 G1 H1 n1 R1 rfl)
    | false => exact iteF (hb rfl P as1 σ G1 H1 R1 Q fun v as2 G2 H2 n2 R2 r2 => q v as2 G2 H2 (n1.trans n2) R2 r2)⟩
theorem ev_andB {k l : Bool} (ha : Ev K ta ρ μ (.val (.bl k)) μ) (hb : k = true → Ev K tb ρ μ (.val (.bl l)) μ) : Ev K (tAndV ta tb) ρ μ (.val (.bl (k && l))) μ := ev_to (ev_and ha hb) (by cases k <;> rfl)
theorem ev_orB {k l : Bool} (ha : Ev K ta ρ μ (.val (.bl k)) μ) (hb : k = false → Ev K tb ρ μ (.val (.bl l)) μ) : Ev K (tOrV ta tb) ρ μ (.val (.bl (k || l))) μ := ev_to (ev_or ha hb) (by cases k <;> rfl)
theorem ev_not {k : Bool} (ha : Ev K ta ρ μ (.val (.bl k)) μ1) : Ev K (tNotV ta) ρ μ (.val (.bl (!k))) μ1 := fun P as σ G H R Q q =>
  ha P as σ G H R _ fun v as1 G1 H1 n1 R1 r1 => ⟨k, r1, q _ as1 G1 H1 n1 R1 rfl⟩
theorem ev_if {k : Bool} (hc : EvB K t ρ μ k μ1) (ha : k = true → Ev K ta ρ μ1 w μ2) (hb : k = false → Ev K tb ρ μ1 w μ2) : Ev K (tIf t ta tb) ρ μ w μ2 := fun P as σ G H R Q q =>
  hc P as σ G H R _ fun as1 G1 H1 n1 R1 => by
    cases k with
    | true => exact iteT (ha rfl P as1 σ G1 H1 R1 Q fun v as2 G2 H2 n2 R2 r2 => q v as2 G2 H2 (n1.trans n2) R2 r2)
    | false => exact iteF (hb rfl P as1 σ G1 H1 R1 Q fun v as2 G2 H2 n2 R2 r2 => q v as2 G2 H2 (n1.trans n2) R2 r2)
theorem ev_ifD {k : Bool} (hc : EvB K t ρ μ k μ1) (ha : k = true → Ev K ta ρ μ1 (.val a) μ2) (hb : k = false → Ev K tb ρ μ1 (.val b) μ2) : Ev K (tIf t ta tb) ρ μ (.val (if k = true then a else b)) μ2 :=
  ev_if hc (fun e => by rw [if_pos e]; exact ha e) fun e => by rw [if_neg (by rw [e]; exact Bool.false_ne_true)]; exact hb e
theorem ev_frz {j : Nat} {xs : List D} (h : Ev K te ρ μ (.loc j) μ1) (hm : μ1[j]? = some (.lst xs)) : Ev K te ρ μ (.val (.lst xs)) (μ1.set j (.frz xs)) := fun P as σ G H R Q q =>
  h P as σ G H R _ fun v as1 G1 H1 n1 R1 ⟨a, ha, ev⟩ => by
    obtain ⟨b, vs, hb, R2, n2, r2⟩ := R1.freeze hm
    rw [ha] at hb
    cases hb
    subst ev
    exact q _ as1 _ H1 (n1.trans n2) R2 r2
theorem ev_frzd {j : Nat} {xs : List D} (h : Ev K te ρ μ (.loc j) μ1) (hm : μ1[j]? = some (.frz xs)) : Ev K te ρ μ (.val (.lst xs)) μ1 := fun P as σ G H R Q q =>
  h P as σ G H R _ fun v as1 G1 H1 n1 R1 ⟨a, ha, ev⟩ => by
    obtain ⟨z, vs, g, r⟩ := R1.mu j a _ ha hm
    exact q _ as1 _ H1 n1 R1 ⟨z, a, vs, ev, g, r⟩

/-! ### arguments, displays -/
theorem ea_nil : EvA K tNil ρ μ [] μ := fun P as σ G H R Q q => q [] as G H .refl R rfl
theorem ea_cons {tr : TA} {ws : List W} (h : Ev K te ρ μ w μ1) (hr : EvA K tr ρ μ1 ws μ2) : EvA K (tCons te tr) ρ μ (w :: ws) μ2 := fun P as σ G H R Q q =>
  h P as σ G H R _ fun v as1 G1 H1 n1 R1 r1 => hr P as1 σ G1 H1 R1 _ fun vs as2 G2 H2 n2 R2 r2 => q (v :: vs) as2 G2 H2 (n1.trans n2) R2 ⟨v, vs, rfl, r1.mono n2.gr n2.pre, r2⟩
/-- data only -/
def EvD (K : PySem.W.Frag) (ta : TA) (ρ : Env') (μ : Mu) (ds : List D) (μ' : Mu) : Prop := EvA K ta ρ μ (ds.map W.val) μ'
theorem ed_nil : EvD K tNil ρ μ [] μ := ea_nil
theorem ed_cons {tr : TA} {ds : List D} (h : Ev K te ρ μ (.val d) μ1) (hr : EvD K tr ρ μ1 ds μ2) : EvD K (tCons te tr) ρ μ (d :: ds) μ2 := ea_cons h hr
theorem ev_tup {t : TA} {ds : List D} (h : EvD K t ρ μ ds μ1) (hz : ds.length ≤ LB) : Ev K (tTup t) ρ μ (.val (.tup ds)) μ1 := fun P as σ G H R Q q =>
  h P as σ G H R _ fun vs as1 G1 H1 n1 R1 r1 => by
    have r := RepWs.vals.mp r1
    refine ⟨by rw [r.length]; exact Nat.le_trans hz (by decide), fun p hp => ?_⟩
    obtain ⟨R2, n2⟩ := R1.imm hp (.tup vs)
    exact q _ as1 _ _ (n1.trans n2) R2 ⟨hz, p, vs, rfl, SqT.of upd_same, RepL.mono n2.gr _ _ r⟩
theorem ev_lst {t : TA} {ds : List D} (h : EvD K t ρ μ ds μ1) (hz : ds.length ≤ LB) : Ev K (tLst t) ρ μ (.val (.lst ds)) μ1 := fun P as σ G H R Q q =>
  h P as σ G H R _ fun vs as1 G1 H1 n1 R1 r1 => by
    have r := RepWs.vals.mp r1
    refine ⟨by rw [r.length]; exact Nat.le_trans hz (by decide), fun p hp => ?_⟩
    obtain ⟨R2, n2⟩ := R1.imm hp (.lst vs)
    exact q _ as1 _ _ (n1.trans n2) R2 ⟨hz, p, vs, rfl, upd_same, RepL.mono n2.gr _ _ r⟩
/-- a list display that will be changed -/
def tLstM (t : TA) : TE := tLst t
theorem ev_lstM {t : TA} {ds : List D} (h : EvD K t ρ μ ds μ1) (hz : ds.length ≤ LB) : Ev K (tLstM t) ρ μ (.loc μ1.length) (μ1 ++ [.lst ds]) := fun P as σ G H R Q q =>
  h P as σ G H R _ fun vs as1 G1 H1 n1 R1 r1 => by
    have r := RepWs.vals.mp r1
    refine ⟨by rw [r.length]; exact Nat.le_trans hz (by decide), fun p hp => ?_⟩
    obtain ⟨R2, n2⟩ := R1.mut (m := .lst ds) hp ⟨R1.sub.free hp, hz, vs, upd_same, r⟩ rfl
    exact q _ _ _ _ (n1.trans n2) R2 ⟨p, by rw [List.getElem?_append_right (by rw [R1.len]; exact Nat.le_refl _), R1.len]; simp, rfl⟩

/-! ### fields -/
def fpos (f : Str) : List Str → Nat
  | [] => 0
  | n :: ns => if (f == n) = true then 0 else fpos f ns + 1
theorem lookup_zip {f : Str} : ∀ {ns : List Str} {vs : List V} {v : V}, vs[fpos f ns]? = some v → fpos f ns < ns.length → (ns.zip vs).lookup f = some v
  | [], _, _, _, h => by simp at h
  | n :: ns, [], _, h, _ => by simp at h
  | n :: ns, u :: vs, v, h, hl => by
    unfold fpos at h hl
    rw [List.zip_cons_cons, List.lookup_cons]
    by_cases q : (f == n) = true
    · rw [if_pos q] at h
      simp at h
      rw [q, h]
    · rw [if_neg q] at h hl
      rw [Bool.not_eq_true] at q
      rw [q]
      simp at h hl
      exact lookup_zip h hl
theorem ev_fld {c f : Str} {ns : List Str} {ds : List D} (h : Ev K te ρ μ (.val (.obj c ns ds)) μ1) (hn : NoAttr K (He.ga K c) f) (hf : ds[fpos f ns]? = some d) : Ev K (tFld K te f) ρ μ (.val d) μ1 := fun P as σ G H R Q q =>
  h P as σ G H R _ fun v as1 G1 H1 n1 R1 ⟨hc, a, dx, vs, ev, g, hl, r⟩ => by
    obtain ⟨u, e1, e2⟩ := r.get hf
    have hp : fpos f ns < ns.length := by
      rw [hl]
      exact (List.getElem?_eq_some_iff.mp hf).1
    exact ⟨a, _, dx, _, u, ev, R1.sub _ _ g, hc.cl, hn, lookup_zip e1 hp, q u as1 G1 H1 n1 R1 e2⟩

/-! ### targets -/
theorem eg_name {w : W} : EvG K (gName i) w ρ (ρ.set i (some w)) := fun P as μ σ G H v R r Q q => q _ (R.set r)
theorem eg_tup {n : Nat} {ts : TGs} {ds : List D} (hn : ds.length = n) (h : ∀ (P : Addr → Prop) (as : List Addr) (μ : Mu) (σ : St) (G H : Hp) (vs : List V), Rl K G H as P ρ μ σ → RepL K G ds vs → ∀ Q : St → Hp → Prop, (∀ σ', Rl K G H as P ρ1 μ σ' → Q σ' H) → ts vs σ H Q) :
    EvG K (gTup K n ts) (.val (.tup ds)) ρ ρ1 := fun P as μ σ G H v R r Q q => by
  obtain ⟨hz, a, vs, ev, hs, hr⟩ := r
  have hs' : SqT K H a vs := same_sqt R.sub hs
  exact ⟨a, vs, ev, hs', by rw [hr.length]; exact hn, h P as μ σ G H vs R hr Q q⟩
def EvGs (K : PySem.W.Frag) (ts : TGs) (ds : List D) (ρ ρ1 : Env') : Prop := ∀ (P : Addr → Prop) (as : List Addr) (μ : Mu) (σ : St) (G H : Hp) (vs : List V), Rl K G H as P ρ μ σ → RepL K G ds vs → ∀ Q : St → Hp → Prop, (∀ σ', Rl K G H as P ρ1 μ σ' → Q σ' H) → ts vs σ H Q
theorem egs_nil : EvGs K gNil [] ρ ρ := fun P as μ σ G H vs R r Q q => ⟨r, q σ R⟩
theorem egs_cons {g : TG} {ts : TGs} {ds : List D} (h1 : EvG K g (.val d) ρ ρ1) (h2 : EvGs K ts ds ρ1 ρ2) : EvGs K (gCons g ts) (d :: ds) ρ ρ2 := fun P as μ σ G H vs R ⟨v, r, ev, r1, r2⟩ Q q =>
  ⟨v, r, ev, h1 P as μ σ G H v R r1 _ fun σ1 R1 => h2 P as μ σ1 G H r R1 r2 Q q⟩

/-! ### statements -/
variable {ts us : TS} {o : Out}
theorem OutOk.after {P : Addr → Prop} {as as1 : List Addr} {G G1 H H1 : Hp} {E : Ends} (n : Nx P as G H as1 G1 H1) (h : OutOk K P as G H E o) : OutOk K P as1 G1 H1 E o := by
  cases o with
  | nx ρ' μ' => exact fun as' σ' G' H' n' R' => h as' σ' G' H' (n.trans n') R'
  | rt w μ' => exact fun v as' G' H' n' R' r' => h v as' G' H' (n.trans n') R' r'
  | bk ρ' μ' => exact fun as' σ' G' H' n' R' => h as' σ' G' H' (n.trans n') R'
  | ct ρ' μ' => exact fun as' σ' G' H' n' R' => h as' σ' G' H' (n.trans n') R'
theorem ex_seq (h1 : Ex K ts ρ μ (.nx ρ1 μ1)) (h2 : Ex K us ρ1 μ1 o) : Ex K (tSeq ts us) ρ μ o := fun P as σ G H R E q =>
  h1 P as σ G H R _ fun as' σ' G' H' n' R' => h2 P as' σ' G' H' R' E (q.after n')
theorem ex_seqR (h1 : Ex K ts ρ μ (.rt w μ1)) : Ex K (tSeq ts us) ρ μ (.rt w μ1) := fun P as σ G H R E q => h1 P as σ G H R _ q
theorem ex_seqC (h1 : Ex K ts ρ μ (.ct ρ1 μ1)) : Ex K (tSeq ts us) ρ μ (.ct ρ1 μ1) := fun P as σ G H R E q => h1 P as σ G H R _ q
theorem ex_seqB (h1 : Ex K ts ρ μ (.bk ρ1 μ1)) : Ex K (tSeq ts us) ρ μ (.bk ρ1 μ1) := fun P as σ G H R E q => h1 P as σ G H R _ q
theorem ex_next : Ex K tNext ρ μ (.nx ρ μ) := fun P as σ G H R E q => q as σ G H .refl R
theorem ex_cont : Ex K tCont ρ μ (.ct ρ μ) := fun P as σ G H R E q => q as σ G H .refl R
theorem ex_break : Ex K tBreak ρ μ (.bk ρ μ) := fun P as σ G H R E q => q as σ G H .refl R
theorem ex_ret (h : Ev K te ρ μ w μ1) : Ex K (tRet te) ρ μ (.rt w μ1) := fun P as σ G H R E q => h P as σ G H R _ fun v as1 G1 H1 n1 R1 r1 => q v as1 G1 H1 n1 R1.nil r1
theorem ex_drop (h : Ev K te ρ μ w μ1) : Ex K (tDrop te) ρ μ (.nx ρ μ1) := fun P as σ G H R E q => h P as σ G H R _ fun v as1 G1 H1 n1 R1 r1 => q as1 σ G1 H1 n1 R1
theorem ex_asg {g : TG} (h : Ev K te ρ μ w μ1) (hg : EvG K g w ρ ρ1) : Ex K (tAsg te g) ρ μ (.nx ρ1 μ1) := fun P as σ G H R E q => h P as σ G H R _ fun v as1 G1 H1 n1 R1 r1 => hg P as1 μ1 σ G1 H1 v R1 r1 _ fun σ' R' => q as1 σ' G1 H1 n1 R'
theorem ex_set (h : Ev K te ρ μ w μ1) : Ex K (tAsg te (gName i)) ρ μ (.nx (ρ.set i (some w)) μ1) := ex_asg h eg_name
theorem ex_if {k : Bool} (hc : EvB K t ρ μ k μ1) (ha : k = true → Ex K ts ρ μ1 o) (hb : k = false → Ex K us ρ μ1 o) : Ex K (tIfS t ts us) ρ μ o := fun P as σ G H R E q =>
  hc P as σ G H R _ fun as1 G1 H1 n1 R1 => by
    cases k with
    | true => exact iteT (ha rfl P as1 σ G1 H1 R1 E (q.after n1))
    | false => exact iteF (hb rfl P as1 σ G1 H1 R1 E (q.after n1))
/-- an if and what follows it, a way at a time -/
theorem ex_ifSeq {k : Bool} {vs : TS} (hc : EvB K t ρ μ k μ1) (ha : k = true → Ex K (tSeq ts vs) ρ μ1 o) (hb : k = false → Ex K (tSeq us vs) ρ μ1 o) : Ex K (tSeq (tIfS t ts us) vs) ρ μ o := fun P as σ G H R E q =>
  hc P as σ G H R _ fun as1 G1 H1 n1 R1 => by
    cases k with
    | true => exact iteT (ha rfl P as1 σ G1 H1 R1 E (q.after n1))
    | false => exact iteF (hb rfl P as1 σ G1 H1 R1 E (q.after n1))
theorem ex_seqAssoc {vs : TS} (h : Ex K (tSeq ts (tSeq us vs)) ρ μ o) : Ex K (tSeq (tSeq ts us) vs) ρ μ o := h
theorem ex_nextSeq (h : Ex K us ρ μ o) : Ex K (tSeq tNext us) ρ μ o := h
theorem ex_to {o' : Out} (h : Ex K ts ρ μ o) (e : o = o') : Ex K ts ρ μ o' := e ▸ h

/-! ### what is walked -/
def ItD (K : PySem.W.Frag) (G : Hp) (as0 : List Addr) (C : Mu → Prop) (J : It) (xs : List D) : Prop := ∀ (i : Nat) (P : Addr → Prop) (as : List Addr) (ρ : Env') (μ : Mu) (σ : St) (G1 H : Hp), Same G G1 → (∃ t, as = as0 ++ t) → C μ → Rl K G1 H as P ρ μ σ →
  (∀ d, xs[i]? = some d → J.go i H ∧ ∀ x H', J.yld i H x H' → ∃ G2, Nx P as G1 H as G2 H' ∧ Rl K G2 H' as P ρ μ σ ∧ Rep K G2 d x) ∧ (xs[i]? = none → J.stop i H)
def EvI (K : PySem.W.Frag) (wi : TI) (ρ : Env') (μ : Mu) (xs : List D) (μ' : Mu) (C : Mu → Prop) : Prop := C μ' ∧ ∀ (P : Addr → Prop) (as : List Addr) (σ : St) (G H : Hp), Rl K G H as P ρ μ σ → ∀ R : It → Hp → Prop,
  (∀ J as' G' H', Nx P as G H as' G' H' → Rl K G' H' as' P ρ μ' σ → ItD K G' as' C J xs → R J H') → wi σ H R
abbrev CT : Mu → Prop := fun _ => True
theorem ei_list {xs : List D} (h : Ev K te ρ μ (.val (.lst xs)) μ1) : EvI K (iList K te) ρ μ xs μ1 CT := ⟨trivial, fun P as σ G H R Q q =>
  h P as σ G H R _ fun v as1 G1 H1 n1 R1 ⟨hz, a, vs, ev, g, r⟩ => by
    refine ⟨a, ev, ⟨vs, SqL.of (R1.sub _ _ g)⟩, q _ as1 G1 H1 n1 R1 fun i P' as' ρ' μ' σ' G' H' s _ _ R' => ?_⟩
    have hs : SqL K H' a vs := SqL.of (R'.sub _ _ (s _ _ g))
    constructor
    · intro d hd
      obtain ⟨x, hx, _⟩ := r.get hd
      refine ⟨⟨vs, x, hs, hx⟩, fun y H2 ⟨e, hy⟩ => ?_⟩
      subst e
      obtain ⟨u, hu, ru⟩ := r.get hd
      have : y = u := by
        have := hy vs hs
        rw [hu] at this
        exact (Option.some.inj this).symm
      subst this
      exact ⟨G', .refl, R', Rep.mono s _ _ ru⟩
    · intro hn
      exact ⟨vs, hs, by rw [r.length]; exact List.getElem?_eq_none_iff.mp hn⟩⟩
theorem ei_tup {xs : List D} (h : Ev K te ρ μ (.val (.tup xs)) μ1) : EvI K (iTup K te) ρ μ xs μ1 CT := ⟨trivial, fun P as σ G H R Q q =>
  h P as σ G H R _ fun v as1 G1 H1 n1 R1 ⟨hz, a, vs, ev, g, r⟩ => by
    refine ⟨a, ev, ⟨vs, same_sqt R1.sub g⟩, q _ as1 G1 H1 n1 R1 fun i P' as' ρ' μ' σ' G' H' s _ _ R' => ?_⟩
    have hs : SqT K H' a vs := same_sqt R'.sub (same_sqt s g)
    constructor
    · intro d hd
      obtain ⟨x, hx, _⟩ := r.get hd
      refine ⟨⟨vs, x, hs, hx⟩, fun y H2 ⟨e, hy⟩ => ?_⟩
      subst e
      obtain ⟨u, hu, ru⟩ := r.get hd
      have : y = u := by
        have := hy vs hs
        rw [hu] at this
        exact (Option.some.inj this).symm
      subst this
      exact ⟨G', .refl, R', Rep.mono s _ _ ru⟩
    · intro hn
      exact ⟨vs, hs, by rw [r.length]; exact List.getElem?_eq_none_iff.mp hn⟩⟩
def rangeD (lo : Int) (n : Nat) : List D := (List.range n).map fun (k : Nat) => D.int (lo + (k : Int))
theorem it_range {G : Hp} {as : List Addr} {lo : Int} {n : Nat} : ItD K G as CT (Itr lo n) (rangeD lo n) := fun i P' as' ρ' μ' σ' G' H' s _ _ R' => by
  constructor
  · intro d hd
    unfold rangeD at hd
    rw [List.getElem?_map] at hd
    by_cases hi : i < n
    · rw [List.getElem?_range hi] at hd
      cases hd
      exact ⟨hi, fun x H2 ⟨e, hx⟩ => ⟨G', by rw [e]; exact .refl, by rw [e]; exact R', hx⟩⟩
    · rw [List.getElem?_eq_none (by simpa using hi)] at hd
      cases hd
  · intro hn
    have := List.getElem?_eq_none_iff.mp hn
    unfold rangeD at this
    show n ≤ i
    simpa using this
theorem ei_range1 {n : Int} {t : TA} (h : EvD K t ρ μ [.int n] μ1) (h1 : -(2 ^ 62) ≤ n) (h2 : n < 2 ^ 62) : EvI K (iRng1 t) ρ μ (rangeD 0 n.toNat) μ1 CT := ⟨trivial, fun P as σ G H R Q q =>
  h P as σ G H R _ fun vs as1 G1 H1 n1 R1 r1 => by
    obtain ⟨v, r, ev, r2, r3⟩ := r1
    rw [show r = [] from r3, show v = .int n from r2] at ev
    exact ⟨n, ev, h1, h2, q _ as1 G1 H1 n1 R1 it_range⟩⟩
theorem ei_range2 {m n : Int} {t : TA} (h : EvD K t ρ μ [.int m, .int n] μ1) (h1 : -(2 ^ 62) ≤ m ∧ m < 2 ^ 62 ∧ -(2 ^ 62) ≤ n ∧ n < 2 ^ 62) : EvI K (iRng2 t) ρ μ (rangeD m (n - m).toNat) μ1 CT := ⟨trivial, fun P as σ G H R Q q =>
  h P as σ G H R _ fun vs as1 G1 H1 n1 R1 r1 => by
    obtain ⟨v, r, ev, r2, v', r', ev', r2', r3⟩ := r1
    rw [show r' = [] from r3, show v' = .int n from r2'] at ev'
    rw [ev', show v = .int m from r2] at ev
    exact ⟨m, n, ev, h1, q _ as1 G1 H1 n1 R1 it_range⟩⟩

/-! ### for -/
theorem pre_tr {α : Type} {a b c : List α} (h : ∃ t, b = a ++ t) (k : ∃ t, c = b ++ t) : ∃ t, c = a ++ t := by
  obtain ⟨t, e⟩ := h
  obtain ⟨u, f⟩ := k
  exact ⟨t ++ u, by rw [f, e, List.append_assoc]⟩
inductive Lp (K : PySem.W.Frag) (g : TG) (tb : TS) (C : Mu → Prop) : List D → Env' → Mu → Out → Prop where
  | nil {ρ : Env'} {μ : Mu} : Lp K g tb C [] ρ μ (.nx ρ μ)
  | next {x : D} {xs : List D} {ρ ρ1 ρ2 : Env'} {μ μ2 : Mu} {o : Out} : EvG K g (.val x) ρ ρ1 → Ex K tb ρ1 μ (.nx ρ2 μ2) → C μ2 → Lp K g tb C xs ρ2 μ2 o → Lp K g tb C (x :: xs) ρ μ o
  | cont {x : D} {xs : List D} {ρ ρ1 ρ2 : Env'} {μ μ2 : Mu} {o : Out} : EvG K g (.val x) ρ ρ1 → Ex K tb ρ1 μ (.ct ρ2 μ2) → C μ2 → Lp K g tb C xs ρ2 μ2 o → Lp K g tb C (x :: xs) ρ μ o
  | brk {x : D} {xs : List D} {ρ ρ1 ρ2 : Env'} {μ μ2 : Mu} : EvG K g (.val x) ρ ρ1 → Ex K tb ρ1 μ (.bk ρ2 μ2) → Lp K g tb C (x :: xs) ρ μ (.nx ρ2 μ2)
  | ret {x : D} {xs : List D} {ρ ρ1 : Env'} {μ μ2 : Mu} {w : W} : EvG K g (.val x) ρ ρ1 → Ex K tb ρ1 μ (.rt w μ2) → Lp K g tb C (x :: xs) ρ μ (.rt w μ2)
theorem ex_for {wi : TI} {g : TG} {tb : TS} {C : Mu → Prop} {xs : List D} (hi : EvI K wi ρ μ xs μ1 C) (h : Lp K g tb C xs ρ μ1 o) : Ex K (tFor wi g tb) ρ μ o := fun P as σ G H R E q =>
  hi.2 P as σ G H R _ fun J as0 G0 H0 n0 R0 it => by
    refine ⟨fun i m σ' H' => m = xs.length - i ∧ i ≤ xs.length ∧ ∃ as' G' ρ' μ', Nx P as G H as' G' H' ∧ (∃ t, as' = as0 ++ t) ∧ C μ' ∧ Same G0 G' ∧ Rl K G' H' as' P ρ' μ' σ' ∧ Lp K g tb C (xs.drop i) ρ' μ' o, ⟨xs.length, rfl, Nat.zero_le _, as0, G0, ρ, μ1, n0, ⟨[], by simp⟩, hi.1, Same.refl _, R0, h⟩, ?_⟩
    rintro i m σ' H' ⟨rfl, hi, as', G', ρ', μ', n', a', c', s', R', l'⟩
    obtain ⟨go, stop⟩ := it i P as' ρ' μ' σ' G' H' s' a' c' R'
    cases e : xs[i]? with
    | none =>
      have hd : xs.drop i = [] := List.drop_eq_nil_of_le (List.getElem?_eq_none_iff.mp e)
      rw [hd] at l'
      cases l'
      exact .inl ⟨stop e, q as' σ' G' H' n' R'⟩
    | some d =>
      have hlt : i < xs.length := (List.getElem?_eq_some_iff.mp e).1
      have hd : xs.drop i = d :: xs.drop (i + 1) := by
        rw [List.drop_eq_getElem_cons hlt]
        have := (List.getElem?_eq_some_iff.mp e).2
        rw [this]
      obtain ⟨hgo, hy⟩ := go d e
      refine .inr ⟨hgo, _, fun σ2 H2 z => ⟨xs.length - (i + 1), by omega, z⟩, fun x H2 y => ?_⟩
      obtain ⟨G2, n2, R2, r2⟩ := hy x H2 y
      rw [hd] at l'
      cases l' with
      | next hg hb hC hl =>
        refine hg P as' μ' σ' G2 H2 x R2 r2 _ fun σ3 R3 => hb P as' σ3 G2 H2 R3 _ fun as4 σ4 G4 H4 n4 R4 => ?_
        exact ⟨rfl, hlt, as4, G4, _, _, (n'.trans n2).trans n4, pre_tr a' n4.pre, hC, s'.trans (n2.gr.trans n4.gr), R4, hl⟩
      | cont hg hb hC hl =>
        refine hg P as' μ' σ' G2 H2 x R2 r2 _ fun σ3 R3 => hb P as' σ3 G2 H2 R3 _ fun as4 σ4 G4 H4 n4 R4 => ?_
        exact ⟨rfl, hlt, as4, G4, _, _, (n'.trans n2).trans n4, pre_tr a' n4.pre, hC, s'.trans (n2.gr.trans n4.gr), R4, hl⟩
      | brk hg hb =>
        refine hg P as' μ' σ' G2 H2 x R2 r2 _ fun σ3 R3 => hb P as' σ3 G2 H2 R3 _ fun as4 σ4 G4 H4 n4 R4 => ?_
        exact q as4 σ4 G4 H4 ((n'.trans n2).trans n4) R4
      | ret hg hb =>
        refine hg P as' μ' σ' G2 H2 x R2 r2 _ fun σ3 R3 => hb P as' σ3 G2 H2 R3 _ fun v as4 G4 H4 n4 R4 r4 => ?_
        exact q v as4 G4 H4 ((n'.trans n2).trans n4) R4 r4

/-! ### while -/
inductive Wh (K : PySem.W.Frag) (c : TT) (tb : TS) : Nat → Env' → Mu → Out → Prop where
  | stop {n : Nat} {ρ : Env'} {μ μ1 : Mu} : EvB K c ρ μ false μ1 → Wh K c tb n ρ μ (.nx ρ μ1)
  | next {n : Nat} {ρ ρ2 : Env'} {μ μ1 μ2 : Mu} {o : Out} : EvB K c ρ μ true μ1 → Ex K tb ρ μ1 (.nx ρ2 μ2) → Wh K c tb n ρ2 μ2 o → Wh K c tb (n + 1) ρ μ o
  | cont {n : Nat} {ρ ρ2 : Env'} {μ μ1 μ2 : Mu} {o : Out} : EvB K c ρ μ true μ1 → Ex K tb ρ μ1 (.ct ρ2 μ2) → Wh K c tb n ρ2 μ2 o → Wh K c tb (n + 1) ρ μ o
  | brk {n : Nat} {ρ ρ2 : Env'} {μ μ1 μ2 : Mu} : EvB K c ρ μ true μ1 → Ex K tb ρ μ1 (.bk ρ2 μ2) → Wh K c tb n ρ μ (.nx ρ2 μ2)
  | ret {n : Nat} {ρ : Env'} {μ μ1 μ2 : Mu} {w : W} : EvB K c ρ μ true μ1 → Ex K tb ρ μ1 (.rt w μ2) → Wh K c tb n ρ μ (.rt w μ2)
theorem ex_while {c : TT} {tb : TS} {n : Nat} (h : Wh K c tb n ρ μ o) : Ex K (tWhile c tb) ρ μ o := fun P as σ G H R E q => by
  refine ⟨fun m σ' H' => ∃ as' G' ρ' μ', Nx P as G H as' G' H' ∧ Rl K G' H' as' P ρ' μ' σ' ∧ Wh K c tb m ρ' μ' o, ⟨n, as, G, ρ, μ, .refl, R, h⟩, ?_⟩
  rintro m σ' H' ⟨as', G', ρ', μ', n', R', l'⟩
  cases l' with
  | stop hc => exact hc P as' σ' G' H' R' _ fun as1 G1 H1 n1 R1 => iteF (q as1 σ' G1 H1 (n'.trans n1) R1)
  | next hc hb hl =>
    refine hc P as' σ' G' H' R' _ fun as1 G1 H1 n1 R1 => iteT ⟨_, fun σ2 H2 z => ⟨_, Nat.lt_succ_self _, z⟩, hb P as1 σ' G1 H1 R1 _ fun as4 σ4 G4 H4 n4 R4 => ?_⟩
    exact ⟨as4, G4, _, _, (n'.trans n1).trans n4, R4, hl⟩
  | cont hc hb hl =>
    refine hc P as' σ' G' H' R' _ fun as1 G1 H1 n1 R1 => iteT ⟨_, fun σ2 H2 z => ⟨_, Nat.lt_succ_self _, z⟩, hb P as1 σ' G1 H1 R1 _ fun as4 σ4 G4 H4 n4 R4 => ?_⟩
    exact ⟨as4, G4, _, _, (n'.trans n1).trans n4, R4, hl⟩
  | brk hc hb =>
    refine hc P as' σ' G' H' R' _ fun as1 G1 H1 n1 R1 => iteT ⟨fun _ _ => False, fun _ _ z => z.elim, hb P as1 σ' G1 H1 R1 _ fun as4 σ4 G4 H4 n4 R4 => ?_⟩
    exact q as4 σ4 G4 H4 ((n'.trans n1).trans n4) R4
  | ret hc hb =>
    refine hc P as' σ' G' H' R' _ fun as1 G1 H1 n1 R1 => iteT ⟨fun _ _ => False, fun _ _ z => z.elim, hb P as1 σ' G1 H1 R1 _ fun v as4 G4 H4 n4 R4 r4 => ?_⟩
    exact q v as4 G4 H4 ((n'.trans n1).trans n4) R4 r4

/-! ### comprehensions -/
def wipeE (ρ : Env') : List Nat → Env'
  | [] => ρ
  | v :: vs => (wipeE ρ vs).set v none
theorem wipeE_len : ∀ {vs : List Nat}, (wipeE ρ vs).length = ρ.length
  | [] => rfl
  | v :: vs => by unfold wipeE; rw [List.length_set, wipeE_len]
theorem wipeE_some {w : W} : ∀ {vs : List Nat} {i : Nat}, (wipeE ρ vs)[i]? = some (some w) → ρ[i]? = some (some w) ∧ i ∉ vs
  | [], i, h => ⟨h, by simp⟩
  | v :: vs, i, h => by
    unfold wipeE at h
    by_cases q : i = v
    · subst q
      have hl := (List.getElem?_eq_some_iff.mp h).1
      rw [List.length_set] at hl
      rw [List.getElem?_set_self hl] at h
      cases h
    · rw [List.getElem?_set_ne (fun z => q z.symm)] at h
      obtain ⟨h1, h2⟩ := wipeE_some h
      exact ⟨h1, by simp [q, h2]⟩
theorem wipe_at {σ : St} {v : V} : ∀ {vs : List Nat} {i : Nat}, σ[i]? = some (some v) → i ∉ vs → (wipe σ vs)[i]? = some (some v)
  | [], _, h, _ => h
  | k :: vs, i, h, hi => by
    unfold wipe
    rw [List.getElem?_set_ne (fun z => hi (by rw [z]; simp))]
    exact wipe_at h fun z => hi (List.mem_cons_of_mem _ z)
theorem set_none_comm {α : Type} {l : List (Option α)} {i j : Nat} : (l.set i none).set j none = (l.set j none).set i none := by
  by_cases h : i = j
  · rw [h]
  · exact List.set_comm _ _ h
theorem wipe_set {σ : St} {x : Option V} {i : Nat} : ∀ {vs : List Nat}, i ∈ vs → wipe (σ.set i x) vs = wipe σ vs
  | [], h => by cases h
  | k :: vs, h => by
    unfold wipe
    by_cases q : i ∈ vs
    · rw [wipe_set q]
    · have e : i = k := by
        rcases List.mem_cons.mp h with z | z
        · exact z
        · exact absurd z q
      subst e
      have aux : ∀ (us : List Nat) (τ : St), (wipe (τ.set i x) us).set i none = (wipe τ us).set i none := by
        intro us
        induction us with
        | nil => intro τ; unfold wipe; rw [List.set_set]
        | cons u us ih =>
          intro τ
          unfold wipe
          rw [set_none_comm, ih, set_none_comm]
      exact aux vs σ
theorem wipe_wipe {σ : St} {vs : List Nat} : wipe (wipe σ vs) vs = wipe σ vs := by
  have aux : ∀ us : List Nat, (∀ u ∈ us, u ∈ vs) → wipe (wipe σ us) vs = wipe σ vs := by
    intro us
    induction us with
    | nil => intro _; rfl
    | cons u us ih =>
      intro h
      show wipe ((wipe σ us).set u none) vs = wipe σ vs
      rw [wipe_set (h u (by simp))]
      exact ih fun k hk => h k (List.mem_cons_of_mem _ hk)
  exact aux vs fun _ h => h
/-- a target within a comprehension: its slots are among vs -/
def EvGc (K : PySem.W.Frag) (g : TG) (d : D) (vs : List Nat) (ρ ρ' : Env') : Prop := ∀ (P : Addr → Prop) (as : List Addr) (μ : Mu) (σ : St) (G H : Hp) (v : V), Rl K G H as P ρ μ σ → Rep K G d v → ∀ Q : St → Hp → Prop,
  (∀ σ', Rl K G H as P ρ' μ σ' → wipe σ' vs = wipe σ vs → Q σ' H) → g v σ H Q
def EvGcs (K : PySem.W.Frag) (g : TGs) (ds : List D) (vs : List Nat) (ρ ρ' : Env') : Prop := ∀ (P : Addr → Prop) (as : List Addr) (μ : Mu) (σ : St) (G H : Hp) (v : List V), Rl K G H as P ρ μ σ → RepL K G ds v → ∀ Q : St → Hp → Prop,
  (∀ σ', Rl K G H as P ρ' μ σ' → wipe σ' vs = wipe σ vs → Q σ' H) → g v σ H Q
theorem egc_name {vs : List Nat} (h : i ∈ vs := by decide) : EvGc K (gName i) d vs ρ (ρ.set i (some (.val d))) := fun P as μ σ G H v R r Q q => q _ (R.set (w := .val d) r) (wipe_set h)
theorem egcs_nil {vs : List Nat} : EvGcs K gNil [] vs ρ ρ := fun P as μ σ G H v R r Q q => ⟨r, q σ R rfl⟩
theorem egcs_cons {vs : List Nat} {g : TG} {gs : TGs} {ds : List D} (h1 : EvGc K g d vs ρ ρ1) (h2 : EvGcs K gs ds vs ρ1 ρ2) : EvGcs K (gCons g gs) (d :: ds) vs ρ ρ2 := fun P as μ σ G H vs' R ⟨v, r, ev, r1, r2⟩ Q q =>
  ⟨v, r, ev, h1 P as μ σ G H v R r1 _ fun σ1 R1 e1 => h2 P as μ σ1 G H r R1 r2 Q fun σ2 R2 e2 => q σ2 R2 (e2.trans e1)⟩
theorem egc_tup {vs : List Nat} {n : Nat} {gs : TGs} {ds : List D} (hn : ds.length = n) (h : EvGcs K gs ds vs ρ ρ1) : EvGc K (gTup K n gs) (.tup ds) vs ρ ρ1 := fun P as μ σ G H v R ⟨hz, a, us, ev, hs, hr⟩ Q q =>
  ⟨a, us, ev, same_sqt R.sub hs, by rw [hr.length]; exact hn, h P as μ σ G H us R hr Q q⟩
inductive Lc (K : PySem.W.Frag) (g : TG) (tt : TT) (te : TE) (vs : List Nat) (C : Mu → Prop) (ρ : Env') : List D → Mu → List D → Mu → Prop where
  | nil {μ : Mu} : Lc K g tt te vs C ρ [] μ [] μ
  | skip {x : D} {xs ys : List D} {ρ1 : Env'} {μ μ1 μ' : Mu} : EvGc K g x vs ρ ρ1 → EvB K tt ρ1 μ false μ1 → C μ1 → Lc K g tt te vs C ρ xs μ1 ys μ' → Lc K g tt te vs C ρ (x :: xs) μ ys μ'
  | take {x y : D} {xs ys : List D} {ρ1 : Env'} {μ μ1 μ2 μ' : Mu} : EvGc K g x vs ρ ρ1 → EvB K tt ρ1 μ true μ1 → Ev K te ρ1 μ1 (.val y) μ2 → C μ2 → Lc K g tt te vs C ρ xs μ2 ys μ' → Lc K g tt te vs C ρ (x :: xs) μ (y :: ys) μ'
section
variable {G H : Hp} {as : List Addr} {P P' : Addr → Prop} {σ : St}
theorem Rl.weak (R : Rl K G H as P' ρ μ σ) (h : ∀ a, P a → P' a) : Rl K G H as P ρ μ σ := ⟨R.sub, fun a q => R.pro a (h a q), R.nd, R.len, R.mu, R.wf, R.sz, R.env⟩
theorem Rl.guard (R : Rl K G H as P ρ μ σ) {p : Addr} (hg : G p = none) (hh : H p ≠ none) (ha : p ∉ as) : Rl K G H as (fun a => P a ∨ a = p) ρ μ σ := ⟨R.sub, fun a q => by
  rcases q with q | q
  · exact R.pro a q
  · subst q; exact ⟨hg, hh, ha⟩, R.nd, R.len, R.mu, R.wf, R.sz, R.env⟩
/-- a guarded thing is changed from outside -/
theorem Rl.touch (R : Rl K G H as P ρ μ σ) {p : Addr} (hp : P p) (o : HO) : Rl K G (upd H p o) as P ρ μ σ := by
  obtain ⟨g, _, n⟩ := R.pro p hp
  refine ⟨fun b u h => ?_, fun a q => ?_, R.nd, R.len, fun j a m h1 h2 => ?_, R.wf, R.sz, R.env⟩
  · rw [upd_ne (ne_of_none h g)]
    exact R.sub _ _ h
  · obtain ⟨h1, h2, h3⟩ := R.pro a q
    refine ⟨h1, ?_, h3⟩
    by_cases z : a = p
    · subst z
      rw [upd_same]
      simp
    · rw [upd_ne z]
      exact h2
  · have z : a ≠ p := fun e => n (e ▸ List.mem_of_getElem? h1)
    exact (R.mu j a m h1 h2).mono (Same.refl _) id (upd_ne z) ⟨[], by simp⟩
/-- a guarded list is data from now on -/
theorem Rl.adopt (R : Rl K G H as P' ρ μ σ) {p : Addr} {o : HO} (hp : P' p) (hP : ∀ a, P a → P' a ∧ a ≠ p) (hH : H p = some o) : Rl K (upd G p o) H as P ρ μ σ := by
  obtain ⟨g, _, n⟩ := R.pro p hp
  have e : Same G (upd G p o) := fun b u h => by rw [upd_ne (ne_of_none h g)]; exact h
  refine ⟨fun b u h => ?_, fun a q => ?_, R.nd, R.len, fun j a m h1 h2 => ?_, R.wf, R.sz, fun i w h => ?_⟩
  · by_cases z : b = p
    · subst z
      rw [upd_same] at h
      rw [hH]
      exact h
    · rw [upd_ne z] at h
      exact R.sub _ _ h
  · obtain ⟨q1, q2⟩ := hP a q
    obtain ⟨h1, h2, h3⟩ := R.pro a q1
    exact ⟨by rw [upd_ne q2]; exact h1, h2, h3⟩
  · have z : a ≠ p := fun e => n (e ▸ List.mem_of_getElem? h1)
    exact (R.mu j a m h1 h2).mono e (fun g => by rw [upd_ne z]; exact g) rfl ⟨[], by simp⟩
  · obtain ⟨v, h1, h2⟩ := R.env i w h
    exact ⟨v, h1, h2.mono e ⟨[], by simp⟩⟩
theorem Rl.wipe (R : Rl K G H as P ρ μ σ) (vs : List Nat) : Rl K G H as P (wipeE ρ vs) μ (L2.wipe σ vs) :=
  R.to (by rw [wipeE_len, wipe_length]; exact R.sz) fun i w h => by
    obtain ⟨h1, h2⟩ := wipeE_some h
    obtain ⟨v, h3, h4⟩ := R.env i w h1
    exact ⟨v, wipe_at h3 h2, h4⟩
end
theorem Nx.weak {P P' : Addr → Prop} {as as' : List Addr} {G G' H H' : Hp} (n : Nx P' as G H as' G' H') (h : ∀ a, P a → P' a) : Nx P as G H as' G' H' := ⟨n.pre, n.gr, fun a q => n.kp a (h a q)⟩
theorem ev_lc {wi : TI} {g : TG} {tt : TT} {vs : List Nat} {C : Mu → Prop} {xs ys : List D} (hi : EvI K wi ρ μ xs μ1 C) (h : Lc K g tt te vs C (wipeE ρ vs) xs μ1 ys μ2) (hz : xs.length ≤ LB) : Ev K (tLc wi g tt te vs) ρ μ (.val (.lst ys)) μ2 := fun P as σ G H R Q q =>
  hi.2 P as σ G H R _ fun J as0 G0 H0 n0 R0 it => fun p hp => by
    have gp : G0 p = none := R0.sub.free hp
    have np : ∀ a, P a → a ≠ p := fun a ha z => (R0.pro a ha).2.1 (by rw [z]; exact hp)
    have pas : p ∉ as0 := fun z => R0.here z hp
    refine ⟨fun i m H' => m = xs.length - i ∧ i ≤ xs.length ∧ ∃ as' G' μ' acc done rest, ys = done ++ rest ∧ Nx P as G H as' G' H' ∧ (∃ t, as' = as0 ++ t) ∧ C μ' ∧ Same G0 G' ∧ Rl K G' H' as' (fun a => P a ∨ a = p) ρ μ' σ ∧ H' p = some (.lst acc) ∧ RepL K G' done acc ∧ Lc K g tt te vs C (wipeE ρ vs) (xs.drop i) μ' rest μ2 ∧ done.length ≤ i,
      ⟨xs.length, rfl, Nat.zero_le _, as0, G0, μ1, [], [], ys, rfl, ?_, ⟨[], by simp⟩, hi.1, Same.refl _, ?_, upd_same, rfl, h, Nat.le_refl _⟩, ?_⟩
    · exact ⟨n0.pre, n0.gr, fun a ha => by rw [upd_ne (np a ha)]; exact n0.kp a ha⟩
    · have R1 := (R0.mut (m := .gone) hp (o := .lst []) (by show upd H0 p _ p ≠ none; rw [upd_same]; simp) rfl).1
      have R2 : Rl K G0 (upd H0 p (.lst [])) as0 P ρ μ1 σ := by
        refine ⟨R1.sub, fun a ha => ?_, R0.nd, R0.len, fun j a m h1 h2 => ?_, R0.wf, R0.sz, R0.env⟩
        · obtain ⟨h1, h2, h3⟩ := R0.pro a ha
          exact ⟨h1, by rw [upd_ne (np a ha)]; exact h2, h3⟩
        · have z : a ≠ p := fun e => pas (e ▸ List.mem_of_getElem? h1)
          exact (R0.mu j a m h1 h2).mono (Same.refl _) id (upd_ne z) ⟨[], by simp⟩
      exact R2.guard gp (by rw [upd_same]; simp) pas
    rintro i m H' ⟨rfl, hi, as', G', μ', acc, done, rest, ey, n', a', c', s', R', hH, rl, l', dl⟩
    obtain ⟨go, stop⟩ := it i _ as' ρ μ' σ G' H' s' a' c' R'
    cases e : xs[i]? with
    | none =>
      have hd : xs.drop i = [] := List.drop_eq_nil_of_le (List.getElem?_eq_none_iff.mp e)
      rw [hd] at l'
      cases l'
      rw [List.append_nil] at ey
      subst ey
      refine .inl ⟨stop e, ?_⟩
      have R3 : Rl K (upd G' p (.lst acc)) H' as' P ρ μ2 σ := R'.adopt (p := p) (.inr rfl) (fun a ha => ⟨.inl ha, np a ha⟩) hH
      have g' : G' p = none := (R'.pro p (.inr rfl)).1
      have s3 : Same G' (upd G' p (.lst acc)) := fun b u h => by rw [upd_ne (ne_of_none h g')]; exact h
      refine q _ as' _ H' ⟨n'.pre, n'.gr.trans s3, n'.kp⟩ R3 ⟨?_, p, acc, rfl, upd_same, RepL.mono s3 _ _ rl⟩
      have := List.getElem?_eq_none_iff.mp e
      omega
    | some d =>
      have hlt : i < xs.length := (List.getElem?_eq_some_iff.mp e).1
      have hd : xs.drop i = d :: xs.drop (i + 1) := by
        rw [List.drop_eq_getElem_cons hlt]
        have := (List.getElem?_eq_some_iff.mp e).2
        rw [this]
      obtain ⟨hgo, hy⟩ := go d e
      refine .inr ⟨hgo, _, fun H2 z => ⟨xs.length - (i + 1), by omega, z⟩, fun x H2 y => ?_⟩
      obtain ⟨G2, n2, R2, r2⟩ := hy x H2 y
      rw [hd] at l'
      have np2 : ∀ a, P a → P a ∨ a = p := fun a ha => .inl ha
      cases l' with
      | skip hg ht hC hl =>
        refine hg _ as' μ' _ G2 H2 x (R2.wipe vs) r2 _ fun σ3 R3 e3 => ⟨e3.trans wipe_wipe, ht _ as' σ3 G2 H2 R3 _ fun as4 G4 H4 n4 R4 => iteF ?_⟩
        refine ⟨rfl, hlt, as4, G4, _, acc, done, rest, ey, n'.trans ((n2.trans n4).weak np2), pre_tr a' n4.pre, hC, s'.trans (n2.gr.trans n4.gr), ?_, ?_, RepL.mono (n2.gr.trans n4.gr) _ _ rl, hl, Nat.le_succ_of_le dl⟩
        · exact R4.to R2.sz fun k w hk => by
            obtain ⟨v, h1, h2⟩ := R2.env k w hk
            exact ⟨v, h1, h2.mono n4.gr n4.pre⟩
        · exact (n4.kp p (.inr rfl)).trans ((n2.kp p (.inr rfl)).trans hH)
      | take hg ht hv hC hl =>
        rename_i yv ys' ρ1 μ1' μ2'
        refine hg _ as' μ' _ G2 H2 x (R2.wipe vs) r2 _ fun σ3 R3 e3 => ⟨e3.trans wipe_wipe, ht _ as' σ3 G2 H2 R3 _ fun as4 G4 H4 n4 R4 => iteT ?_⟩
        refine hv _ as4 σ3 G4 H4 R4 _ fun v5 as5 G5 H5 n5 R5 r5 => ?_
        have h5 : H5 p = some (.lst acc) := (n5.kp p (.inr rfl)).trans ((n4.kp p (.inr rfl)).trans ((n2.kp p (.inr rfl)).trans hH))
        have al : acc.length = done.length := rl.length
        refine ⟨acc, h5, by rw [al]; exact Nat.lt_of_lt_of_le (Nat.lt_of_le_of_lt dl hlt) (Nat.le_trans hz (by decide)), ?_⟩
        have ng := (n2.trans n4).trans n5
        refine ⟨rfl, hlt, as5, G5, _, acc ++ [v5], done ++ [_], _, by rw [ey, List.append_assoc]; rfl, ?_, pre_tr a' (n4.trans n5).pre, hC, s'.trans ng.gr, ?_, upd_same, (RepL.mono ng.gr _ _ rl).append (RepL.cons r5 RepL.nil), hl, by rw [List.length_append]; exact Nat.succ_le_succ dl⟩
        · have n6 := n'.trans (ng.weak np2)
          exact ⟨n6.pre, n6.gr, fun a ha => by rw [upd_ne (np a ha)]; exact n6.kp a ha⟩
        · have R6 : Rl K G5 H5 as5 (fun a => P a ∨ a = p) ρ μ2' σ := R5.to R2.sz fun k w hk => by
            obtain ⟨v, h1, h2⟩ := R2.env k w hk
            exact ⟨v, h1, h2.mono (n4.gr.trans n5.gr) (n4.trans n5).pre⟩
          exact R6.touch (.inr rfl) _
/-- a comprehension without state -/
theorem lc_pure {g : TG} {tt : TT} {vs : List Nat} {C : Mu → Prop} (hC : C μ) {p : D → Bool} {f : D → D} : ∀ {xs : List D}, (∀ x ∈ xs, ∃ ρ1, EvGc K g x vs ρ ρ1 ∧ EvB K tt ρ1 μ (p x) μ ∧ (p x = true → Ev K te ρ1 μ (.val (f x)) μ)) → Lc K g tt te vs C ρ xs μ ((xs.filter p).map f) μ
  | [], _ => .nil
  | x :: xs, h => by
    obtain ⟨ρ1, h1, h2, h3⟩ := h x (by simp)
    have ih : Lc K g tt te vs C ρ xs μ ((xs.filter p).map f) μ := lc_pure hC fun y hy => h y (List.mem_cons_of_mem _ hy)
    cases e : p x with
    | true =>
      rw [List.filter_cons_of_pos e, List.map_cons]
      exact .take h1 (e ▸ h2) (h3 e) hC ih
    | false =>
      rw [List.filter_cons_of_neg (by rw [e]; exact Bool.false_ne_true)]
      exact .skip h1 (e ▸ h2) hC ih
theorem eb_yes : EvB K tYes ρ μ true μ := fun P as σ G H R Q q => q as G H .refl R
theorem lc_map {g : TG} {vs : List Nat} {C : Mu → Prop} (hC : C μ) {f : D → D} : ∀ {xs : List D}, (∀ x ∈ xs, ∃ ρ1, EvGc K g x vs ρ ρ1 ∧ Ev K te ρ1 μ (.val (f x)) μ) → Lc K g tYes te vs C ρ xs μ (xs.map f) μ
  | [], _ => .nil
  | x :: xs, h => by
    obtain ⟨ρ1, h1, h3⟩ := h x (by simp)
    exact .take h1 eb_yes h3 hC (lc_map hC fun y hy => h y (List.mem_cons_of_mem _ hy))
end
end DK

/-! DK2: defs, calls, instances. -/
namespace DK
open PySem PySem.Spec L2

section
variable {K : PySem.W.Frag} {ρ ρ1 ρ2 : Env'} {μ μ1 μ2 μ3 : Mu} {ta tb te tc : TE} {w : W} {a b d : D} {i : Nat} {G H : Hp} {as : List Addr} {P : Addr → Prop} {σ : St}

/-! ### a def's promise by a relation -/
abbrev Phi := List W → Mu → W → Mu → Prop
def spD (K : PySem.W.Frag) (Φ : Phi) : Sp := fun vs H Q _ => ∃ (P : Addr → Prop) (as : List Addr) (G : Hp) (ws : List W) (μ : Mu) (w : W) (μ' : Mu), Φ ws μ w μ' ∧ Rl K G H as P (ws.map some) μ (vs.map some) ∧
  ∀ v as' G' H', Nx P as G H as' G' H' → Rl K G' H' as' P [] μ' [] → RepW K G' as' w v → Q v H'
/-- data in, data out, nothing changes -/
def PhiR (r : List D → D → Prop) : Phi := fun ws μ w μ' => ∃ ds d, ws = ds.map W.val ∧ r ds d ∧ w = .val d ∧ μ' = μ
abbrev spR (K : PySem.W.Frag) (r : List D → D → Prop) : Sp := spD K (PhiR r)

theorem RepWs.get : ∀ {ws : List W} {vs : List V} {i : Nat} {w : W}, RepWs K G as ws vs → ws[i]? = some w → ∃ v, vs[i]? = some v ∧ RepW K G as w v
  | [], _, _, _, _, e => by simp at e
  | _ :: _, _, 0, _, ⟨v, r, ev, h1, _⟩, e => by
    subst ev
    simp at e
    subst e
    exact ⟨v, rfl, h1⟩
  | _ :: _, _, i + 1, d, ⟨v, r, ev, _, h2⟩, e => by
    subst ev
    obtain ⟨u, q1, q2⟩ := RepWs.get (i := i) (w := d) h2 (by simpa using e)
    exact ⟨u, by simpa using q1, q2⟩
theorem RepWs.append : ∀ {ds es : List W} {vs us : List V}, RepWs K G as ds vs → RepWs K G as es us → RepWs K G as (ds ++ es) (vs ++ us)
  | [], _, _, _, h, k => by rw [show _ = [] from h]; exact k
  | _ :: _, _, _, _, ⟨v, r, e, h1, h2⟩, k => by rw [e]; exact ⟨v, r ++ _, rfl, h1, RepWs.append h2 k⟩
/-- the arguments as an environment -/
theorem Rl.args (R : Rl K G H as P ρ μ σ) {ws : List W} {vs : List V} (h : RepWs K G as ws vs) : Rl K G H as P (ws.map some) μ (vs.map some) :=
  R.to (by rw [List.length_map, List.length_map, h.length]) fun i w q => by
    rw [List.getElem?_map] at q
    cases e : ws[i]? with
    | none => rw [e] at q; cases q
    | some u =>
      rw [e] at q
      cases q
      obtain ⟨v, h1, h2⟩ := h.get e
      exact ⟨v, by rw [List.getElem?_map, h1]; rfl, h2⟩
/-- behind a call: the caller's environment again -/
theorem Rl.back {as' : List Addr} {G' H' : Hp} (R : Rl K G H as P ρ μ σ) (n : Nx P as G H as' G' H') (R' : Rl K G' H' as' P [] μ1 []) : Rl K G' H' as' P ρ μ1 σ :=
  R'.to R.sz fun i w h => by
    obtain ⟨v, h1, h2⟩ := R.env i w h
    exact ⟨v, h1, h2.mono n.gr n.pre⟩
theorem call_phi {Φ : Phi} {ws : List W} {vs : List V} {Q : VK} {E : XK} (R : Rl K G H as P ρ μ σ) (r : RepWs K G as ws vs) (h : Φ ws μ w μ1) (q : ∀ v as' G' H', Nx P as G H as' G' H' → Rl K G' H' as' P ρ μ1 σ → RepW K G' as' w v → Q v H') : spD K Φ vs H Q E :=
  ⟨P, as, G, ws, μ, w, μ1, h, R.args r, fun v as' G' H' n R' rv => q v as' G' H' n (R.back n R') rv⟩
/-- defaults: data that stands in every heap -/
def Dfl (K : PySem.W.Frag) (ds : List D) (vs : List V) : Prop := ∀ G, RepL K G ds vs
theorem ev_callW {Φ : Phi} {t : TA} {ws : List W} {dds : List D} {dvs : List V} {E : XK} (ha : EvA K t ρ μ ws μ1) (hd : Dfl K dds dvs) (h : Φ (ws ++ dds.map .val) μ1 w μ2) : Ev K (tCall (spD K Φ) dvs E t) ρ μ w μ2 := fun P as σ G H R Q q =>
  ha P as σ G H R _ fun vs as1 G1 H1 n1 R1 r1 => call_phi R1 (r1.append (RepWs.vals.mpr (hd G1))) h fun v as2 G2 H2 n2 R2 r2 => q v as2 G2 H2 (n1.trans n2) R2 r2
theorem ev_call {r : List D → D → Prop} {t : TA} {ds dds : List D} {dvs : List V} {E : XK} (ha : EvD K t ρ μ ds μ1) (hd : Dfl K dds dvs) (h : r (ds ++ dds) d) : Ev K (tCall (spR K r) dvs E t) ρ μ (.val d) μ1 :=
  ev_callW ha hd ⟨ds ++ dds, d, by rw [List.map_append], h, rfl, rfl⟩
theorem dfl_nil : Dfl K [] [] := fun _ => rfl
theorem ev_call0 {r : List D → D → Prop} {t : TA} {ds : List D} {E : XK} (ha : EvD K t ρ μ ds μ1) (h : r ds d) : Ev K (tCall (spR K r) [] E t) ρ μ (.val d) μ1 := ev_call ha dfl_nil (by rw [List.append_nil]; exact h)
theorem lookup_zip_none {m : Str} : ∀ {ns : List Str} {vs : List V}, ns.contains m = false → (ns.zip vs).lookup m = none
  | [], _, _ => by simp
  | _ :: _, [], _ => by simp
  | n :: ns, v :: vs, h => by
    rw [List.contains_cons, Bool.or_eq_false_iff] at h
    rw [List.zip_cons_cons, List.lookup_cons, h.1]
    exact lookup_zip_none h.2
/-- o.m(..) of an object that never changes -/
theorem ev_methW {Φ : Phi} {t : TA} {c m : Str} {ns : List Str} {os : List D} {ws : List W} {dds : List D} {dvs : List V} {E : XK} (ho : Ev K ta ρ μ (.val (.obj c ns os)) μ1) (hm : ns.contains m = false) (ha : EvA K t ρ μ1 ws μ2) (hd : Dfl K dds dvs)
    (h : Φ (.val (.obj c ns os) :: (ws ++ dds.map .val)) μ2 w μ3) : Ev K (tMeth (He.ga K c) m (spD K Φ) dvs E ta t) ρ μ w μ3 := fun P as σ G H R Q q =>
  ho P as σ G H R _ fun v as1 G1 H1 n1 R1 r1 => by
    obtain ⟨_, a, dx, vs, ev, g, hl, r⟩ := id r1
    refine ⟨a, dx, _, ev, R1.sub _ _ g, lookup_zip_none hm, ?_⟩
    refine ha P as1 σ G1 H1 R1 _ fun us as2 G2 H2 n2 R2 r2 => ?_
    exact call_phi (ws := .val (.obj c ns os) :: (ws ++ dds.map .val)) R2 ⟨v, _, rfl, RepW.mono (w := .val _) n2.gr n2.pre r1, r2.append (RepWs.vals.mpr (hd G2))⟩ h fun v as3 G3 H3 n3 R3 r3 => q v as3 G3 H3 ((n1.trans n2).trans n3) R3 r3
theorem ev_meth {r : List D → D → Prop} {t : TA} {c m : Str} {ns : List Str} {os ds dds : List D} {dvs : List V} {E : XK} (ho : Ev K ta ρ μ (.val (.obj c ns os)) μ1) (hm : ns.contains m = false) (ha : EvD K t ρ μ1 ds μ2) (hd : Dfl K dds dvs)
    (h : r (.obj c ns os :: (ds ++ dds)) d) : Ev K (tMeth (He.ga K c) m (spR K r) dvs E ta t) ρ μ (.val d) μ2 :=
  ev_methW ho hm ha hd ⟨.obj c ns os :: (ds ++ dds), d, by simp, h, rfl, rfl⟩
theorem ev_meth0 {r : List D → D → Prop} {t : TA} {c m : Str} {ns : List Str} {os ds : List D} {E : XK} (ho : Ev K ta ρ μ (.val (.obj c ns os)) μ1) (hm : ns.contains m = false) (ha : EvD K t ρ μ1 ds μ2)
    (h : r (.obj c ns os :: ds) d) : Ev K (tMeth (He.ga K c) m (spR K r) [] E ta t) ρ μ (.val d) μ2 := ev_meth ho hm ha dfl_nil (by rw [List.append_nil]; exact h)
/-- o.m(..) of a mutable instance -/
theorem lookup_fs {m : Str} : ∀ {fs : List (Str × W)} {vs : List (Str × V)}, RepFs K G as fs vs → fs.lookup m = none → vs.lookup m = none
  | [], _, h, _ => by rw [show _ = [] from h]; rfl
  | (f, w) :: fs, _, ⟨v, r, ev, _, h2⟩, h => by
    subst ev
    rw [List.lookup_cons] at h ⊢
    cases e : m == f with
    | true => rw [e] at h; cases h
    | false =>
      rw [e] at h
      exact lookup_fs h2 h
theorem lookup_fsome {m : Str} : ∀ {fs : List (Str × W)} {vs : List (Str × V)} {w : W}, RepFs K G as fs vs → fs.lookup m = some w → ∃ v, vs.lookup m = some v ∧ RepW K G as w v
  | [], _, _, _, h => by cases h
  | (f, w') :: fs, _, w, ⟨v, r, ev, h1, h2⟩, h => by
    subst ev
    rw [List.lookup_cons] at h ⊢
    cases e : m == f with
    | true =>
      rw [e] at h
      cases h
      exact ⟨v, rfl, h1⟩
    | false =>
      rw [e] at h
      exact lookup_fsome h2 h
theorem ev_methM {Φ : Phi} {t : TA} {c m : Str} {j : Nat} {fs : List (Str × W)} {ws : List W} {dds : List D} {dvs : List V} {E : XK} (ho : Ev K ta ρ μ (.loc j) μ1) (hj : μ1[j]? = some (.ins c fs)) (hm : fs.lookup m = none) (ha : EvA K t ρ μ1 ws μ2) (hd : Dfl K dds dvs)
    (h : Φ (.loc j :: (ws ++ dds.map .val)) μ2 w μ3) : Ev K (tMeth (He.ga K c) m (spD K Φ) dvs E ta t) ρ μ w μ3 := fun P as σ G H R Q q =>
  ho P as σ G H R _ fun v as1 G1 H1 n1 R1 r1 => by
    obtain ⟨a, ha', ev⟩ := id r1
    obtain ⟨g, z, dx, vs, hh, rf⟩ := R1.mu j a _ ha' hj
    refine ⟨a, dx, _, ev, hh, lookup_fs rf hm, ?_⟩
    refine ha P as1 σ G1 H1 R1 _ fun us as2 G2 H2 n2 R2 r2 => ?_
    exact call_phi (ws := .loc j :: (ws ++ dds.map .val)) R2 ⟨v, _, rfl, RepW.mono (w := .loc j) n2.gr n2.pre r1, r2.append (RepWs.vals.mpr (hd G2))⟩ h fun v as3 G3 H3 n3 R3 r3 => q v as3 G3 H3 ((n1.trans n2).trans n3) R3 r3
theorem ev_fldM {c f : Str} {j : Nat} {fs : List (Str × W)} (ho : Ev K ta ρ μ (.loc j) μ1) (hj : μ1[j]? = some (.ins c fs)) (hc : Cls K (He.ga K c)) (hn : NoAttr K (He.ga K c) f) (hf : fs.lookup f = some w) : Ev K (tFld K ta f) ρ μ w μ1 := fun P as σ G H R Q q =>
  ho P as σ G H R _ fun v as1 G1 H1 n1 R1 r1 => by
    obtain ⟨a, ha', ev⟩ := id r1
    obtain ⟨g, z, dx, vs, hh, rf⟩ := R1.mu j a _ ha' hj
    obtain ⟨u, e1, e2⟩ := lookup_fsome rf hf
    exact ⟨a, _, dx, _, u, ev, hh, hc, hn, e1, q u as1 G1 H1 n1 R1 e2⟩
def putW (f : Str) (w : W) : List (Str × W) → List (Str × W)
  | [] => [(f, w)]
  | (g, x) :: r => if g = f then (g, w) :: r else (g, x) :: putW f w r
theorem putW_rep {f : Str} {v : V} (hw : RepW K G as w v) : ∀ {fs : List (Str × W)} {vs : List (Str × V)}, RepFs K G as fs vs → RepFs K G as (putW f w fs) (putF f v vs)
  | [], _, h => by
    rw [show _ = [] from h]
    exact ⟨v, [], rfl, hw, rfl⟩
  | (g, x) :: fs, _, ⟨u, r, ev, h1, h2⟩ => by
    subst ev
    unfold putW putF
    by_cases e : g = f
    · rw [if_pos e, if_pos e]
      exact ⟨v, r, rfl, hw, h2⟩
    · rw [if_neg e, if_neg e]
      exact ⟨u, _, rfl, h1, putW_rep hw h2⟩
theorem putW_len {w : W} {f : Str} : ∀ {fs : List (Str × W)}, (putW f w fs).length ≤ fs.length + 1
  | [] => Nat.le_refl _
  | (g, x) :: fs => by
    unfold putW
    split
    · simp
    · simp only [List.length_cons]
      have := putW_len (f := f) (w := w) (fs := fs)
      omega
theorem putW_below {f : Str} {n : Nat} (hw : w.below n = true) : ∀ {fs : List (Str × W)}, (fs.all fun p => p.2.below n) = true → ((putW f w fs).all fun p => p.2.below n) = true
  | [], _ => by
    show (w.below n && true) = true
    rw [hw]
    rfl
  | (g, x) :: fs, h => by
    rw [List.all_cons, Bool.and_eq_true] at h
    unfold putW
    split
    · rw [List.all_cons, Bool.and_eq_true]
      exact ⟨hw, h.2⟩
    · rw [List.all_cons, Bool.and_eq_true]
      exact ⟨h.1, putW_below hw h.2⟩
theorem RepFs.length : ∀ {fs : List (Str × W)} {vs : List (Str × V)}, RepFs K G as fs vs → vs.length = fs.length
  | [], _, h => by rw [show _ = [] from h]; rfl
  | (_, _) :: _, _, ⟨_, _, e, _, h⟩ => by rw [e, List.length_cons, List.length_cons, RepFs.length h]
theorem ex_fld {c f : Str} {j : Nat} {fs : List (Str × W)} (hv : Ev K tb ρ μ w μ1) (ho : Ev K ta ρ μ1 (.loc j) μ2) (hj : μ2[j]? = some (.ins c fs)) (hc : Cls K (He.ga K c)) (hn : NoAttr K (He.ga K c) f) (hz : fs.length < 100) (hw : w.below μ2.length = true) :
    Ex K (sFld K ta tb f) ρ μ (.nx ρ (μ2.set j (.ins c (putW f w fs)))) := fun P as σ G H R E q =>
  hv P as σ G H R _ fun v as1 G1 H1 n1 R1 r1 => ho P as1 σ G1 H1 R1 _ fun x as2 G2 H2 n2 R2 r2 => by
    obtain ⟨a, ha', ev⟩ := id r2
    obtain ⟨g, z, dx, vs, hh, rf⟩ := R2.mu j a _ ha' hj
    refine ⟨a, _, dx, vs, ev, hh, hc, hn, by rw [rf.length]; omega, ?_⟩
    have r1' := r1.mono n2.gr n2.pre
    obtain ⟨R3, n3⟩ := R2.put (o := .ins (He.ga K c) dx (putF f v vs)) (m' := .ins c (putW f w fs)) ha' hj g ⟨g, by have := putW_len (f := f) (w := w) (fs := fs); omega, dx, _, upd_same, putW_rep r1' rf⟩
      (putW_below hw (R2.wf _ (List.mem_of_getElem? hj)))
    exact q as2 σ G2 _ ((n1.trans n2).trans n3) R3

/-! ### new instances -/
/-- __init__ of an object that then never changes: from the arguments to its fields -/
def PhiInit (c : Str) (r : List D → List Str → List D → Prop) : Phi := fun ws μ w μ' => ∃ (μ0 : Mu) (ds : List D) (ns : List Str) (fs : List D), ws = .loc μ0.length :: ds.map W.val ∧ μ = μ0 ++ [.ins c []] ∧ r ds ns fs ∧ ns.length = fs.length ∧ w = .val .non ∧ μ' = μ0 ++ [.ins c (ns.zip (fs.map W.val))]
theorem RepFs.vals : ∀ {ns : List Str} {ds : List D} {vs : List (Str × V)}, ns.length = ds.length → RepFs K G as (ns.zip (ds.map W.val)) vs → ∃ us, vs = ns.zip us ∧ RepL K G ds us
  | [], [], _, _, h => ⟨[], h, rfl⟩
  | [], _ :: _, _, e, _ => by cases e
  | _ :: _, [], _, e, _ => by cases e
  | n :: ns, d :: ds, _, e, ⟨v, r, ev, h1, h2⟩ => by
    obtain ⟨us, e1, e2⟩ := RepFs.vals (by simpa using e) h2
    subst ev e1
    exact ⟨v :: us, rfl, v, us, rfl, h1, e2⟩
theorem Rl.junk (R : Rl K G H as P ρ μ σ) {p : Addr} (hp : H p = none) (o : HO) : Rl K G (upd H p o) as P ρ μ σ ∧ Nx P as G H as G (upd H p o) := by
  have gp : G p = none := R.sub.free hp
  have ne : ∀ {a}, H a ≠ none → a ≠ p := fun h z => h (by rw [z]; exact hp)
  refine ⟨⟨fun b u h => ?_, fun a h => ?_, R.nd, R.len, fun j a m h1 h2 => ?_, R.wf, R.sz, R.env⟩, ⟨⟨[], by simp⟩, Same.refl _, fun a h => upd_ne (ne (R.pro a h).2.1)⟩⟩
  · rw [upd_ne (ne_of_none h gp)]
    exact R.sub _ _ h
  · obtain ⟨h1, h2, h3⟩ := R.pro a h
    exact ⟨h1, by rw [upd_ne (ne h2)]; exact h2, h3⟩
  · have q := R.mu j a m h1 h2
    exact q.mono (Same.refl _) id (upd_ne (ne (q.here R.sub))) ⟨[], by simp⟩
/-- the last mutable thing of the store becomes data -/
theorem Rl.settle (R : Rl K G H as P ρ (μ ++ [.ins c (ns.zip (fs.map W.val))]) σ) (hl : ns.length = fs.length) (wf : ∀ m : MO, m ∈ μ → m.below μ.length = true) {x : Addr} {as0 : List Addr} (ha : as = as0 ++ [x])
    (he : ∀ (i : Nat) (w : W), ρ[i]? = some (some w) → w.below μ.length = true) (ck : ClsOk K (He.ga K c)) : ∃ G', Same G G' ∧ Rl K G' H as0 P ρ μ σ ∧ Rep K G' (.obj c ns fs) (.ref x) := by
  have hlen : as0.length = μ.length := by
    have := R.len
    rw [ha] at this
    simpa using this
  have hx : as[μ.length]? = some x := by rw [ha, ← hlen, List.getElem?_append_right (Nat.le_refl _)]; simp
  obtain ⟨g, z, dx, vs, hh, rf⟩ := R.mu μ.length x _ hx (by rw [List.getElem?_append_right (Nat.le_refl _)]; simp; rfl)
  obtain ⟨us, e1, e2⟩ := RepFs.vals hl rf
  subst e1
  have hd := R.drop (μ0 := μ) (t := [.ins c (ns.zip (fs.map W.val))]) rfl wf
  have tk : as.take μ.length = as0 := by rw [ha, ← hlen]; simp
  rw [tk] at hd
  have xn : x ∉ as0 := fun hm => by
    have := R.nd
    rw [ha] at this
    exact (List.nodup_append.mp this).2.2 x hm x (by simp) rfl
  have xP : ∀ a, P a → a ≠ x := fun a hp z => (R.pro a hp).2.2 (by rw [ha, z]; simp)
  have e : Same G (upd G x (.ins (He.ga K c) dx (ns.zip us))) := fun b u h => by rw [upd_ne (ne_of_none h g)]; exact h
  have R1 : Rl K G H as0 P ρ μ σ := hd.to R.sz fun i w h => by
    obtain ⟨v, h1, h2⟩ := R.env i w h
    refine ⟨v, h1, ?_⟩
    have hb := he i w h
    cases w with
    | val d => exact h2
    | loc k =>
      obtain ⟨b, q1, q2⟩ := h2
      refine ⟨b, ?_, q2⟩
      rw [ha, List.getElem?_append_left (by rw [hlen]; exact of_decide_eq_true hb)] at q1
      exact q1
  refine ⟨_, e, (R1.guard g (by rw [hh]; simp) xn).adopt (p := x) (.inr rfl) (fun a hp => ⟨.inl hp, xP a hp⟩) hh, ck, x, dx, us, rfl, upd_same, hl, RepL.mono e _ _ e2⟩
theorem make_phi {c : Str} {r : List D → List Str → List D → Prop} {ds : List D} {ns : List Str} {fs : List D} {vs : List V} {Q : VK} {E : XK} (R : Rl K G H as P ρ μ σ) (rv : RepL K G ds vs) (h : r ds ns fs) (hl : ns.length = fs.length) (ck : ClsOk K (He.ga K c))
    (q : ∀ v G' H', Nx P as G H as G' H' → Rl K G' H' as P ρ μ σ → Rep K G' (.obj c ns fs) v → Q v H') : ∀ x dx, H x = none → H dx = none → dx ≠ x →
      spD K (PhiInit c r) (.ref x :: vs) (upd (upd H dx (.own x)) x (.ins (He.ga K c) dx [])) (fun v H2 => v = .non ∧ Q (.ref x) H2) E := by
  intro x dx hx hdx ne
  obtain ⟨R1, n1⟩ := R.junk hdx (.own x)
  have hx1 : upd H dx (.own x) x = none := by rw [upd_ne (Ne.symm ne)]; exact hx
  obtain ⟨R2, n2⟩ := R1.mut (m := .ins c []) (o := .ins (He.ga K c) dx []) hx1 ⟨R1.sub.free hx1, Nat.zero_le _, dx, [], upd_same, rfl⟩ rfl
  have hlen := R.len
  refine call_phi (P := P) (as := as ++ [x]) (G := G) (ws := .loc μ.length :: ds.map W.val) (w := .val .non) (μ1 := μ ++ [.ins c (ns.zip (fs.map W.val))]) R2 ⟨.ref x, vs, rfl, ⟨x, by rw [← hlen, List.getElem?_append_right (Nat.le_refl _)]; simp, rfl⟩, RepWs.vals.mpr rv⟩ ⟨μ, ds, ns, fs, rfl, rfl, h, hl, rfl, rfl⟩ ?_
  intro v as3 G3 H3 n3 R3 r3
  obtain ⟨t, et⟩ := n3.pre
  have t0 : t = [] := by
    have h1 := R3.len
    rw [et] at h1
    simp [hlen] at h1
    exact h1
  rw [t0, List.append_nil] at et
  have he : ∀ (i : Nat) (w : W), ρ[i]? = some (some w) → w.below μ.length = true := fun i w hi => by
    obtain ⟨u, _, hu⟩ := R.env i w hi
    cases w with
    | val d => rfl
    | loc k =>
      obtain ⟨b, hb, _⟩ := hu
      exact decide_eq_true (by rw [← hlen]; exact (List.getElem?_eq_some_iff.mp hb).1)
  obtain ⟨G4, s4, R4, r4⟩ := Rl.settle R3 hl R.wf et he ck
  refine ⟨r3, q _ G4 H3 ?_ R4 r4⟩
  have n := (n1.trans n2).trans n3
  exact ⟨⟨[], by simp⟩, n.gr.trans s4, n.kp⟩
theorem ev_make {c : Str} {r : List D → List Str → List D → Prop} {t : TA} {ds dds : List D} {dvs : List V} {ns : List Str} {fs : List D} {E : XK} (ha : EvD K t ρ μ ds μ1) (hd : Dfl K dds dvs) (h : r (ds ++ dds) ns fs) (hl : ns.length = fs.length) (ck : ClsOk K (He.ga K c)) :
    Ev K (tMake (He.ga K c) (spD K (PhiInit c r)) dvs E t) ρ μ (.val (.obj c ns fs)) μ1 := fun P as σ G H R Q q =>
  ha P as σ G H R _ fun vs as1 G1 H1 n1 R1 r1 => make_phi R1 ((RepWs.vals.mp r1).append (hd G1)) h hl ck fun v G2 H2 n2 R2 r2 => q v as1 G2 H2 (n1.trans n2) R2 r2
theorem ev_make0 {c : Str} {r : List D → List Str → List D → Prop} {t : TA} {ds : List D} {ns : List Str} {fs : List D} {E : XK} (ha : EvD K t ρ μ ds μ1) (h : r ds ns fs) (hl : ns.length = fs.length) (ck : ClsOk K (He.ga K c)) :
    Ev K (tMake (He.ga K c) (spD K (PhiInit c r)) [] E t) ρ μ (.val (.obj c ns fs)) μ1 := ev_make ha dfl_nil (by rw [List.append_nil]; exact h) hl ck

/-! ### a def's body keeps its promise -/
structure FnD (K : PySem.W.Frag) (t : TS) (n : Nat) (Φ : Phi) : Prop where
  run : ∀ (ws : List W) (μ : Mu) (w : W) (μ' : Mu), Φ ws μ w μ' → (∀ m : MO, m ∈ μ → m.below μ.length = true) → ∃ tail : Mu, μ.length ≤ μ'.length ∧ w.below μ'.length = true ∧ (∀ m : MO, m ∈ μ' → m.below μ'.length = true) ∧
    (Ex K t (ws.map some ++ List.replicate (n - ws.length) none) μ (.rt w (μ' ++ tail)) ∨ (w = .val .non ∧ ∃ ρ', Ex K t (ws.map some ++ List.replicate (n - ws.length) none) μ (.nx ρ' (μ' ++ tail))))
theorem fn_rd {t : TS} {N : List Str} {Φ : Phi} (F : FnD K t N.length Φ) {vs : List V} {Q : VK} {E : XK} (h : spD K Φ vs H Q E) : t { nx := fun _ H' => Q .non H', rt := Q } (L2.start N vs) H := by
  obtain ⟨P, as, G, ws, μ, w, μ', hΦ, R, q⟩ := h
  obtain ⟨tail, hl, hb, hwf, ho⟩ := F.run ws μ w μ' hΦ R.wf
  have hz : ws.length = vs.length := by simpa using R.sz
  have R0 : Rl K G H as P (ws.map some ++ List.replicate (N.length - ws.length) none) μ (L2.start N vs) := R.to (by unfold L2.start; simp [hz]) fun i w hi => by
    unfold L2.start
    by_cases hlt : i < ws.length
    · rw [List.getElem?_append_left (by simpa using hlt)] at hi
      rw [List.getElem?_append_left (by simpa [← hz] using hlt)]
      exact R.env i w hi
    · rw [List.getElem?_append_right (by simpa using hlt)] at hi
      rw [List.getElem?_replicate] at hi
      split at hi <;> cases hi
  have fin : ∀ v as' G' H', Nx P as G H as' G' H' → Rl K G' H' as' P [] (μ' ++ tail) [] → RepW K G' as' w v → Q v H' := fun v as' G' H' n R' r => by
    refine q v (as'.take μ'.length) G' H' ⟨?_, n.gr, n.kp⟩ (R'.drop rfl hwf) ?_
    · obtain ⟨t, et⟩ := n.pre
      refine ⟨t.take (μ'.length - as.length), ?_⟩
      have : as.length ≤ μ'.length := by rw [R.len]; exact hl
      rw [et, List.take_append, List.take_of_length_le this]
    · cases w with
      | val d => exact r
      | loc k =>
        obtain ⟨b, q1, q2⟩ := r
        exact ⟨b, by rw [List.getElem?_take_of_lt (of_decide_eq_true hb)]; exact q1, q2⟩
  rcases ho with ho | ⟨ew, ρ', ho⟩
  · exact ho P as _ G H R0 _ fun v as' G' H' n R' r => fin v as' G' H' n R' r
  · exact ho P as _ G H R0 _ fun as' σ' G' H' n R' => fin .non as' G' H' n R'.nil (by rw [ew]; rfl)
/-- data in, data out: the body at each arguments -/
theorem fn_R {t : TS} {n : Nat} {r : List D → D → Prop} (h : ∀ ds d μ, r ds d → ∃ tail, Ex K t (ds.map (fun d => some (W.val d)) ++ List.replicate (n - ds.length) none) μ (.rt (.val d) (μ ++ tail))) : FnD K t n (PhiR r) := ⟨fun ws μ w μ' ⟨ds, d, e1, hr, e2, e3⟩ wf => by
  obtain ⟨tail, hx⟩ := h ds d μ hr
  subst e1 e2 e3
  exact ⟨tail, Nat.le_refl _, rfl, wf, .inl (by rw [List.map_map, List.length_map]; exact hx)⟩⟩
end
end DK

/-! DK3: operations on data. -/
namespace DK
open PySem PySem.Spec L2

section
variable {K : PySem.W.Frag}
/-! ### operators -/
theorem OpR.or {X : Cx} {f : Value → Value → Sem Value} {r r' : R2} (h : OpR X f r) (h' : OpR X f r') : OpR X f (fun x y H Q => r x y H Q ∨ r' x y H Q) := fun pins s σ H x y u v Q I rx ry q => by
  rcases q with q | q
  · exact h pins s σ H x y u v Q I rx ry q
  · exact h' pins s σ H x y u v Q I rx ry q
theorem CallR.or {X : Cx} {f : Value} {r r' : List V → Hp → VK → Prop} (h : CallR X f r) (h' : CallR X f r') : CallR X f (fun xs H Q => r xs H Q ∨ r' xs H Q) := fun pins s σ H vs us Q I rv q => by
  rcases q with q | q
  · exact h pins s σ H vs us Q I rv q
  · exact h' pins s σ H vs us Q I rv q
def rAddI : R2 := rI0 fun i j => .int (i + j)
def rAddS : R2 := fun x y H Q => ∃ i j : Str, x = .str i ∧ y = .str j ∧ i.length + j.length ≤ sizeLine ∧ Q (.str (i ++ j)) H
def rPlus (K : PySem.W.Frag) : R2 := fun x y H Q => rAddI x y H Q ∨ (rAddS x y H Q ∨ (rCat x y H Q ∨ rCatA K x y H Q))
theorem op_plus {X : Cx} : OpR X (binaryOp .Add) (rPlus X.K) := OpR.or op_add (OpR.or op_add_str (OpR.or op_cat op_catA))
theorem o_addI {i j : Int} : Op2 K (rPlus K) (.int i) (.int j) (.int (i + j)) := fun P as ρ μ σ G H x y R rx ry Q q => .inl ⟨i, j, rx, ry, q _ G H .refl R rfl⟩
theorem sOk_append {a b : Str} (ha : sOk a) (hb : sOk b) (h : (a ++ b).length ≤ SB) : sOk (a ++ b) := ⟨h, by
  have := ha.2
  have := hb.2
  rw [Str.cps_append, Array.all_append]
  simp_all⟩
theorem len_append (a b : Str) : (a ++ b).length = a.length + b.length := by
  show (a ++ b).cps.size = a.cps.size + b.cps.size
  rw [Str.cps_append, Array.size_append]
theorem o_addS {a b : Str} (h : (a ++ b).length ≤ SB) : Op2 K (rPlus K) (.str a) (.str b) (.str (a ++ b)) := fun P as ρ μ σ G H x y R ⟨rx, ka⟩ ⟨ry, kb⟩ Q q =>
  .inr (.inl ⟨a, b, rx, ry, by rw [← len_append]; exact Nat.le_trans h (by decide), q _ G H .refl R ⟨rfl, sOk_append ka kb h⟩⟩)
theorem o_addL {xs ys : List D} (h : xs.length + ys.length ≤ LB) : Op2 K (rPlus K) (.lst xs) (.lst ys) (.lst (xs ++ ys)) := fun P as ρ μ σ G H x y R ⟨_, a, vs, ex, ga, ra⟩ ⟨_, b, us, ey, gb, rb⟩ Q q => by
  refine .inr (.inr (.inl ⟨a, b, vs, us, ex, ey, R.sub _ _ ga, R.sub _ _ gb, ?_, fun p hp => ?_⟩))
  · rw [ra.length, rb.length]
    exact Nat.le_trans h (by decide)
  · obtain ⟨R2, n2⟩ := R.imm hp (.lst (vs ++ us))
    exact q _ _ _ n2 R2 ⟨by rw [List.length_append]; exact h, p, _, rfl, upd_same, RepL.mono n2.gr _ _ (ra.append rb)⟩
theorem o_addT {xs ys : List D} (h : xs.length + ys.length ≤ LB) : Op2 K (rPlus K) (.tup xs) (.tup ys) (.tup (xs ++ ys)) := fun P as ρ μ σ G H x y R ⟨_, a, vs, ex, ga, ra⟩ ⟨_, b, us, ey, gb, rb⟩ Q q => by
  refine .inr (.inr (.inr ⟨a, b, vs, us, ex, ey, same_sqt R.sub ga, same_sqt R.sub gb, ?_, ?_⟩))
  · rw [ra.length, rb.length]
    exact Nat.le_trans h (by decide)
  · refine ⟨fun e => ?_, fun _ e => ?_, fun _ _ p hp => ?_⟩
    · have e' : xs = [] := List.eq_nil_of_length_eq_zero (by rw [← ra.length, e]; rfl)
      subst e'
      exact q _ G H .refl R ⟨by simpa using h, b, us, rfl, gb, rb⟩
    · have e' : ys = [] := List.eq_nil_of_length_eq_zero (by rw [← rb.length, e]; rfl)
      subst e'
      rw [List.append_nil] at q
      exact q _ G H .refl R ⟨by simpa using h, a, vs, rfl, ga, ra⟩
    · obtain ⟨R2, n2⟩ := R.imm hp (.tup (vs ++ us))
      exact q _ _ _ n2 R2 ⟨by rw [List.length_append]; exact h, p, _, rfl, SqT.of upd_same, RepL.mono n2.gr _ _ (ra.append rb)⟩
/-- an operator on two ints that keeps the heap -/
theorem o_int {C : Int → Int → Prop} {g : Int → Int → V} {i j : Int} {d : D} (hc : C i j) (hd : ∀ G, Rep K G d (g i j)) : Op2 K (rI C g) (.int i) (.int j) d := fun P as ρ μ σ G H x y R rx ry Q q => ⟨i, j, rx, ry, hc, q _ G H .refl R (hd G)⟩
theorem o_int0 {g : Int → Int → V} {i j : Int} {d : D} (hd : ∀ G, Rep K G d (g i j)) : Op2 K (rI0 g) (.int i) (.int j) d := fun P as ρ μ σ G H x y R rx ry Q q => ⟨i, j, rx, ry, q _ G H .refl R (hd G)⟩
def rMinus : R2 := rI0 fun i j => .int (i - j)
theorem op_minus {X : Cx} : OpR X (binaryOp .Sub) rMinus := op_sub
theorem o_sub {i j : Int} : Op2 K rMinus (.int i) (.int j) (.int (i - j)) := o_int0 fun _ => rfl
def rFd : R2 := rI CDiv fun i j => .int (i / j)
theorem op_fd {X : Cx} : OpR X (binaryOp .FloorDiv) rFd := op_fdiv
theorem o_fd {i j : Int} (h : 0 < j ∧ j < 1073741824) : Op2 K rFd (.int i) (.int j) (.int (i / j)) := o_int h fun _ => rfl
def rMd : R2 := rI (fun _ j => 0 < j) fun i j => .int (i % j)
theorem op_md {X : Cx} : OpR X (binaryOp .Mod) rMd := op_mod
theorem o_md {i j : Int} (h : 0 < j) : Op2 K rMd (.int i) (.int j) (.int (i % j)) := o_int h fun _ => rfl
def rPw : R2 := rI CPow fun i j => .int (i ^ j.toNat)
theorem op_pw {X : Cx} : OpR X (binaryOp .Pow) rPw := op_pow
theorem o_pw {i j : Int} (h : 0 ≤ j ∧ j ≤ 1000000 ∧ i.natAbs < 2 ^ 64) : Op2 K rPw (.int i) (.int j) (.int (i ^ j.toNat)) := o_int h fun _ => rfl
def rLt' : R2 := rI0 fun i j => .bl (decide (i < j))
def rLe' : R2 := rI0 fun i j => .bl (decide (i ≤ j))
def rGt' : R2 := rI0 fun i j => .bl (decide (j < i))
def rGe' : R2 := rI0 fun i j => .bl (decide (j ≤ i))
theorem op_lt' {X : Cx} : OpR X (compareOp .Lt) rLt' := op_lt
theorem op_le' {X : Cx} : OpR X (compareOp .LtE) rLe' := op_le
theorem op_gt' {X : Cx} : OpR X (compareOp .Gt) rGt' := op_gt
theorem op_ge' {X : Cx} : OpR X (compareOp .GtE) rGe' := op_ge
theorem o_lt {i j : Int} : Op2 K rLt' (.int i) (.int j) (.bl (decide (i < j))) := o_int0 fun _ => rfl
theorem o_le {i j : Int} : Op2 K rLe' (.int i) (.int j) (.bl (decide (i ≤ j))) := o_int0 fun _ => rfl
theorem o_gt {i j : Int} : Op2 K rGt' (.int i) (.int j) (.bl (decide (j < i))) := o_int0 fun _ => rfl
theorem o_ge {i j : Int} : Op2 K rGe' (.int i) (.int j) (.bl (decide (j ≤ i))) := o_int0 fun _ => rfl
/-! times -/
def rMulI : R2 := rI CMul fun i j => .int (i * j)
def rTimes (K : PySem.W.Frag) : R2 := fun x y H Q => rMulI x y H Q ∨ (rRep x y H Q ∨ rRepT K x y H Q)
theorem op_times {X : Cx} : OpR X (binaryOp .Mult) (rTimes X.K) := OpR.or op_mul (OpR.or op_rep op_repT)
theorem o_mul {i j : Int} (h : (-(2 ^ 64) < i ∧ i < 2 ^ 64) ∨ (-(2 ^ 64) < j ∧ j < 2 ^ 64)) : Op2 K (rTimes K) (.int i) (.int j) (.int (i * j)) := fun P as ρ μ σ G H x y R rx ry Q q => .inl ⟨i, j, rx, ry, h, q _ G H .refl R rfl⟩
/-! is None -/
theorem ev_isN {te : TE} {ρ : Env'} {μ μ1 : Mu} {w : W} {k : Bool} (h : Ev K te ρ μ w μ1) (hk : ∀ as G v, RepW K G as w v → decide (v = .non) = k) : Ev K (tOp rIsN te (tC .non)) ρ μ (.val (.bl k)) μ1 := fun P as σ G H R Q q =>
  h P as σ G H R _ fun v as1 G1 H1 n1 R1 r1 => ⟨rfl, by rw [hk as1 G1 v r1]; exact q _ as1 G1 H1 n1 R1 rfl⟩
theorem ev_notN {te : TE} {ρ : Env'} {μ μ1 : Mu} {w : W} {k : Bool} (h : Ev K te ρ μ w μ1) (hk : ∀ as G v, RepW K G as w v → decide (v = .non) = k) : Ev K (tOp rNotN te (tC .non)) ρ μ (.val (.bl (!k))) μ1 := fun P as σ G H R Q q =>
  h P as σ G H R _ fun v as1 G1 H1 n1 R1 r1 => ⟨rfl, by rw [hk as1 G1 v r1]; exact q _ as1 G1 H1 n1 R1 rfl⟩
def isNon : D → Bool
  | .non => true
  | _ => false
theorem isNon_ok (d : D) {as : List Addr} {G : Hp} {v : V} (h : RepW K G as (.val d) v) : decide (v = .non) = isNon d := by
  cases d with
  | non => rw [show v = .non from h]; rfl
  | bl b => rw [show v = .bl b from h]; rfl
  | int b => rw [show v = .int b from h]; rfl
  | str b => rw [show v = .str b from h.1]; rfl
  | tup b => obtain ⟨_, a, _, e, _⟩ := h; rw [e]; rfl
  | lst b => obtain ⟨_, a, _, e, _⟩ := h; rw [e]; rfl
  | obj c n b => obtain ⟨_, a, _, _, e, _⟩ := h; rw [e]; rfl
  | ty n => rw [show v = .ty n from h]; rfl
  | cls n => rw [show v = .ref _ from h]; rfl
  | scr n => obtain ⟨a, e, _⟩ := h; rw [e]; rfl
theorem isNon_loc {j : Nat} {as : List Addr} {G : Hp} {v : V} (h : RepW K G as (.loc j) v) : decide (v = .non) = false := by
  obtain ⟨a, _, e⟩ := h
  rw [e]
  rfl
theorem ev_isNd {te : TE} {ρ : Env'} {μ μ1 : Mu} {d : D} (h : Ev K te ρ μ (.val d) μ1) : Ev K (tOp rIsN te (tC .non)) ρ μ (.val (.bl (isNon d))) μ1 := ev_isN h fun _ _ _ r => isNon_ok d r
theorem ev_notNd {te : TE} {ρ : Env'} {μ μ1 : Mu} {d : D} (h : Ev K te ρ μ (.val d) μ1) : Ev K (tOp rNotN te (tC .non)) ρ μ (.val (.bl (!isNon d))) μ1 := ev_notN h fun _ _ _ r => isNon_ok d r
theorem ev_isNl {te : TE} {ρ : Env'} {μ μ1 : Mu} {j : Nat} (h : Ev K te ρ μ (.loc j) μ1) : Ev K (tOp rIsN te (tC .non)) ρ μ (.val (.bl false)) μ1 := ev_isN h fun _ _ _ r => isNon_loc r
theorem ev_notNl {te : TE} {ρ : Env'} {μ μ1 : Mu} {j : Nat} (h : Ev K te ρ μ (.loc j) μ1) : Ev K (tOp rNotN te (tC .non)) ρ μ (.val (.bl true)) μ1 := ev_notN h fun _ _ _ r => isNon_loc r
/-! equality -/
mutual
def toPy : D → PyData
  | .non => .none
  | .bl b => .bool b
  | .int i => .int i
  | .str s => .str s
  | .tup xs => .tuple (toPyL xs)
  | .lst xs => .list (toPyL xs)
  | .obj _ _ _ => .none
  | .ty _ => .none
  | .cls _ => .none
  | .scr _ => .none
def toPyL : List D → List PyData
  | [] => []
  | x :: xs => toPy x :: toPyL xs
end
mutual
def pyOk : D → Bool
  | .obj _ _ _ => false
  | .ty _ => false
  | .cls _ => false
  | .scr _ => false
  | .tup xs => pyOkL xs
  | .lst xs => pyOkL xs
  | _ => true
def pyOkL : List D → Bool
  | [] => true
  | x :: xs => pyOk x && pyOkL xs
end
mutual
theorem dp_of {G H : Hp} (s : Same G H) : ∀ (d : D) (v : V), pyOk d = true → Rep K G d v → Dp K H v (toPy d)
  | .non, v, _, h => by rw [show v = .non from h]; exact .non
  | .bl b, v, _, h => by rw [show v = .bl b from h]; exact .bl b
  | .int b, v, _, h => by rw [show v = .int b from h]; exact .int b
  | .str b, v, _, h => by rw [show v = .str b from h.1]; exact .str b
  | .tup xs, v, k, ⟨_, a, vs, e, g, r⟩ => by rw [e]; exact .tup (same_sqt s g) (dp_ofL s xs vs k r)
  | .lst xs, v, k, ⟨_, a, vs, e, g, r⟩ => by rw [e]; exact .lst (SqL.of (s _ _ g)) (dp_ofL s xs vs k r)
  | .obj _ _ _, _, k, _ => by cases k
  | .ty _, _, k, _ => by cases k
  | .cls _, _, k, _ => by cases k
  | .scr _, _, k, _ => by cases k
theorem dp_ofL {G H : Hp} (s : Same G H) : ∀ (ds : List D) (vs : List V), pyOkL ds = true → RepL K G ds vs → DpAll K H vs (toPyL ds)
  | [], vs, _, h => by rw [show vs = [] from h]; exact .nil
  | d :: ds, vs, k, ⟨v, r, e, h1, h2⟩ => by
    have k' := Bool.and_eq_true_iff.mp (show (pyOk d && pyOkL ds) = true from k)
    rw [e]
    exact .cons (dp_of s d v k'.1 h1) (dp_ofL s ds r k'.2 h2)
end
mutual
theorem lay_of {G : Hp} : ∀ (d : D) (v : V), Rep K G d v → (toPy d).canLay0 = true
  | .non, _, _ => rfl
  | .bl _, _, _ => rfl
  | .int _, _, _ => rfl
  | .str s, _, h => h.2.2
  | .tup xs, _, ⟨_, a, vs, e, g, r⟩ => lay_ofL xs vs r
  | .lst xs, _, ⟨_, a, vs, e, g, r⟩ => lay_ofL xs vs r
  | .obj _ _ _, _, _ => rfl
  | .ty _, _, _ => rfl
  | .cls _, _, _ => rfl
  | .scr _, _, _ => rfl
theorem lay_ofL {G : Hp} : ∀ (ds : List D) (vs : List V), RepL K G ds vs → PyData.canLayAll0 (toPyL ds) = true
  | [], _, _ => rfl
  | d :: ds, vs, ⟨v, r, e, h1, h2⟩ => Bool.and_eq_true_iff.mpr ⟨lay_of d v h1, lay_ofL ds r h2⟩
end
def rEqq (K : PySem.W.Frag) : R2 := fun x y H Q => rEq x y H Q ∨ rEqD K x y H Q
def rNee (K : PySem.W.Frag) : R2 := fun x y H Q => rNe x y H Q ∨ rNeD K x y H Q
theorem op_eqq {X : Cx} (hu : X.A.units + 64 < cLine) : OpR X (compareOp .Eq) (rEqq X.K) := OpR.or op_eq (op_eqD hu)
theorem op_nee {X : Cx} (hu : X.A.units + 64 < cLine) : OpR X (compareOp .NotEq) (rNee X.K) := OpR.or op_ne (op_neD hu)
def eqP (a b : D) : Bool := PyData.eqv (toPy a) (toPy b)
theorem o_eqP {a b : D} (ha : pyOk a = true) (hb : pyOk b = true) (da : (toPy a).depth ≤ 64) (db : (toPy b).depth ≤ 64) : Op2 K (rEqq K) a b (.bl (eqP a b)) := fun P as ρ μ σ G H x y R rx ry Q q =>
  .inr ⟨_, _, dp_of R.sub a x ha rx, dp_of R.sub b y hb ry, Bool.and_eq_true_iff.mpr ⟨lay_of a x rx, decide_eq_true da⟩, Bool.and_eq_true_iff.mpr ⟨lay_of b y ry, decide_eq_true db⟩, q _ G H .refl R rfl⟩
theorem o_neP {a b : D} (ha : pyOk a = true) (hb : pyOk b = true) (da : (toPy a).depth ≤ 64) (db : (toPy b).depth ≤ 64) : Op2 K (rNee K) a b (.bl (!eqP a b)) := fun P as ρ μ σ G H x y R rx ry Q q =>
  .inr ⟨_, _, dp_of R.sub a x ha rx, dp_of R.sub b y hb ry, Bool.and_eq_true_iff.mpr ⟨lay_of a x rx, decide_eq_true da⟩, Bool.and_eq_true_iff.mpr ⟨lay_of b y ry, decide_eq_true db⟩, q _ G H .refl R rfl⟩
theorem dec_congr {p q : Prop} [Decidable p] [Decidable q] (h : p ↔ q) : decide p = decide q := by
  by_cases k : p
  · rw [decide_eq_true k, decide_eq_true (h.mp k)]
  · rw [decide_eq_false k, decide_eq_false fun z => k (h.mpr z)]
theorem o_eqI {i j : Int} : Op2 K (rEqq K) (.int i) (.int j) (.bl (decide (i = j))) := fun P as ρ μ σ G H x y R rx ry Q q => by
  subst rx ry
  refine .inl ⟨rfl, ?_⟩
  rw [dec_congr (show V.int i = V.int j ↔ i = j from ⟨fun e => by injection e, fun e => by rw [e]⟩)]
  exact q _ G H .refl R rfl
theorem o_neI {i j : Int} : Op2 K (rNee K) (.int i) (.int j) (.bl (!decide (i = j))) := fun P as ρ μ σ G H x y R rx ry Q q => by
  subst rx ry
  refine .inl ⟨rfl, ?_⟩
  rw [dec_congr (show V.int i = V.int j ↔ i = j from ⟨fun e => by injection e, fun e => by rw [e]⟩)]
  exact q _ G H .refl R rfl
theorem o_eqS {i j : Str} : Op2 K (rEqq K) (.str i) (.str j) (.bl (decide (i = j))) := fun P as ρ μ σ G H x y R ⟨rx, _⟩ ⟨ry, _⟩ Q q => by
  subst rx ry
  refine .inl ⟨rfl, ?_⟩
  rw [dec_congr (show V.str i = V.str j ↔ i = j from ⟨fun e => by injection e, fun e => by rw [e]⟩)]
  exact q _ G H .refl R rfl
theorem o_neS {i j : Str} : Op2 K (rNee K) (.str i) (.str j) (.bl (!decide (i = j))) := fun P as ρ μ σ G H x y R ⟨rx, _⟩ ⟨ry, _⟩ Q q => by
  subst rx ry
  refine .inl ⟨rfl, ?_⟩
  rw [dec_congr (show V.str i = V.str j ↔ i = j from ⟨fun e => by injection e, fun e => by rw [e]⟩)]
  exact q _ G H .refl R rfl
theorem o_eqB {i j : Bool} : Op2 K (rEqq K) (.bl i) (.bl j) (.bl (decide (i = j))) := fun P as ρ μ σ G H x y R rx ry Q q => by
  subst rx ry
  refine .inl ⟨rfl, ?_⟩
  rw [dec_congr (show V.bl i = V.bl j ↔ i = j from ⟨fun e => by injection e, fun e => by rw [e]⟩)]
  exact q _ G H .refl R rfl
theorem o_neB {i j : Bool} : Op2 K (rNee K) (.bl i) (.bl j) (.bl (!decide (i = j))) := fun P as ρ μ σ G H x y R rx ry Q q => by
  subst rx ry
  refine .inl ⟨rfl, ?_⟩
  rw [dec_congr (show V.bl i = V.bl j ↔ i = j from ⟨fun e => by injection e, fun e => by rw [e]⟩)]
  exact q _ G H .refl R rfl
/-! in -/
def rInn (K : PySem.W.Frag) : R2 := fun x y H Q => rInS x y H Q ∨ rIn K false x y H Q
def rNin (K : PySem.W.Frag) : R2 := fun x y H Q => rNotInS x y H Q ∨ rIn K true x y H Q
theorem op_inn {X : Cx} : OpR X (compareOp .In) (rInn X.K) := OpR.or op_inS op_in_seq
theorem op_nin {X : Cx} : OpR X (compareOp .NotIn) (rNin X.K) := OpR.or op_notInS op_notIn_seq
theorem inV_strs {s : Str} : ∀ {ss : List Str}, inV (.str s) (ss.map V.str) = decide (s ∈ ss)
  | [] => rfl
  | x :: ss => by
    show (eqV (.str x) (.str s) || inV (.str s) (ss.map V.str)) = _
    rw [inV_strs]
    show ((x == s) || decide (s ∈ ss)) = _
    by_cases h : x = s
    · subst h
      simp
    · have h' : ¬ s = x := fun e => h e.symm
      simp [h, h']
theorem inV_ints {s : Int} : ∀ {ss : List Int}, inV (.int s) (ss.map V.int) = decide (s ∈ ss)
  | [] => rfl
  | x :: ss => by
    show (eqV (.int x) (.int s) || inV (.int s) (ss.map V.int)) = _
    rw [inV_ints]
    show ((x == s) || decide (s ∈ ss)) = _
    by_cases h : x = s
    · subst h
      simp
    · have h' : ¬ s = x := fun e => h e.symm
      simp [h, h']
theorem flat_strs : ∀ {ss : List Str}, (ss.map V.str).all flatV = true
  | [] => rfl
  | _ :: ss => by rw [List.map_cons, List.all_cons, flat_strs]; rfl
theorem flat_ints : ∀ {ss : List Int}, (ss.map V.int).all flatV = true
  | [] => rfl
  | _ :: ss => by rw [List.map_cons, List.all_cons, flat_ints]; rfl
theorem o_inST {s : Str} {ss : List Str} : Op2 K (rInn K) (.str s) (.tup (ss.map D.str)) (.bl (decide (s ∈ ss))) := fun P as ρ μ σ G H x y R ⟨rx, _⟩ ⟨_, a, vs, e, g, r⟩ Q q => by
  obtain ⟨ev, _⟩ := r.strs
  subst ev rx
  exact .inr ⟨a, _, e, .inr (same_sqt R.sub g), rfl, flat_strs, by rw [if_neg Bool.false_ne_true, inV_strs]; exact q _ G H .refl R rfl⟩
theorem o_inSL {s : Str} {ss : List Str} : Op2 K (rInn K) (.str s) (.lst (ss.map D.str)) (.bl (decide (s ∈ ss))) := fun P as ρ μ σ G H x y R ⟨rx, _⟩ ⟨_, a, vs, e, g, r⟩ Q q => by
  obtain ⟨ev, _⟩ := r.strs
  subst ev rx
  exact .inr ⟨a, _, e, .inl (SqL.of (R.sub _ _ g)), rfl, flat_strs, by rw [if_neg Bool.false_ne_true, inV_strs]; exact q _ G H .refl R rfl⟩
theorem o_ninST {s : Str} {ss : List Str} : Op2 K (rNin K) (.str s) (.tup (ss.map D.str)) (.bl (!decide (s ∈ ss))) := fun P as ρ μ σ G H x y R ⟨rx, _⟩ ⟨_, a, vs, e, g, r⟩ Q q => by
  obtain ⟨ev, _⟩ := r.strs
  subst ev rx
  exact .inr ⟨a, _, e, .inr (same_sqt R.sub g), rfl, flat_strs, by rw [if_pos rfl, inV_strs]; exact q _ G H .refl R rfl⟩
theorem o_ninSL {s : Str} {ss : List Str} : Op2 K (rNin K) (.str s) (.lst (ss.map D.str)) (.bl (!decide (s ∈ ss))) := fun P as ρ μ σ G H x y R ⟨rx, _⟩ ⟨_, a, vs, e, g, r⟩ Q q => by
  obtain ⟨ev, _⟩ := r.strs
  subst ev rx
  exact .inr ⟨a, _, e, .inl (SqL.of (R.sub _ _ g)), rfl, flat_strs, by rw [if_pos rfl, inV_strs]; exact q _ G H .refl R rfl⟩
theorem o_inIL {s : Int} {ss : List Int} : Op2 K (rInn K) (.int s) (.lst (ss.map D.int)) (.bl (decide (s ∈ ss))) := fun P as ρ μ σ G H x y R rx ⟨_, a, vs, e, g, r⟩ Q q => by
  have ev := r.ints
  subst ev rx
  exact .inr ⟨a, _, e, .inl (SqL.of (R.sub _ _ g)), rfl, flat_ints, by rw [if_neg Bool.false_ne_true, inV_ints]; exact q _ G H .refl R rfl⟩
/-- one sign in a text -/
theorem o_inC {c : Nat} {s : Str} : Op2 K (rInn K) (.str ⟨#[c]⟩) (.str s) (.bl (decide (c ∈ s.cps.toList))) := fun P as ρ μ σ G H x y R ⟨rx, _⟩ ⟨ry, _⟩ Q q => .inl ⟨c, s, rx, ry, q _ G H .refl R rfl⟩
theorem o_ninC {c : Nat} {s : Str} : Op2 K (rNin K) (.str ⟨#[c]⟩) (.str s) (.bl (!decide (c ∈ s.cps.toList))) := fun P as ρ μ σ G H x y R ⟨rx, _⟩ ⟨ry, _⟩ Q q => .inl ⟨c, s, rx, ry, q _ G H .refl R rfl⟩
/-! chains a op b op c -/
theorem ev_chain {r r' : R2} {ta tb tc : TE} {ρ : Env'} {μ : Mu} {a b c : D} {k l : Bool} (ha : Ev K ta ρ μ (.val a) μ) (hb : Ev K tb ρ μ (.val b) μ) (h1 : Op2 K r a b (.bl k)) (hc : k = true → Ev K tc ρ μ (.val c) μ) (h2 : k = true → Op2 K r' b c (.bl l)) :
    Ev K (tChain r r' ta tb tc) ρ μ (.val (.bl (k && l))) μ := fun P as σ G H R Q q =>
  ha P as σ G H R _ fun x as1 G1 H1 n1 R1 r1 => hb P as1 σ G1 H1 R1 _ fun y as2 G2 H2 n2 R2 r2 => by
    refine h1 P as2 ρ μ σ G2 H2 x y R2 (Rep.mono n2.gr _ _ r1) r2 _ fun z G3 H3 n3 R3 r3 => ⟨k, r3, ?_⟩
    cases k with
    | true =>
      refine iteT (hc rfl P as2 σ G3 H3 R3 _ fun v as4 G4 H4 n4 R4 r4 => ?_)
      exact h2 rfl P as4 ρ μ σ G4 H4 y v R4 (Rep.mono (n3.gr.trans n4.gr) _ _ r2) r4 Q fun u G5 H5 n5 R5 r5 => q u as4 G5 H5 ((((n1.trans n2).trans n3).trans n4).trans n5) R5 r5
    | false => exact iteF (q _ as2 G3 H3 ((n1.trans n2).trans n3) R3 rfl)
/-! unary minus -/
theorem ev_neg {te : TE} {ρ : Env'} {μ μ1 : Mu} {i : Int} (h : Ev K te ρ μ (.val (.int i)) μ1) : Ev K (tUn (rU fun i => .int (-i)) te) ρ μ (.val (.int (-i))) μ1 :=
  ev_un h fun G H x r Q q => ⟨i, r, q _ rfl⟩
/-! subscripts -/
theorem atI_rep {G : Hp} {ds : List D} {vs : List V} {i : Int} {d : D} (r : RepL K G ds vs) (h : atI ds i = some d) : ∃ v, atI vs i = some v ∧ Rep K G d v := by
  unfold atI at h ⊢
  rw [r.length]
  cases e : ixN ds.length i with
  | none => rw [e] at h; cases h
  | some j =>
    rw [e] at h
    exact r.get h
theorem o_ixL {xs : List D} {i : Int} {d : D} (h : atI xs i = some d) : Op2 K (rIx K) (.lst xs) (.int i) d := fun P as ρ μ σ G H x y R ⟨_, a, vs, e, g, r⟩ ry Q q => by
  obtain ⟨v, h1, h2⟩ := atI_rep r h
  exact .inl ⟨a, vs, i, v, e, ry, SqL.of (R.sub _ _ g), h1, q _ G H .refl R h2⟩
theorem o_ixT {xs : List D} {i : Int} {d : D} (h : atI xs i = some d) : Op2 K (rIx K) (.tup xs) (.int i) d := fun P as ρ μ σ G H x y R ⟨_, a, vs, e, g, r⟩ ry Q q => by
  obtain ⟨v, h1, h2⟩ := atI_rep r h
  exact .inr (.inl ⟨a, vs, i, v, e, ry, same_sqt R.sub g, h1, q _ G H .refl R h2⟩)
theorem o_ixS {s : Str} {i : Int} {c : Nat} (h : atI s.cps.toList i = some c) : Op2 K (rIx K) (.str s) (.int i) (.str ⟨#[c]⟩) := fun P as ρ μ σ G H x y R ⟨rx, hs⟩ ry Q q => by
  refine .inr (.inr ⟨s, i, c, rx, ry, Nat.le_trans hs.1 (by decide), h, q _ G H .refl R ⟨rfl, by show (1 : Nat) ≤ SB; decide, ?_⟩⟩)
  have hm : c ∈ s.cps.toList := by
    unfold atI at h
    cases e : ixN s.cps.toList.length i with
    | none => rw [e] at h; cases h
    | some j =>
      rw [e] at h
      exact List.mem_of_getElem? h
  have := Array.all_eq_true_iff_forall_mem.mp hs.2 c (by simpa using hm)
  simpa using this
end
end DK

/-! DKS: sets of texts, made by a comprehension, sorted. -/
namespace DK
open PySem PySem.Spec PyProof.Rows L2

def txtOf (e : Int × Value) : Str := match e.2 with | .str z _ => z | _ => Str.empty
def TxtE (w : World) (e : Int × Value) : Prop := ∃ z tk, e.2 = Value.str z tk ∧ e.1 = hashStr w z
/-- the set of texts at a -/
def SetS (w : World) (h : Heap) (a : Addr) (M : Str → Bool) (n : Nat) : Prop :=
  ∃ ob es ep tb, h.get? a = some ob ∧ ob.ExactSet ∧ ob.data = .set es ep tb ∧ (∀ e ∈ es.toList, TxtE w e) ∧ (es.toList.map txtOf).Nodup ∧ (∀ z, M z = true ↔ z ∈ es.toList.map txtOf) ∧
    es.size < scanBound ∧ tb.fits es.size = true ∧ es.size = n ∧ L2.Ris tb.place.toList ∧ (w.params.followText "set-order" = true ∨ tb.led = true)

section
variable {P : Program} {w : World} {h h' : Heap} {a : Addr} {M : Str → Bool} {n : Nat}
theorem SetS.stay (R : SetS w h a M n) (kp : ∀ ob, h.get? a = some ob → h'.get? a = some ob) : SetS w h' a M n :=
  let ⟨ob, es, ep, tb, g, rest⟩ := R
  ⟨ob, es, ep, tb, kp ob g, rest⟩
theorem txt_elems {l : List (Int × Value)} (g : ∀ e ∈ l, TxtE w e) : ElemsOf (PySem.strKind P w) l := fun e hm => by
  obtain ⟨z, tk, e1, e2⟩ := g e hm
  exact ⟨⟨z, by rw [e1]; exact strKind_is P w z tk, e2⟩, by rw [e1]; rfl⟩
theorem txt_is {e : Int × Value} (g : TxtE w e) (z : Str) : (PySem.strKind P w).is z e.2 = true ↔ txtOf e = z := by
  obtain ⟨z0, tk, e1, _⟩ := g
  unfold txtOf
  rw [e1]
  show Value.isStrOf z (.str z0 tk) = true ↔ z0 = z
  simp [Value.isStrOf]
theorem txt_mem {l : List (Int × Value)} (g : ∀ e ∈ l, TxtE w e) (z : Str) : z ∈ l.map txtOf ↔ ∃ e ∈ l, (PySem.strKind P w).is z e.2 = true := by
  rw [List.mem_map]
  exact ⟨fun ⟨e, hm, q⟩ => ⟨e, hm, (txt_is (g e hm) z).mpr q⟩, fun ⟨e, hm, q⟩ => ⟨e, hm, (txt_is (g e hm) z).mp q⟩⟩
theorem SetS.setOf (R : SetS w h a M n) : h.SetOf (PySem.strKind P w) a M n := by
  obtain ⟨ob, es, ep, tb, g0, gx, gd, gs, gn, gm, gb, gf, gz, _⟩ := R
  exact ⟨ob, es, ep, tb, g0, gx, gd, txt_elems gs, fun z => (gm z).trans (txt_mem gs z), gb, gf, gz⟩
end
section
variable {P : Program} {w : World} {A : Around} {E : Value → Shared → Prop} {s : Shared} {a : Addr} {M : Str → Bool} {n : Nat}
theorem setS_tail {gv : Bool → Sem Unit} (hgv : ∀ (b : Bool) (s1 : Shared) (Q1 : Unit → Shared → Prop), Q1 () s1 → wpAny (model P w) A (gv b) Q1 E s1)
    {ob : Obj} {es : Array (Int × Value)} {ep : Nat} {tb : SetTable} (g0 : s.heap.get? a = some ob) (gx : ob.ExactSet) (gd : ob.data = .set es ep tb)
    {fs : Array (Int × Value)} {tc : SetTable} {M' : Str → Bool} (gs : ∀ e ∈ fs.toList, TxtE w e) (gn : (fs.toList.map txtOf).Nodup) (gm : ∀ z, M' z = true ↔ z ∈ fs.toList.map txtOf)
    (gb : fs.size < scanBound) (gf : tc.fits fs.size = true) (gr : L2.Ris tc.place.toList) (gl : w.params.followText "set-order" = true ∨ tc.led = true) {wd : Bool} {R : Option Bool → Shared → Prop}
    (hR : ∀ h', Heap.SameBut a s.heap h' → SetS w h' a M' fs.size → R (some true) { s with heap := h' }) :
    wpAny (model P w) A (do
        storeSet a fs tc
        if (!wd && tc.tooFull) = true then do
            gv (relayAll tc fs (SetTable.grown fs.size)).2.2
            storeSet a (relayAll tc fs (SetTable.grown fs.size)).1 (relayAll tc fs (SetTable.grown fs.size)).2.1
            pure (some true)
          else pure (some true)) R E s := by
  refine wpAny_bind (wpAny_storeSet_of g0 gd ?_ (fits_of_scanBound gb))
  have g1 := L2.store_at (es' := fs) (t' := tc) g0 gd
  have sb := Heap.SameBut.update s.heap a (Obj.putSet fs tc)
  split
  · have q1 := relayAll_perm tc fs (SetTable.grown fs.size)
    have q2 := relayAll_fits tc fs (SetTable.grown fs.size)
    have q3 := L2.relayAll_ris tc fs (SetTable.grown fs.size)
    have q4 := L2.relayAll_led tc fs (SetTable.grown fs.size)
    generalize relayAll tc fs (SetTable.grown fs.size) = Y at q1 q2 q3 q4 ⊢
    obtain ⟨ks, td, gave⟩ := Y
    dsimp only at q1 q2 q3 q4 ⊢
    have zz : ks.size = fs.size := by rw [← Array.length_toList, q1.length_eq, Array.length_toList]
    refine wpAny_bind (hgv _ _ _ (wpAny_bind (wpAny_storeSet_of g1 rfl ?_ (fits_of_scanBound (by rw [zz]; exact gb)))))
    have g2 := L2.store_at (es' := ks) (t' := td) g1 rfl
    refine wpAny_pure (hR _ (sb.trans (Heap.SameBut.update _ a _)) ⟨_, ks, _, td, g2, gx, rfl, fun e hm => gs e (q1.mem_iff.mp hm), (q1.map txtOf).nodup_iff.mpr gn, fun z => (gm z).trans (q1.map txtOf).mem_iff.symm, by rw [zz]; exact gb, q2, zz, q3, ?_⟩)
    exact gl.imp id fun y => by rw [q4]; exact y
  · exact wpAny_pure (hR _ sb ⟨_, fs, _, tc, g1, gx, rfl, gs, gn, gm, gb, gf, rfl, gr, gl⟩)
theorem setS_hashed {z : Str} {tk : Tok} {Q : Bool → Shared → Prop} (R : SetS w s.heap a M n) (room : n + 1 < scanBound)
    (hQ : ∀ h', Heap.SameBut a s.heap h' → SetS w h' a (fun y => M y || decide (y = z)) (if M z = true then n else n + 1) → Q (!M z) { s with heap := h' }) :
    wpAny (model P w) A (setAddHashed a (.str z tk) ((PySem.strKind P w).hash z)) Q E s := by
  obtain ⟨ob, es, ep, tb, g0, gx, gd, gs, gn, gm, gb, gf, gz, gr, gl⟩ := R
  have kz : (PySem.strKind P w).is z (.str z tk) = true := strKind_is P w z tk
  have sc : (Value.str z tk).scannable = true := rfl
  have el : ElemsOf (PySem.strKind P w) es.toList := txt_elems gs
  unfold setAddHashed setAddHashedIn
  refine wpAny_holding (wpAny_bind (wpAny_setState_of g0 gd gf ?_))
  dsimp only
  rw [byScan_of sc gb el]
  simp only [↓reduceIte]
  unfold setAddByScan
  refine wpAny_bind (wpAny_bind (wpAny_rule (wpAny_bind (wpAny_setScan_of kz g0 gd gf el ?_))))
  cases fi : List.findIdx? (fun e => (PySem.strKind P w).is z e.2) es.toList with
  | some j =>
    dsimp only
    obtain ⟨lj, pj, _⟩ := List.findIdx?_eq_some_iff_getElem.mp fi
    have mz : M z = true := (gm z).mpr ((txt_mem (P := P) gs z).mpr ⟨es.toList[j], List.getElem_mem lj, pj⟩)
    have q := hQ s.heap (Heap.SameBut.refl a s.heap) ⟨ob, es, ep, tb, g0, gx, gd, gs, gn, fun y => by
      rw [Bool.or_eq_true, decide_eq_true_eq, ← gm y]
      exact ⟨fun c => c.elim id (fun e => e ▸ mz), .inl⟩, gb, gf, by rw [if_pos mz]; exact gz, gr, gl⟩
    rw [mz] at q
    exact wpAny_pure (wpAny_pure q)
  | none =>
    dsimp only
    have nz : z ∉ es.toList.map txtOf := fun c => by
      obtain ⟨e, hm, q⟩ := (txt_mem (P := P) gs z).mp c
      rw [List.findIdx?_eq_none_iff.mp fi e hm] at q
      cases q
    have mz : M z = false := by
      cases q : M z with
      | false => rfl
      | true => exact absurd ((gm z).mp q) nz
    have gw : ∀ (b : Bool) {s1 : Shared} {Q1 : Unit → Shared → Prop}, Q1 () s1 → wpAny (model P w) A (match b with | true => rule "set.scan.the-table-gave-way" | false => pure ()) Q1 E s1 :=
      fun b _ _ q => by cases b <;> first | exact wpAny_pure q | exact wpAny_rule q
    have p1 := layNew_perm tb es ((PySem.strKind P w).hash z) (.str z tk)
    have p2 := layNew_fits tb es ((PySem.strKind P w).hash z) (.str z tk)
    have p3 := L2.layNew_ris tb es ((PySem.strKind P w).hash z) (.str z tk) gr
    have p4 := L2.layNew_led tb es ((PySem.strKind P w).hash z) (.str z tk)
    generalize layNew tb es ((PySem.strKind P w).hash z) (.str z tk) = Y at p1 p2 p3 p4 ⊢
    obtain ⟨fs, tc, wd, gave⟩ := Y
    dsimp only at p1 p2 p3 p4 ⊢
    rw [Array.toList_push] at p1
    have pc : fs.toList.Perm (((PySem.strKind P w).hash z, Value.str z tk) :: es.toList) := p1.trans (List.perm_append_singleton _ _)
    have pk : (fs.toList.map txtOf).Perm (z :: es.toList.map txtOf) := pc.map txtOf
    have gs1 : ∀ e ∈ fs.toList, TxtE w e := fun e hm => by
      rcases List.mem_cons.mp (pc.mem_iff.mp hm) with c | c
      · rw [c]; exact ⟨z, tk, rfl, rfl⟩
      · exact gs e c
    have gn1 : (fs.toList.map txtOf).Nodup := pk.nodup_iff.mpr (List.nodup_cons.mpr ⟨nz, gn⟩)
    have gm1 : ∀ y, (M y || decide (y = z)) = true ↔ y ∈ fs.toList.map txtOf := fun y => by
      rw [Bool.or_eq_true, decide_eq_true_eq, gm y, pk.mem_iff, List.mem_cons]
      exact Or.comm
    have sz : fs.size = n + 1 := by rw [← Array.length_toList, pc.length_eq, List.length_cons, Array.length_toList, gz]
    have gb1 : fs.size < scanBound := by rw [sz]; exact room
    have gl1 : w.params.followText "set-order" = true ∨ tc.led = true := gl.imp id fun c => by rw [p4]; exact c
    have fin : ∀ h', Heap.SameBut a s.heap h' → SetS w h' a (fun y => M y || decide (y = z)) fs.size → Q true { s with heap := h' } := fun h' sb r => by
      have q := hQ h' sb
      rw [mz] at q
      rw [sz] at r
      exact q r
    refine wpAny_bind (gw _ ?_)
    split
    · refine wpAny_bind ?_
      rw [hashByValue_scannable 8 sc]
      refine wpAny_pure ?_
      refine setS_tail (fun b _ _ q => by cases b <;> first | exact wpAny_pure q | exact wpAny_rule q) g0 gx gd gs1 gn1 gm1 gb1 ?_ ?_ ?_ (fun h' sb r => by dsimp only; exact wpAny_pure (fin h' sb r))
      · first | (split <;> first | exact p2 | exact SetTable.fits_plain_off p2) | exact p2
      · first | (split <;> exact p3) | exact p3
      · first | (split <;> exact gl1) | exact gl1
    · refine wpAny_bind (wpAny_pure ?_)
      simp only [↓reduceIte]
      exact setS_tail (fun b _ _ q => by cases b <;> first | exact wpAny_pure q | exact wpAny_rule q) g0 gx gd gs1 gn1 gm1 gb1 p2 p3 gl1 (fun h' sb r => by dsimp only; exact wpAny_pure (fin h' sb r))
theorem setS_add {z : Str} {tk : Tok} {Q : Value → Shared → Prop} (R : SetS w s.heap a M n) (room : n + 1 < scanBound)
    (hQ : ∀ h', Heap.SameBut a s.heap h' → SetS w h' a (fun y => M y || decide (y = z)) (if M z = true then n else n + 1) → Q .none { s with heap := h', toks := s.toks + 1 }) :
    wpAny (model P w) A (call (.builtin "set.add") [.ref a, .str z tk]) Q E s := by
  have so : s.heap.SetOf (PySem.strKind P w) a M n := R.setOf
  refine wpAny_call_entry F.slot_set_add so.typeIs F.entry_set_add ?_ (F.args_set_add_2 _ _)
  unfold Builtin.«set.add» Builtin.Frozenset.oneOther
  simp only [List.isEmpty_nil, bind_assoc]
  unfold Builtin.Frozenset.addrOf setAdd
  refine wpAny_bind (wpAny_pure ?_)
  try dsimp only
  refine wpAny_bind (wpAny_pure ?_)
  try dsimp only
  refine wpAny_bind (wpAny_holding (wpAny_bind ((PySem.strKind P w).pyHash (strKind_is P w z tk) ?_)))
  refine setS_hashed (s := { s with toks := s.toks + 1 }) R room fun h' sb r => ?_
  show wpAny _ _ (ret Value.none) _ _ _
  exact wpAny_pure ⟨_, rfl, hQ h' sb r⟩
theorem setS_fresh {h : Heap} (w : World) : SetS w (h.push { cls := .type "set", dict := none, data := .set #[] 0 (.fresh 0 0 (!w.params.followText "set-order")) }) h.objs.size (fun _ => false) 0 := by
  refine ⟨_, #[], 0, _, Heap.get?_push_size _ rfl, ⟨rfl, rfl, rfl⟩, rfl, (fun e he => by simp at he), (by simp), (fun k => by simp), (by decide), (by rfl), rfl, List.Pairwise.nil, ?_⟩
  show _ ∨ (!w.params.followText "set-order") = true
  cases w.params.followText "set-order"
  · exact .inr rfl
  · exact .inl rfl
end
def SetSO (w : World) (a : Addr) (M : Str → Bool) (n : Nat) : HO := .ext fun h => SetS w h a M n
theorem setSO_new {w : World} {P : Program} {H : Hp} {h : Heap} {a : Addr} {M : Str → Bool} {n : Nat} (R : SetS w h a M n) : ObjOk P w H h a (SetSO w a M n) := by
  have ⟨ob, _, _, _, g, _⟩ := R
  exact ⟨R, ⟨ob, g⟩, fun _ _ p k => SetS.stay p k⟩
theorem addS_ok {X : Cx} {pins : List (Addr × Obj)} {σ : L2.St} {H : Hp} {s : Shared} {E : Value → Shared → Prop} {p : Addr} {M : Str → Bool} {n : Nat} {z : Str} {tk : Tok} {Q : Value → Shared → Prop} (I : Inv X pins σ H s) (hp : H p = some (SetSO X.w p M n)) (room : n + 1 < scanBound)
    (k : ∀ s', Inv X pins σ (upd H p (SetSO X.w p (fun y => M y || decide (y = z)) (if M z = true then n else n + 1))) s' → Q .none s') : wpAny (model X.prog X.w) X.A (call (.builtin "set.add") [.ref p, .str z tk]) Q E s := by
  have R : SetS X.w s.heap p M n := (I.hok p _ hp).1
  refine setS_add R room fun h' sb new => ?_
  have ⟨ob, _, _, _, g, _⟩ := new
  exact k _ (I.write (e := p) (t' := s.toks + 1) (by rw [hp]; trivial) (.inl rfl) (fun b u hb hu => (sb.2 b hb).trans hu) ⟨ob, g⟩ (setSO_new new))

section
variable {X : Cx}
/-- {elt for target in iter if ..}, elt a text -/
def tScS (w : World) (wi : TI) (g : TG) (tt : TT) (te : TE) (vs : List Nat) : TE := fun σ H Q => wi σ H fun J H1 => ∀ p, H1 p = none → ∃ Wv : Nat → Nat → Hp → Prop, (∃ m, Wv 0 m (upd H1 p (SetSO w p (fun _ => false) 0))) ∧ ∀ i m H, Wv i m H →
  (J.stop i H ∧ Q (.ref p) H) ∨ (J.go i H ∧ ∃ Nv : Hp → Prop, (∀ H', Nv H' → ∃ m', m' < m ∧ Wv (i + 1) m' H') ∧ ∀ x H', J.yld i H x H' → g x (wipe σ vs) H' fun σ2 H2 => wipe σ2 vs = wipe σ vs ∧ tt σ2 H2 fun b H3 =>
    if b = true then te σ2 H3 fun y H4 => ∃ (z : Str) (M : Str → Bool) (n : Nat), y = .str z ∧ H4 p = some (SetSO w p M n) ∧ n + 1 < scanBound ∧ Nv (upd H4 p (SetSO w p (fun c => M c || decide (c = z)) (if M z = true then n else n + 1))) else Nv H3)
theorem pe_scS {elt tg iter : Expr} {ifs : List Expr} {scope : Scope} {own : List (Str × Nat)} {pos : Pos} {wi : TI} {g : TG} {tt : TT} {te : TE} (calm : X.calm = true) (ndN : X.N.Nodup) (pi : PI X tg iter wi) (blk : BlkOk X.N X.env.scope scope own)
    (pgs : ∀ (s : Shared) (H : Hp) (C : Addr) (cl : List (Str × Addr)) (fp : List Addr), PG (X.blk s H scope (compEnvC scope cl C X.env) fp) tg g)
    (pts : ∀ (s : Shared) (H : Hp) (C : Addr) (cl : List (Str × Addr)) (fp : List Addr), PTs (X.blk s H scope (compEnvC scope cl C X.env) fp) ifs tt)
    (pes : ∀ (s : Shared) (H : Hp) (C : Addr) (cl : List (Str × Addr)) (fp : List Addr), PE (X.blk s H scope (compEnvC scope cl C X.env) fp) elt te) (fold : ∀ x, foldedSetIterable iter X.env x = pure x := by intro _; rfl) :
    PE X (.SetComp elt [⟨tg, iter, ifs, 0⟩] scope pos) (tScS X.w wi g tt te (own.map (·.2))) := by
  refine ⟨fun pins s σ H Q I hw => ?_⟩
  rw [PpSet.eval_SetComp]
  have frees : ∀ y ∈ scope.names, y.2 = .free → ∃ c, X.env.cells.lookup y.1 = some c := fun y hy e => by
    rcases blk.free y hy e with c | c
    · exact I.ok.has _ (.inl c)
    · exact I.ok.has _ (.inr c)
  refine wpAny_comprehension_free (use := none) rfl fold (closure_ok frees) blk.kind (fun y hy e => by rw [blk.uniq y hy, e])
    (thn (pi.run pins s σ H _ I hw) fun xv sa ha => thn ha fun itv sb hb => ?_)
  obtain ⟨it, fp, tn, J, Hb, e, Ib, T, stb, fb, q⟩ := hb
  subst e
  refine PpSet.newSet_ok (newEnv_comp ?_)
  generalize hp : sb.heap.objs.size = p
  have pn : Hb p = none := Ib.hok.fresh (Nat.le_of_eq hp)
  obtain ⟨Wv, ⟨m0, w0⟩, turn⟩ := q p pn
  generalize hsc : ({ sb with heap := sb.heap.push { cls := .type "set", dict := none, data := .set #[] 0 (.fresh 0 0 (!X.w.params.followText "set-order")) } } : Shared) = sc
  have Ic : Inv X pins σ (upd Hb p (SetSO X.w p (fun _ => false) 0)) sc := by
    rw [← hsc]
    refine Ib.laid (t' := sb.toks) (fun _ _ e => Heap.get?_push_of_some _ e) (Nat.le_of_eq hp) ?_
    rw [← hp]
    exact setSO_new (setS_fresh X.w)
  have hc : sc.heap = sb.heap.push { cls := .type "set", dict := none, data := .set #[] 0 (.fresh 0 0 (!X.w.params.followText "set-order")) } := by rw [← hsc]
  have fc : ∀ b ∈ fp, FpOk X pins (upd Hb p (SetSO X.w p (fun _ => false) 0)) b ∧ b < sc.heap.objs.size := fun b hb => by
    obtain ⟨ob, e, _⟩ := T.obj _ _ stb b hb
    have lt := Heap.lt_size e
    refine ⟨⟨?_, (fb b hb).2⟩, by rw [hc, Heap.size_push]; exact Nat.lt_succ_of_lt lt⟩
    rw [upd_ne (by rw [← hp]; exact Nat.ne_of_lt lt)]
    exact (fb b hb).1
  have stc : tn 0 sc.heap := T.keep _ _ _ stb fun b _ ob e => by rw [hc]; exact Heap.get?_push_of_some _ e
  have Id := block_start Ic blk ndN fc
  have pg := pgs sc (upd Hb p (SetSO X.w p (fun _ => false) 0)) sc.heap.objs.size (cellsFrom (sc.heap.objs.size + 1) scope.names (cloFrom X.env.cells scope.names [])) fp
  have pt := pts sc (upd Hb p (SetSO X.w p (fun _ => false) 0)) sc.heap.objs.size (cellsFrom (sc.heap.objs.size + 1) scope.names (cloFrom X.env.cells scope.names [])) fp
  have pe := pes sc (upd Hb p (SetSO X.w p (fun _ => false) 0)) sc.heap.objs.size (cellsFrom (sc.heap.objs.size + 1) scope.names (cloFrom X.env.cells scope.names [])) fp
  show codeAny _ _ (.compStart (.SetComp elt [⟨tg, iter, ifs, 0⟩] scope pos) 0 (.ref it) (.ref p) (compEnvC scope (cellsFrom (sc.heap.objs.size + 1) scope.names (cloFrom X.env.cells scope.names [])) sc.heap.objs.size X.env)) (compPost (model X.prog X.w) X.A X.xe none (EP X pins σ Q) (.ref p) sc.heap.objs.size) { sc with heap := pushCells (sc.heap.push { cls := .type "dict", data := .dict #[] }) scope.names }
  have nf : ∀ b ∈ fp, (upd Hb p (SetSO X.w p (fun _ => false) 0)) b = none := fun b hb => (fc b hb).1.1
  generalize hce : compEnvC scope (cellsFrom (sc.heap.objs.size + 1) scope.names (cloFrom X.env.cells scope.names [])) sc.heap.objs.size X.env = ce at Id pg pt pe ⊢
  have cL : ce.locals = sc.heap.objs.size := by subst hce; rfl
  generalize hHc : upd Hb p (SetSO X.w p (fun _ => false) 0) = Hc at Ic Id pg pt pe w0 nf fc
  generalize hsd : ({ sc with heap := pushCells (sc.heap.push { cls := .type "dict", data := .dict #[] }) scope.names } : Shared) = sd at Id ⊢
  have std : tn 0 sd.heap := T.keep _ _ _ stc fun b _ ob e => by rw [← hsd]; exact pushCells_keeps _ _ _ _ (Heap.get?_push_of_some _ e)
  have stat : ∀ {σ' : L2.St} {H' : Hp} {s' : Shared}, Inv (X.blk sc Hc scope ce fp) [] σ' H' s' → (∀ b ∈ fp, H' b = none) → ∀ b ∈ fp, FpOk (X.blk sc Hc scope ce fp) [] H' b := fun {_ _ _} I' hn b hb =>
    ⟨hn b hb, (I'.ok.exf b hb).1, I'.ok.exfs b hb, .inl hb, fun x c e => (I'.ok.exf b hb).2 x c e, fun r hr => absurd (show r ∈ ([] : List (Addr × Obj)) ++ [] from hr) (by simp)⟩
  have loop : codeAny (model X.prog X.w) X.A (.compLoop (.SetComp elt [⟨tg, iter, ifs, 0⟩] scope pos) 0 (.ref it) (.ref p) ce) (compPost (model X.prog X.w) X.A X.xe none (EP X pins σ Q) (.ref p) sc.heap.objs.size) sd := by
    refine PpSet.compLoopS_any (fun n s' => ∃ i H', Inv (X.blk sc Hc scope ce fp) [] (wipe σ (own.map (·.2))) H' s' ∧ tn i s'.heap ∧ (∀ b ∈ fp, H' b = none) ∧ Wv i n H') ?_ m0 ⟨0, Hc, Id, std, nf, w0⟩
    rintro n se ⟨i, He, Ie, ste, ne, we⟩
    rcases turn i n He we with ⟨stop, qq⟩ | ⟨go, Nv, hNv, step⟩
    · refine L2.thnF (T.done (X.blk sc Hc scope ce fp) rfl rfl rfl calm i [] se _ He (fun _ _ => False) Ie (stat Ie ne) ste stop) fun r sf ⟨hr, If⟩ => ?_
      subst hr
      have Ig : Inv X pins σ He sf := Ic.call' (ch := fp) If.os If.base If.hok If.bare fun b hb => ⟨(fc b hb).1.2.2.2.1, (fc b hb).1.2.1, (fc b hb).1.2.2.2.2.1, (fc b hb).1.2.2.2.2.2⟩
      have nC : He sc.heap.objs.size = none := by
        have z : He ce.locals = none := If.free
        rw [cL] at z
        exact z
      obtain ⟨m, ns, _⟩ := If.loc
      have ns : sf.heap.Ns ce.locals m := ns
      rw [cL] at ns
      obtain ⟨f0, f1, f2, f3, f4, f5⟩ := Ic.fpOk (Nat.le_refl _) nC
      exact ⟨m, ns, fun _ sb' => ⟨.ref p, He, Ig.turned (t' := sf.toks) (fun b ob hb e => (sb'.2 b hb).trans e) f0 f1 f3 f4 f5, rfl, qq⟩⟩
    · refine L2.thnF (T.item (X.blk sc Hc scope ce fp) rfl rfl rfl calm i [] se _ He (fun _ _ => False) Ie (stat Ie ne) ste go) fun r sf ⟨u, hr, hf⟩ => ?_
      subst hr
      refine L2.thnF hf fun _ sg ⟨x, Hg, Ig, rg, yg, stg, ng⟩ => ?_
      refine L2.thnF (pg.run _ sg _ Hg x u _ (Ig.pinned (stat Ig ng) (T.obj _ _ stg)) rg (step x Hg yg)) fun _ sh ⟨σh, Hh, Ih, wh, qh⟩ => ?_
      refine L2.thnF (pt.run _ sh σh Hh _ Ih qh) fun b si ⟨Hi, Ii, qi⟩ => ?_
      have fin : ∀ {s' : Shared} {H' : Hp}, Inv (X.blk sc Hc scope ce fp) ([] ++ pinsAt fp sg.heap) σh H' s' → Nv H' → ∃ m, m < n ∧ ∃ i H', Inv (X.blk sc Hc scope ce fp) [] (wipe σ (own.map (·.2))) H' s' ∧ tn i s'.heap ∧ (∀ b ∈ fp, H' b = none) ∧ Wv i m H' := fun {s' H'} I' nv => by
        obtain ⟨m', lm, w'⟩ := hNv H' nv
        have pn' : ∀ b ∈ fp, ∀ ob, sg.heap.get? b = some ob → s'.heap.get? b = some ob ∧ H' b = none := fun b hb ob e =>
          let z := I'.pin (b, ob) (List.mem_append_right _ (List.mem_append_right _ (mem_pinsAt hb e)))
          ⟨z.1, z.2.1⟩
        refine ⟨m', lm, i + 1, H', (I'.unpinned (pins := [])).weak (by rw [← wh, wipe_length]) (fun j v e => ?_), T.keep _ _ _ stg fun b hb ob e => (pn' b hb ob e).1, fun b hb => ?_, w'⟩
        · rw [← wh] at e
          exact (wipe_some e).1
        · obtain ⟨ob, e, _⟩ := T.obj _ _ stg b hb
          exact (pn' b hb ob e).2
      cases b with
      | false =>
        simp only [Bool.false_eq_true, if_false] at qi ⊢
        exact fin Ii qi
      | true =>
        simp only [if_true] at qi ⊢
        refine L2.thnF (pe.run _ si σh Hi _ Ii qi) fun zv sj ⟨yv, Hj, Ij, rj, z, M, k, ey, hpj, room, nv⟩ => ?_
        subst ey
        obtain ⟨tk, rfl⟩ := (show ∃ t, zv = Value.str z t from rj)
        exact addS_ok (X := X.blk sc Hc scope ce fp) Ij hpj room fun sk Ik => fin Ik nv
  exact PpSet.codeAny_compStart_set loop (T.self X.A 0 _ _ _ std loop)
end
end DK

namespace DK
open PySem PySem.Spec PyProof.Rows L2
/-- sorted(a set of texts) -/
def rSetSorted (w : World) : List V → Hp → VK → Prop := fun xs H Q => ∃ (a : Addr) (M : Str → Bool) (n : Nat), xs = [.ref a] ∧ H a = some (SetSO w a M n) ∧ n < 64 ∧
  ∀ (ys : List Str) (p : Addr), ys.Nodup → sortedS ys = true → (∀ z, z ∈ ys ↔ M z = true) → H p = none → Q (.ref p) (upd H p (.lst (ys.map V.str)))
theorem strs_of_txt {w : World} : ∀ {l : List (Int × Value)}, (∀ e ∈ l, TxtE w e) → StrsAre (l.map (·.2)) (l.map txtOf)
  | [], _ => .nil
  | e :: l, h => by
    obtain ⟨z, tk, e1, _⟩ := h e (List.mem_cons_self)
    rw [List.map_cons, List.map_cons, show txtOf e = z by unfold txtOf; rw [e1], e1]
    exact .cons z tk (strs_of_txt fun x hx => h x (List.mem_cons_of_mem _ hx))
theorem strs_ex : ∀ (l : List Value), (∀ v ∈ l, ∃ z tk, v = Value.str z tk) → StrsAre l (l.map strOf)
  | [], _ => .nil
  | v :: l, h => by
    obtain ⟨z, tk, rfl⟩ := h v (List.mem_cons_self)
    exact .cons z tk (strs_ex l fun x hx => h x (List.mem_cons_of_mem _ hx))
theorem call_setSorted {X : Cx} (calm : X.calm = true) : CallR X (.builtin "sorted") (rSetSorted X.w) := by
  intro pins s σ H vs us Q I r hr
  obtain ⟨a, M, n, rfl, ha, n64, q⟩ := hr
  rw [Vals.ref1 r]
  obtain ⟨ob, es, ep, tb, g0, gx, gd, gs, gn, gm, gb, gf, gz, gr, gl⟩ := (show SetS X.w s.heap a M n from (I.hok a _ ha).1)
  refine Calls.call_function_entry kind_sorted plain_sorted entry_sorted (args_sorted1 _) ?_
  unfold Builtin.«sorted»
  refine wpAny_bind (m := checkCount "sorted" 1 1 _) (wpAny_pure ?_)
  refine wpAny_bind (L2.collect_set (A := X.A.in1) (I.ok.hd calm) ⟨ob, g0, gx.1, gd⟩ gf gb gr gl fun s1 out k1 hz e1 e2 pm => ?_)
  have ol : out.length = n := by rw [pm.length_eq, List.length_map, Array.length_toList]; exact gz
  have hS : StrsAre out (out.map strOf) := strs_ex out fun v hv => by
    obtain ⟨e, he, qe⟩ := List.mem_map.mp (pm.mem_iff.mp hv)
    obtain ⟨z, tk, h1, _⟩ := gs e he
    exact ⟨z, tk, by rw [← qe]; exact h1⟩
  have pk : (out.map strOf).Perm (es.toList.map txtOf) := by
    have p1 := pm.map strOf
    rw [List.map_map] at p1
    refine p1.trans (List.Perm.of_eq (List.map_congr_left fun e he => ?_))
    obtain ⟨z, tk, h1, _⟩ := gs e he
    show strOf e.2 = txtOf e
    unfold txtOf
    rw [h1]
    rfl
  refine wpAny_bind (wpAny_newList ?_ (by rw [ol, sizeLine_eq]; omega))
  have gL : (s1.heap.push (seqObj "list" out.toArray 0)).get? s1.heap.objs.size = some (seqObj "list" out.toArray 0) := Heap.get?_push_size _ rfl
  refine wpAny_bind (wpAny_holding (wpAny_call_entry slot_list_sort ⟨_, gL, rfl⟩ entry_list_sort (list_sort_treeK strKind_oneLt gL hS.keysOf (fun v1 v2 rest e => keyKind_strs (by rw [← e]; exact hS)) (by rw [ol]; exact n64) fun st hp hs => ⟨_, rfl, ?_⟩) (args_list_sort _)))
  obtain ⟨ys, b1, b2, b3⟩ := sorted_out_str hS hp hs
  obtain ⟨c, hc⟩ := sortedHeap_at (vs := out) (out := (arrOf st).map (·.2)) gL
  have py : ys.Perm (es.toList.map txtOf) := b2.trans pk
  refine wpAny_pure ⟨_, rfl, ?_⟩
  have keep : ∀ b u, s.heap.get? b = some u → (sortedHeap (s1.heap.push (seqObj "list" out.toArray 0)) s1.heap.objs.size out ((arrOf st).map (·.2))).get? b = some u := fun b u e => by
    have q1 := k1 b u e
    have lt := Heap.lt_size q1
    rw [sortedHeap_old (Nat.ne_of_lt lt) (by rw [size_push']; exact Nat.lt_succ_of_lt lt)]
    exact Heap.get?_push_of_some _ q1
  have yl : (ys.map V.str).length ≤ sizeLine := by
    rw [List.length_map, py.length_eq, List.length_map, Array.length_toList, gz, sizeLine_eq]
    omega
  have fr : H s1.heap.objs.size = none := I.hok.fresh hz
  have J0 : Inv X pins σ H ⟨s.heap, s1.gens, s1.drawn, s.toks, s1.os⟩ := by
    rw [e1, e2]
    exact ⟨I.ok, I.os, I.bare, I.base, I.loc, I.cell, I.free, I.freeC, I.pin, I.hok, I.len⟩
  refine ⟨.ref _, upd H s1.heap.objs.size (.lst (ys.map V.str)), ?_, rfl, q ys _ (py.nodup_iff.mpr gn) b3 (fun z => by rw [py.mem_iff, ← gm z]) fr⟩
  exact J0.laid (o := .lst (ys.map V.str)) (t' := s1.toks) keep hz ⟨yl, _, c, vals_of_strs b1, hc⟩
end DK

/-! DKT: texts in their order. -/
namespace DK
open PySem PySem.Spec PyProof.Rows L2

theorem lt_irr : ∀ a : List Nat, ltCps a a = false
  | [] => rfl
  | x :: a => by
    show (decide (x < x) || (x == x && ltCps a a)) = false
    rw [lt_irr a]
    simp
theorem lt_tri : ∀ a b : List Nat, ltCps a b = false → ltCps b a = false → a = b
  | [], [], _, _ => rfl
  | [], _ :: _, h, _ => by cases h
  | _ :: _, [], _, h => by cases h
  | x :: a, y :: b, h1, h2 => by
    have h1' : (decide (x < y) || (x == y && ltCps a b)) = false := h1
    have h2' : (decide (y < x) || (y == x && ltCps b a)) = false := h2
    simp only [Bool.or_eq_false_iff, decide_eq_false_iff_not, Bool.and_eq_false_iff, beq_eq_false_iff_ne] at h1' h2'
    have e : x = y := by omega
    subst e
    have q1 : ltCps a b = false := h1'.2.resolve_left fun z => z rfl
    have q2 : ltCps b a = false := h2'.2.resolve_left fun z => z rfl
    rw [lt_tri a b q1 q2]
theorem lt_tr : ∀ a b c : List Nat, ltCps a b = true → ltCps b c = true → ltCps a c = true
  | [], [], _, h, _ => by cases h
  | [], _ :: _, [], _, h => by cases h
  | [], _ :: _, _ :: _, _, _ => rfl
  | _ :: _, [], _, h, _ => by cases h
  | _ :: _, _ :: _, [], _, h => by cases h
  | x :: a, y :: b, z :: c, h1, h2 => by
    have h1' : (decide (x < y) || (x == y && ltCps a b)) = true := h1
    have h2' : (decide (y < z) || (y == z && ltCps b c)) = true := h2
    show (decide (x < z) || (x == z && ltCps a c)) = true
    simp only [Bool.or_eq_true, decide_eq_true_eq, Bool.and_eq_true, beq_iff_eq] at h1' h2' ⊢
    rcases h1' with p | ⟨p1, p2⟩ <;> rcases h2' with q | ⟨q1, q2⟩
    · exact .inl (by omega)
    · exact .inl (by omega)
    · exact .inl (by omega)
    · exact .inr ⟨by omega, lt_tr a b c p2 q2⟩
/-- a stands ahead of b, or is it -/
def leS (a b : Str) : Bool := !ltCps b.cps.toList a.cps.toList
theorem leS_refl (a : Str) : leS a a = true := by unfold leS; rw [lt_irr]; rfl
theorem leS_tot (a b : Str) : leS a b = true ∨ leS b a = true := by
  unfold leS
  cases h : ltCps b.cps.toList a.cps.toList with
  | false => exact .inl rfl
  | true =>
    refine .inr ?_
    cases k : ltCps a.cps.toList b.cps.toList with
    | false => rfl
    | true =>
      have := lt_tr _ _ _ h k
      rw [lt_irr] at this
      cases this
theorem leS_anti {a b : Str} (h : leS a b = true) (k : leS b a = true) : a = b := by
  unfold leS at h k
  rw [Bool.not_eq_true'] at h k
  exact TL.ext_tl (lt_tri _ _ k h)
theorem leS_tr {a b c : Str} (h : leS a b = true) (k : leS b c = true) : leS a c = true := by
  unfold leS at h k ⊢
  rw [Bool.not_eq_true'] at h k ⊢
  cases q : ltCps c.cps.toList a.cps.toList with
  | false => rfl
  | true =>
    by_cases e : ltCps a.cps.toList b.cps.toList = true
    · rw [lt_tr _ _ _ q e] at k
      cases k
    · have e1 : ltCps a.cps.toList b.cps.toList = false := by simpa using e
      have := lt_tri _ _ e1 h
      rw [this, k] at q
      cases q
def insS (x : Str) : List Str → List Str
  | [] => [x]
  | y :: r => if leS x y = true then x :: y :: r else y :: insS x r
/-- sorted -/
def srt : List Str → List Str
  | [] => []
  | x :: r => insS x (srt r)
theorem insS_perm (x : Str) : ∀ l : List Str, (insS x l).Perm (x :: l)
  | [] => .refl _
  | y :: r => by
    unfold insS
    split
    · exact .refl _
    · exact ((insS_perm x r).cons y).trans (List.Perm.swap x y r)
theorem srt_perm : ∀ l : List Str, (srt l).Perm l
  | [] => .refl _
  | x :: r => (insS_perm x (srt r)).trans ((srt_perm r).cons x)
def Srt (l : List Str) : Prop := l.Pairwise fun a b => leS a b = true
theorem insS_srt {x : Str} : ∀ {l : List Str}, Srt l → Srt (insS x l)
  | [], _ => List.pairwise_singleton _ _
  | y :: r, h => by
    obtain ⟨h1, h2⟩ := List.pairwise_cons.mp h
    unfold insS
    split
    · rename_i c
      refine List.pairwise_cons.mpr ⟨fun z hz => ?_, h⟩
      rcases List.mem_cons.mp hz with e | e
      · rw [e]; exact c
      · exact leS_tr c (h1 z e)
    · rename_i c
      refine List.pairwise_cons.mpr ⟨fun z hz => ?_, insS_srt h2⟩
      rcases List.mem_cons.mp ((insS_perm x r).mem_iff.mp hz) with e | e
      · rw [e]
        exact (leS_tot y x).resolve_right c
      · exact h1 z e
theorem srt_srt : ∀ l : List Str, Srt (srt l)
  | [] => List.Pairwise.nil
  | x :: r => insS_srt (srt_srt r)
theorem srt_of : ∀ {l : List Str}, sortedS l = true → Srt l
  | [], _ => List.Pairwise.nil
  | x :: l, h => by
    have aux : ∀ (l : List Str) (p : Str), risingS p l = true → (∀ y ∈ l, leS p y = true) ∧ Srt l := by
      intro l
      induction l with
      | nil => exact fun p _ => ⟨fun y hy => (by cases hy), List.Pairwise.nil⟩
      | cons x r ih =>
        intro p hp
        have hp' : (!ltCps x.cps.toList p.cps.toList && risingS x r) = true := hp
        rw [Bool.and_eq_true] at hp'
        obtain ⟨i1, i2⟩ := ih x hp'.2
        refine ⟨fun y hy => ?_, List.pairwise_cons.mpr ⟨i1, i2⟩⟩
        rcases List.mem_cons.mp hy with e | e
        · rw [e]; exact hp'.1
        · exact leS_tr hp'.1 (i1 y e)
    obtain ⟨h1, h2⟩ := aux l x h
    exact List.pairwise_cons.mpr ⟨h1, h2⟩
/-- two sorted lists of the same things are one -/
theorem srt_uniq : ∀ {l m : List Str}, Srt l → Srt m → l.Perm m → l = m
  | [], m, _, _, p => (List.nil_perm.mp p).symm ▸ rfl
  | x :: l, [], _, _, p => absurd (List.perm_nil.mp p) (by simp)
  | x :: l, y :: m, h, k, p => by
    obtain ⟨h1, h2⟩ := List.pairwise_cons.mp h
    obtain ⟨k1, k2⟩ := List.pairwise_cons.mp k
    have e : x = y := by
      have xm : x ∈ y :: m := p.mem_iff.mp (List.mem_cons_self)
      have ym : y ∈ x :: l := p.mem_iff.mpr (List.mem_cons_self)
      rcases List.mem_cons.mp xm with e | e
      · exact e
      · rcases List.mem_cons.mp ym with f | f
        · exact f.symm
        · exact leS_anti (h1 y f) (k1 x e)
    subst e
    rw [srt_uniq h2 k2 ((List.perm_cons x).mp p)]
theorem srt_eq {l m : List Str} (h : sortedS m = true) (p : m.Perm l) : m = srt l := srt_uniq (srt_of h) (srt_srt l) (p.trans (srt_perm l).symm)
/-- each once -/
def once : List Str → List Str
  | [] => []
  | x :: r => if x ∈ r then once r else x :: once r
theorem mem_once {z : Str} : ∀ {l : List Str}, z ∈ once l ↔ z ∈ l
  | [] => Iff.rfl
  | x :: r => by
    unfold once
    split
    · rename_i h
      rw [mem_once, List.mem_cons]
      exact ⟨.inr, fun q => q.elim (fun e => e ▸ h) id⟩
    · rw [List.mem_cons, List.mem_cons, mem_once]
theorem nd_once : ∀ l : List Str, (once l).Nodup
  | [] => List.nodup_nil
  | x :: r => by
    unfold once
    split
    · exact nd_once r
    · rename_i h
      exact List.nodup_cons.mpr ⟨fun q => h (mem_once.mp q), nd_once r⟩
theorem len_once : ∀ l : List Str, (once l).length ≤ l.length
  | [] => Nat.le_refl _
  | x :: r => by
    unfold once
    have := len_once r
    split
    · rw [List.length_cons]; omega
    · rw [List.length_cons, List.length_cons]; omega
/-- the different ones, sorted -/
def srtU (l : List Str) : List Str := srt (once l)
theorem srtU_eq {l m : List Str} (h : sortedS m = true) (nd : m.Nodup) (hm : ∀ z, z ∈ m ↔ z ∈ l) : m = srtU l := by
  refine srt_eq h ?_
  refine (List.perm_ext_iff_of_nodup nd (nd_once l)).mpr fun z => ?_
  rw [hm z, mem_once]
theorem srt_len (l : List Str) : (srt l).length = l.length := (srt_perm l).length_eq
end DK

/-! DK4: calls of built-ins, methods, sequences. -/
namespace DK
open PySem PySem.Spec PyProof.Rows L2

section
variable {K : PySem.W.Frag} {ρ ρ1 ρ2 : Env'} {μ μ1 μ2 μ3 : Mu} {ta tb te tc : TE} {w : W} {a b d : D} {i : Nat}

/-! ### sequences -/
inductive SeqW (μ : Mu) : W → List D → Prop where
  | lst {xs : List D} : SeqW μ (.val (.lst xs)) xs
  | tup {xs : List D} : SeqW μ (.val (.tup xs)) xs
  | loc {j : Nat} {xs : List D} : μ[j]? = some (.lst xs) → SeqW μ (.loc j) xs
  | frz {j : Nat} {xs : List D} : μ[j]? = some (.frz xs) → SeqW μ (.loc j) xs
theorem PI.or {X : Cx} {tg e : Expr} {wi wj : TI} (h : PI X tg e wi) (k : PI X tg e wj) : PI X tg e (fun σ H R => wi σ H R ∨ wj σ H R) := ⟨fun pins s σ H R I q => by
  rcases q with q | q
  · exact h.run pins s σ H R I q
  · exact k.run pins s σ H R I q⟩
def iSeq (K : PySem.W.Frag) (te : TE) : TI := fun σ H R => iList K te σ H R ∨ iTup K te σ H R
theorem pi_seq {X : Cx} {tg e : Expr} {te : TE} (h : PE X e te) : PI X tg e (iSeq X.K te) := PI.or (pi_list h) (pi_tup h)
/-- the list that stands at a location, as long as it stands -/
theorem at_loc {G H : Hp} {as : List Addr} {P : Addr → Prop} {σ : L2.St} {j : Nat} {a : Addr} {xs : List D} (R : Rl K G H as P ρ μ σ) (ha : as[j]? = some a) (hm : μ[j]? = some (.lst xs) ∨ μ[j]? = some (.frz xs)) : ∃ vs, H a = some (.lst vs) ∧ RepL K G xs vs ∧ xs.length ≤ LB := by
  rcases hm with hm | hm
  · obtain ⟨_, z, vs, h1, h2⟩ := R.mu j a _ ha hm
    exact ⟨vs, h1, h2, z⟩
  · obtain ⟨z, vs, h1, h2⟩ := R.mu j a _ ha hm
    exact ⟨vs, R.sub _ _ h1, h2, z⟩
def lstAt (j : Nat) (xs : List D) : Mu → Prop := fun μ => μ[j]? = some (.lst xs) ∨ μ[j]? = some (.frz xs)
theorem ei_loc {j : Nat} {xs : List D} (h : Ev K te ρ μ (.loc j) μ1) (hm : lstAt j xs μ1) : EvI K (iList K te) ρ μ xs μ1 (lstAt j xs) := ⟨hm, fun P as σ G H R Q q =>
  h P as σ G H R _ fun v as1 G1 H1 n1 R1 ⟨a, ha, ev⟩ => by
    obtain ⟨vs, h1, r1, z1⟩ := at_loc R1 ha hm
    refine ⟨a, ev, ⟨vs, SqL.of h1⟩, q _ as1 G1 H1 n1 R1 fun i P' as' ρ' μ' σ' G' H' s pr hc R' => ?_⟩
    obtain ⟨us, h2, r2, _⟩ := at_loc R' (at_pre pr ha) hc
    have hs : SqL K H' a us := SqL.of h2
    constructor
    · intro d hd
      obtain ⟨x, hx, rx⟩ := r2.get hd
      refine ⟨⟨us, x, hs, hx⟩, fun y H2 ⟨e, hy⟩ => ?_⟩
      subst e
      have : y = x := by
        have := hy us hs
        rw [hx] at this
        exact (Option.some.inj this).symm
      subst this
      exact ⟨G', .refl, R', rx⟩
    · intro hn
      exact ⟨us, hs, by rw [r2.length]; exact List.getElem?_eq_none_iff.mp hn⟩⟩
def seqC (w : W) (xs : List D) : Mu → Prop := match w with
  | .loc j => lstAt j xs
  | _ => CT
theorem seqC_of {xs : List D} (h : SeqW μ w xs) : seqC w xs μ := by
  cases h with
  | lst => trivial
  | tup => trivial
  | loc h => exact .inl h
  | frz h => exact .inr h
theorem ei_seq {xs : List D} (h : Ev K te ρ μ w μ1) (hw : SeqW μ1 w xs) : EvI K (iSeq K te) ρ μ xs μ1 (seqC w xs) := by
  cases hw with
  | lst => exact ⟨trivial, fun P as σ G H R Q q => .inl ((ei_list h).2 P as σ G H R Q q)⟩
  | tup => exact ⟨trivial, fun P as σ G H R Q q => .inr ((ei_tup h).2 P as σ G H R Q q)⟩
  | loc hm => exact ⟨.inl hm, fun P as σ G H R Q q => .inl ((ei_loc h (.inl hm)).2 P as σ G H R Q q)⟩
  | frz hm => exact ⟨.inr hm, fun P as σ G H R Q q => .inl ((ei_loc h (.inr hm)).2 P as σ G H R Q q)⟩
theorem SeqW.size {G H : Hp} {as : List Addr} {P : Addr → Prop} {σ : L2.St} {xs : List D} {v : V} (R : Rl K G H as P ρ μ σ) (h : SeqW μ w xs) (r : RepW K G as w v) : ∃ a vs, v = .ref a ∧ (SqL K H a vs ∨ SqT K H a vs) ∧ RepL K G xs vs ∧ xs.length ≤ LB := by
  cases h with
  | lst => obtain ⟨z, a, vs, e, g, q⟩ := r; exact ⟨a, vs, e, .inl (SqL.of (R.sub _ _ g)), q, z⟩
  | tup => obtain ⟨z, a, vs, e, g, q⟩ := r; exact ⟨a, vs, e, .inr (same_sqt R.sub g), q, z⟩
  | loc hm =>
    obtain ⟨a, ha, e⟩ := r
    obtain ⟨vs, h1, h2, z⟩ := at_loc R ha (.inl hm)
    exact ⟨a, vs, e, .inl (SqL.of h1), h2, z⟩
  | frz hm =>
    obtain ⟨a, ha, e⟩ := r
    obtain ⟨vs, h1, h2, z⟩ := at_loc R ha (.inr hm)
    exact ⟨a, vs, e, .inl (SqL.of h1), h2, z⟩
/-- signs of a text -/
def signs (s : Str) : List D := s.cps.toList.map fun c => D.str ⟨#[c]⟩
theorem sOk_sign {s : Str} {c : Nat} (h : sOk s) (hc : c ∈ s.cps.toList) : sOk ⟨#[c]⟩ := by
  refine ⟨by show (1 : Nat) ≤ SB; decide, ?_⟩
  have := Array.all_eq_true_iff_forall_mem.mp h.2 c (by simpa using hc)
  simpa using this
theorem ei_str {s : Str} (h : Ev K te ρ μ (.val (.str s)) μ1) : EvI K (iStr te) ρ μ (signs s) μ1 CT := ⟨trivial, fun P as σ G H R Q q =>
  h P as σ G H R _ fun v as1 G1 H1 n1 R1 ⟨ev, ok⟩ => by
    refine ⟨s, ev, q _ as1 G1 H1 n1 R1 fun i P' as' ρ' μ' σ' G' H' s' _ _ R' => ?_⟩
    have key : (signs s)[i]? = (s.cps[i]?).map fun c => D.str ⟨#[c]⟩ := by
      unfold signs
      rw [List.getElem?_map, Array.getElem?_toList]
    constructor
    · intro d hd
      rw [key] at hd
      cases e : s.cps[i]? with
      | none => rw [e] at hd; cases hd
      | some c =>
        rw [e] at hd
        cases hd
        refine ⟨(Array.getElem?_eq_some_iff.mp e).1, fun y H2 ⟨eH, c', e', ey⟩ => ?_⟩
        subst eH
        rw [e] at e'
        cases e'
        exact ⟨G', .refl, R', ey, sOk_sign ok (List.mem_of_getElem? (i := i) (by rw [Array.getElem?_toList]; exact e))⟩
    · intro hn
      rw [key] at hn
      cases e : s.cps[i]? with
      | none => exact Array.getElem?_eq_none_iff.mp e
      | some c => rw [e] at hn; cases hn⟩

/-! ### calls on values -/
theorem ev_cb {r : List V → Hp → VK → Prop} {t : TA} {ds : List D} (h : EvD K t ρ μ ds μ1) (hr : OpC K r ds d) : Ev K (tCB r t) ρ μ (.val d) μ1 := fun P as σ G H R Q q =>
  h P as σ G H R _ fun vs as1 G1 H1 n1 R1 r1 => hr P as1 ρ μ1 σ G1 H1 vs R1 (RepWs.vals.mp r1) Q fun v G2 H2 n2 R2 r2 => q v as1 G2 H2 (n1.trans n2) R2 r2
def OpCW (K : PySem.W.Frag) (r : List V → Hp → VK → Prop) (μ : Mu) (ws : List W) (w : W) (μ' : Mu) : Prop := ∀ (P : Addr → Prop) (as : List Addr) (ρ : Env') (σ : L2.St) (G H : Hp) (vs : List V), Rl K G H as P ρ μ σ → RepWs K G as ws vs → ∀ Q : VK,
  (∀ v as' G' H', Nx P as G H as' G' H' → Rl K G' H' as' P ρ μ' σ → RepW K G' as' w v → Q v H') → r vs H Q
theorem ev_cbW {r : List V → Hp → VK → Prop} {t : TA} {ws : List W} (h : EvA K t ρ μ ws μ1) (hr : OpCW K r μ1 ws w μ2) : Ev K (tCB r t) ρ μ w μ2 := fun P as σ G H R Q q =>
  h P as σ G H R _ fun vs as1 G1 H1 n1 R1 r1 => hr P as1 ρ σ G1 H1 vs R1 r1 Q fun v as2 G2 H2 n2 R2 r2 => q v as2 G2 H2 (n1.trans n2) R2 r2
theorem repL1 {G : Hp} {d : D} {vs : List V} (h : RepL K G [d] vs) : ∃ v, vs = [v] ∧ Rep K G d v := by
  obtain ⟨v, r, e, h1, h2⟩ := h
  rw [show r = [] from h2] at e
  exact ⟨v, e, h1⟩
theorem repL2 {G : Hp} {d d' : D} {vs : List V} (h : RepL K G [d, d'] vs) : ∃ v u, vs = [v, u] ∧ Rep K G d v ∧ Rep K G d' u := by
  obtain ⟨v, r, e, h1, h2⟩ := h
  obtain ⟨u, e2, h3⟩ := repL1 h2
  rw [e2] at e
  exact ⟨v, u, e, h1, h3⟩
theorem repW1 {G : Hp} {as : List Addr} {w : W} {vs : List V} (h : RepWs K G as [w] vs) : ∃ v, vs = [v] ∧ RepW K G as w v := by
  obtain ⟨v, r, e, h1, h2⟩ := h
  rw [show r = [] from h2] at e
  exact ⟨v, e, h1⟩
/-! len -/
def rLenA (K : PySem.W.Frag) : List V → Hp → VK → Prop := fun xs H Q => ∃ x n, xs = [x] ∧ LenV K x H n ∧ Q (.int n) H
theorem call_lenA {X : Cx} : CallR X (.builtin "len") (rLenA X.K) := call_len
theorem c_lenS {s : Str} : OpC K (rLenA K) [.str s] (.int s.length) := fun P as ρ μ σ G H vs R r Q q => by
  obtain ⟨v, e, ev, hs⟩ := repL1 r
  subst ev
  exact ⟨_, s.length, e, ⟨Nat.le_trans hs.1 (by decide), rfl⟩, q _ G H .refl R rfl⟩
theorem c_lenSeq {w : W} {xs : List D} (h : SeqW μ w xs) : OpCW K (rLenA K) μ [w] (.val (.int xs.length)) μ := fun P as ρ σ G H vs R r Q q => by
  obtain ⟨v, e, rv⟩ := repW1 r
  obtain ⟨a, us, ev, hs, hr, _⟩ := h.size R rv
  subst ev
  refine ⟨_, xs.length, e, ?_, q _ as G H .refl R rfl⟩
  rcases hs with hs | hs
  · exact .inl ⟨us, hs, hr.length.symm⟩
  · exact .inr ⟨us, hs, hr.length.symm⟩
/-! isinstance -/
def isData : D → Bool
  | .ty _ => false
  | .cls _ => false
  | .scr _ => false
  | _ => true
def tyVal (K : PySem.W.Frag) : D → Value
  | .non => .type "NoneType"
  | .bl _ => .type "bool"
  | .int _ => .type "int"
  | .str _ => .type "str"
  | .tup _ => .type "tuple"
  | .lst _ => .type "list"
  | .obj c _ _ => .ref (He.ga K c)
  | _ => .none
theorem tyx_of {G H : Hp} {d : D} {v : V} (s : Same G H) (k : isData d = true) (r : Rep K G d v) : TyX K H v (tyVal K d) := by
  cases d with
  | non => rw [show v = .non from r]; exact .base .non
  | bl b => rw [show v = .bl b from r]; exact .base (.bl b)
  | int b => rw [show v = .int b from r]; exact .base (.int b)
  | str b => rw [show v = .str b from r.1]; exact .base (.str b)
  | tup xs =>
    obtain ⟨_, a, vs, e, g, _⟩ := r
    rw [e]
    rcases g with (g | ⟨o, g⟩) | ⟨o, its, n, g, gc, _⟩
    · exact .base (.tup (s _ _ g))
    · exact .fTuple (s _ _ g)
    · exact .kTuple g gc
  | lst xs =>
    obtain ⟨_, a, vs, e, g, _⟩ := r
    rw [e]
    exact .base (.lst (s _ _ g))
  | obj c ns xs =>
    obtain ⟨ck, a, dx, vs, e, g, _⟩ := r
    rw [e]
    exact .base (.ins (s _ _ g) ck.cl ck.ha ck.hn ck.htk ck.hm)
  | ty n => cases k
  | cls c => cases k
  | scr c => cases k
def isT (T : String) : D → Bool
  | .non => false
  | .bl _ => T == "int" || T == "bool"
  | .int _ => T == "int"
  | .str _ => T == "str"
  | .tup _ => T == "tuple"
  | .lst _ => T == "list"
  | _ => false
theorem kit_T {d : D} {T : String} {G : Hp} {v : V} (hT : T ∈ ["int", "bool", "str", "list", "tuple"]) (k : isData d = true) (r : Rep K G d v) : PySem.W.kitOne K (tyVal K d) (.type T) = some (isT T d) := by
  cases d with
  | obj c ns xs => exact r.1.no T hT
  | ty n => cases k
  | cls c => cases k
  | scr c => cases k
  | _ =>
    simp only [List.mem_cons, List.not_mem_nil, or_false] at hT
    rcases hT with e | e | e | e | e <;> subst e <;> exact kit_ty (by simp only [isT]; decide +kernel)
theorem c_isT {d : D} {T : String} (k : isData d = true) (hT : T ∈ ["int", "bool", "str", "list", "tuple"] := by decide) : OpC K (rIsi K) [d, .ty T] (.bl (isT T d)) := fun P as ρ μ σ G H vs R r Q q => by
  obtain ⟨v, u, e, r1, r2⟩ := repL2 r
  exact ⟨v, u, _, _, _, e, by rw [show u = .ty T from r2]; exact .ty T, tyx_of R.sub k r1, kit_T hT k r1, q _ G H .refl R rfl⟩
/-- isinstance(e, C) of a class of one's own: kitOne's answer -/
theorem c_isC {d : D} {c : Str} {b : Bool} (k : isData d = true) (hk : PySem.W.kitOne K (tyVal K d) (.ref (He.ga K c)) = some b) : OpC K (rIsi K) [d, .cls c] (.bl b) := fun P as ρ μ σ G H vs R r Q q => by
  obtain ⟨v, u, e, r1, r2⟩ := repL2 r
  exact ⟨v, u, _, _, _, e, by rw [show u = .ref _ from r2]; exact .own _, tyx_of R.sub k r1, hk, q _ G H .refl R rfl⟩
def isSeqD : D → Bool
  | .tup _ => true
  | .lst _ => true
  | _ => false
/-- isinstance(e, (list, tuple)) -/
def tIsSeq (K : PySem.W.Frag) (te : TE) : TE := tCB (rIsiT K) (tCons te (tCons (tTup (tCons (tC (.ty "list")) (tCons (tC (.ty "tuple")) tNil))) tNil))
theorem isSeq_core {G H : Hp} {as : List Addr} {P : Addr → Prop} {σ : L2.St} {v : V} {t : Value} {b : Bool} {Q : VK} (R : Rl K G H as P ρ μ σ) (ty : ∀ p o, H p = none → TyX K (upd H p o) v t) (hk : PySem.W.kitAny K t [.type "list", .type "tuple"] = some b)
    (q : ∀ G' H', Nx P as G H as G' H' → Rl K G' H' as P ρ μ σ → Q (.bl b) H') : tTup (tCons (tC (.ty "list")) (tCons (tC (.ty "tuple")) tNil)) σ H (fun x H1 => tNil σ H1 fun xs H2 => rIsiT K (v :: x :: xs) H2 Q) := by
  refine ⟨by show (2 : Nat) ≤ sizeLine; decide, fun p hp => ?_⟩
  obtain ⟨R1, n1⟩ := R.imm hp (.tup [.ty "list", .ty "tuple"])
  exact ⟨v, p, [.ty "list", .ty "tuple"], t, [.type "list", .type "tuple"], b, rfl, upd_same, .cons (.ty _) (.cons (.ty _) .nil), ty p _ hp, hk, q _ _ n1 R1⟩
theorem tyx_upd {H : Hp} {v : V} {t : Value} {p : Addr} {o : HO} (h : TyX K H v t) (hp : H p = none) : TyX K (upd H p o) v t := by
  have u : ∀ {a : Addr} {x : HO}, H a = some x → upd H p o a = some x := fun e => by rw [upd_ne (ne_of_none e hp)]; exact e
  cases h with
  | base h =>
    refine .base ?_
    cases h with
    | non => exact .non
    | bl b => exact .bl b
    | int b => exact .int b
    | str b => exact .str b
    | flt b => exact .flt b
    | lst e => exact .lst (u e)
    | frz e => exact .frz (u e)
    | tup e => exact .tup (u e)
    | dK e => exact .dK (u e)
    | dT e => exact .dT (u e)
    | ins e c1 c2 c3 c4 c5 => exact .ins (u e) c1 c2 c3 c4 c5
  | byt b => exact .byt b
  | set e => exact .set (u e)
  | kList e c => exact .kList e c
  | kTuple e c => exact .kTuple e c
  | kDict e c => exact .kDict e c
  | fTuple e => exact .fTuple (u e)
  | fDict e => exact .fDict (u e)
theorem isSeq_kit {d : D} {G : Hp} {v : V} (k : isData d = true) (r : Rep K G d v) : PySem.W.kitAny K (tyVal K d) [.type "list", .type "tuple"] = some (isSeqD d) := by
  have h1 := kit_T (T := "list") (by decide) k r
  have h2 := kit_T (T := "tuple") (by decide) k r
  refine kitAny_cons h1 (fun e => kitAny_cons h2 (fun e2 => ?_) fun e2 => ?_) fun e => ?_
  · cases d <;> first | rfl | (simp [isT] at e; done) | (simp [isT] at e2; done)
  · cases d <;> first | rfl | (simp [isT] at e2; done)
  · cases d <;> first | rfl | (simp [isT] at e; done)
theorem ev_isSeq {d : D} (h : Ev K te ρ μ (.val d) μ1) (k : isData d = true) : Ev K (tIsSeq K te) ρ μ (.val (.bl (isSeqD d))) μ1 := fun P as σ G H R Q q =>
  h P as σ G H R _ fun v as1 G1 H1 n1 R1 r1 => isSeq_core R1 (fun p o hp => tyx_upd (tyx_of R1.sub k r1) hp) (isSeq_kit k r1) fun G2 H2 n2 R2 => q _ as1 G2 H2 (n1.trans n2) R2 rfl
theorem ev_isSeqL {j : Nat} {xs : List D} (h : Ev K te ρ μ (.loc j) μ1) (hm : lstAt j xs μ1) : Ev K (tIsSeq K te) ρ μ (.val (.bl true)) μ1 := fun P as σ G H R Q q =>
  h P as σ G H R _ fun v as1 G1 H1 n1 R1 ⟨a, ha, ev⟩ => by
    obtain ⟨vs, h1, _, _⟩ := at_loc R1 ha hm
    subst ev
    exact isSeq_core (b := true) R1 (fun p o hp => tyx_upd (.base (.lst h1)) hp) (kitAny_cons (b := true) (kit_ty (by decide +kernel)) (fun e => by cases e) fun _ => rfl) fun G2 H2 n2 R2 => q _ as1 G2 H2 (n1.trans n2) R2 rfl
theorem ev_isSeqW {xs : List D} (h : Ev K te ρ μ w μ1) (hw : SeqW μ1 w xs) : Ev K (tIsSeq K te) ρ μ (.val (.bl true)) μ1 := by
  cases hw with
  | lst => exact ev_isSeq h rfl
  | tup => exact ev_isSeq h rfl
  | loc hm => exact ev_isSeqL h (.inl hm)
  | frz hm => exact ev_isSeqL h (.inr hm)
/-! all, any, tuple, list, sorted -/
theorem c_all {bs : List Bool} : OpC K (rAll K) [.lst (bs.map D.bl)] (.bl (bs.all id)) := fun P as ρ μ σ G H vs R r Q q => by
  obtain ⟨v, e, _, a, us, ev, g, rl⟩ := repL1 r
  have := rl.bls
  subst this ev
  exact ⟨a, bs, e, SqL.of (R.sub _ _ g), q _ G H .refl R rfl⟩
theorem c_any {bs : List Bool} : OpC K (rAny K) [.lst (bs.map D.bl)] (.bl (bs.any id)) := fun P as ρ μ σ G H vs R r Q q => by
  obtain ⟨v, e, _, a, us, ev, g, rl⟩ := repL1 r
  have := rl.bls
  subst this ev
  exact ⟨a, bs, e, SqL.of (R.sub _ _ g), q _ G H .refl R rfl⟩
def rTupOf (K : PySem.W.Frag) : List V → Hp → VK → Prop := fun xs H Q => ∃ p ys, xs = [.ref p] ∧ ((SqL K H p ys ∧ ∀ l, H l = none → Q (.ref l) (upd H l (.tup ys))) ∨ (SqT K H p ys ∧ Q (.ref p) H))
theorem call_tupOf {X : Cx} : CallR X (.type "tuple") (rTupOf X.K) := call_tuple_of
theorem c_tup {w : W} {xs : List D} (h : SeqW μ w xs) : OpCW K (rTupOf K) μ [w] (.val (.tup xs)) μ := fun P as ρ σ G H vs R r Q q => by
  obtain ⟨v, e, rv⟩ := repW1 r
  have new : ∀ a us, SqL K H a us → RepL K G xs us → xs.length ≤ LB → rTupOf K [.ref a] H Q := fun a us hs hr hz => by
    refine ⟨a, us, rfl, .inl ⟨hs, fun l hl => ?_⟩⟩
    obtain ⟨R2, n2⟩ := R.imm hl (.tup us)
    exact q _ as _ _ n2 R2 ⟨hz, l, us, rfl, SqT.of upd_same, RepL.mono n2.gr _ _ hr⟩
  cases h with
  | lst =>
    obtain ⟨z, a, us, ev, g, hr⟩ := rv
    subst ev
    rw [e]
    exact new a us (SqL.of (R.sub _ _ g)) hr z
  | tup =>
    obtain ⟨z, a, us, ev, g, hr⟩ := id rv
    subst ev
    exact ⟨a, us, e, .inr ⟨same_sqt R.sub g, q _ as G H .refl R rv⟩⟩
  | loc hm =>
    obtain ⟨a, ha, ev⟩ := rv
    obtain ⟨us, h1, h2, z⟩ := at_loc R ha (.inl hm)
    subst ev
    rw [e]
    exact new a us (SqL.of h1) h2 z
  | frz hm =>
    obtain ⟨a, ha, ev⟩ := rv
    obtain ⟨us, h1, h2, z⟩ := at_loc R ha (.inr hm)
    subst ev
    rw [e]
    exact new a us (SqL.of h1) h2 z
def rLstOf (K : PySem.W.Frag) : List V → Hp → VK → Prop := fun xs H Q => ∃ p ys, xs = [.ref p] ∧ (SqL K H p ys ∨ SqT K H p ys) ∧ ∀ l, H l = none → Q (.ref l) (upd H l (.lst ys))
theorem call_lstOf {X : Cx} : CallR X (.type "list") (rLstOf X.K) := call_list_of
/-- list(..) that is not changed -/
theorem c_lst {w : W} {xs : List D} (h : SeqW μ w xs) : OpCW K (rLstOf K) μ [w] (.val (.lst xs)) μ := fun P as ρ σ G H vs R r Q q => by
  obtain ⟨v, e, rv⟩ := repW1 r
  obtain ⟨a, us, ev, hs, hr, hz⟩ := h.size R rv
  subst ev
  refine ⟨a, us, e, hs, fun l hl => ?_⟩
  obtain ⟨R2, n2⟩ := R.imm hl (.lst us)
  exact q _ as _ _ n2 R2 ⟨hz, l, us, rfl, upd_same, RepL.mono n2.gr _ _ hr⟩
/-- list(..) that will be changed -/
def rLstOfM (K : PySem.W.Frag) : List V → Hp → VK → Prop := rLstOf K
theorem call_lstOfM {X : Cx} : CallR X (.type "list") (rLstOfM X.K) := call_list_of
theorem c_lstM {w : W} {xs : List D} (h : SeqW μ w xs) : OpCW K (rLstOfM K) μ [w] (.loc μ.length) (μ ++ [.lst xs]) := fun P as ρ σ G H vs R r Q q => by
  obtain ⟨v, e, rv⟩ := repW1 r
  obtain ⟨a, us, ev, hs, hr, hz⟩ := h.size R rv
  subst ev
  refine ⟨a, us, e, hs, fun l hl => ?_⟩
  obtain ⟨R2, n2⟩ := R.mut (m := .lst xs) hl ⟨R.sub.free hl, hz, us, upd_same, hr⟩ rfl
  exact q _ _ _ _ n2 R2 ⟨l, by rw [List.getElem?_append_right (by rw [R.len]; exact Nat.le_refl _), R.len]; simp, rfl⟩
theorem c_sortS {ss : List Str} (h : ss.length < 64) : OpC K (rSortedS K) [.lst (ss.map D.str)] (.lst ((srt ss).map D.str)) := fun P as ρ μ σ G H vs R r Q q => by
  obtain ⟨v, e, _, a, us, ev, g, rl⟩ := repL1 r
  obtain ⟨eu, ok⟩ := rl.strs
  subst eu ev
  refine ⟨a, ss, e, SqL.of (R.sub _ _ g), h, fun ys p py sy hp => ?_⟩
  have ey := srt_eq sy py
  subst ey
  obtain ⟨R2, n2⟩ := R.imm hp (.lst ((srt ss).map V.str))
  exact q _ _ _ n2 R2 ⟨by rw [List.length_map, srt_len]; exact Nat.le_trans (Nat.le_of_lt h) (by decide), p, _, rfl, upd_same, RepL.ofStrs fun s hs => ok s ((srt_perm ss).mem_iff.mp hs)⟩
/-! str, int, abs, max, min -/
def rStrS : List V → Hp → VK → Prop := fun xs H Q => (∃ a : Str, xs = [.str a] ∧ Q (.str a) H) ∨ ∃ i : Int, xs = [.int i] ∧ i.natAbs.log2 < 1920 ∧ Q (.str (toString i)) H
theorem call_strS {X : Cx} : CallR X (.type "str") rStrS := CallR.or SkE.call_str_str call_str_int
theorem c_strS {s : Str} : OpC K rStrS [.str s] (.str s) := fun P as ρ μ σ G H vs R r Q q => by
  obtain ⟨v, e, ev, ok⟩ := repL1 r
  subst ev
  exact .inl ⟨s, e, q _ G H .refl R ⟨rfl, ok⟩⟩
def rInt1 : List V → Hp → VK → Prop := fun xs H Q => (∃ i, xs = [.int i] ∧ Q (.int i) H) ∨ ∃ k, xs = [.bl k] ∧ Q (.int (if k then 1 else 0)) H
theorem call_int1' {X : Cx} : CallR X (.type "int") rInt1 := call_int1
theorem c_intI {n : Int} : OpC K rInt1 [.int n] (.int n) := fun P as ρ μ σ G H vs R r Q q => by
  obtain ⟨v, e, ev⟩ := repL1 r
  subst ev
  exact .inl ⟨n, e, q _ G H .refl R rfl⟩
theorem c_intB {k : Bool} : OpC K rInt1 [.bl k] (.int (if k then 1 else 0)) := fun P as ρ μ σ G H vs R r Q q => by
  obtain ⟨v, e, ev⟩ := repL1 r
  subst ev
  exact .inr ⟨k, e, q _ G H .refl R rfl⟩
def rAbs : List V → Hp → VK → Prop := fun xs H Q => ∃ i, xs = [.int i] ∧ Q (.int (if i < 0 then -i else i)) H
theorem call_abs' {X : Cx} : CallR X (.builtin "abs") rAbs := call_abs
theorem c_abs {n : Int} : OpC K rAbs [.int n] (.int (if n < 0 then -n else n)) := fun P as ρ μ σ G H vs R r Q q => by
  obtain ⟨v, e, ev⟩ := repL1 r
  subst ev
  exact ⟨n, e, q _ G H .refl R rfl⟩
def rMax2 : List V → Hp → VK → Prop := fun xs H Q => ∃ i j, xs = [.int i, .int j] ∧ Q (.int (if j > i then j else i)) H
def rMin2 : List V → Hp → VK → Prop := fun xs H Q => ∃ i j, xs = [.int i, .int j] ∧ Q (.int (if j < i then j else i)) H
theorem call_max2' {X : Cx} (c : X.calm = true) : CallR X (.builtin "max") rMax2 := call_max2 c
theorem call_min2' {X : Cx} (c : X.calm = true) : CallR X (.builtin "min") rMin2 := call_min2 c
theorem c_max {m n : Int} : OpC K rMax2 [.int m, .int n] (.int (max m n)) := fun P as ρ μ σ G H vs R r Q q => by
  obtain ⟨v, u, e, ev, eu⟩ := repL2 r
  subst ev eu
  refine ⟨m, n, e, ?_⟩
  rw [show (if n > m then n else m) = max m n by split <;> omega]
  exact q _ G H .refl R rfl
theorem c_min {m n : Int} : OpC K rMin2 [.int m, .int n] (.int (min m n)) := fun P as ρ μ σ G H vs R r Q q => by
  obtain ⟨v, u, e, ev, eu⟩ := repL2 r
  subst ev eu
  refine ⟨m, n, e, ?_⟩
  rw [show (if n < m then n else m) = min m n by split <;> omega]
  exact q _ G H .refl R rfl
end
end DK

/-! DK5: methods, slices, changes. -/
namespace DK
open PySem PySem.Spec PyProof.Rows L2

section
variable {K : PySem.W.Frag} {ρ ρ1 ρ2 : Env'} {μ μ1 μ2 μ3 : Mu} {ta tb te tc : TE} {w : W} {a b d : D} {i : Nat}

/-! ### texts -/
theorem spl_sub (S : List Nat) : ∀ (k : Nat) (acc l : List Nat) (p : List Nat), p ∈ TL.spl S k acc l → ∀ c ∈ p, c ∈ acc ∨ c ∈ l
  | k, acc, [], p, h => by
    rw [TL.spl_nil] at h
    rw [List.mem_singleton.mp h]
    exact fun c hc => .inl hc
  | 0, acc, c :: r, p, h => by
    cases e : TL.pre S (c :: r) with
    | true =>
      rw [TL.spl_hit e] at h
      rcases List.mem_cons.mp h with q | q
      · rw [q]; exact fun c hc => .inl hc
      · exact fun x hx => (spl_sub S _ _ r p q x hx).elim (fun z => by cases z) fun z => .inr (List.mem_cons_of_mem _ z)
    | false =>
      rw [TL.spl_miss e] at h
      refine fun x hx => (spl_sub S 0 _ r p h x hx).elim (fun z => ?_) fun z => .inr (List.mem_cons_of_mem _ z)
      rcases List.mem_append.mp z with y | y
      · exact .inl y
      · exact .inr (by rw [List.mem_singleton.mp y]; exact List.mem_cons_self)
  | k + 1, acc, c :: r, p, h => fun x hx => (spl_sub S k acc r p h x hx).elim .inl fun z => .inr (List.mem_cons_of_mem _ z)
theorem spl_lens (S : List Nat) : ∀ (k : Nat) (acc l : List Nat), ((TL.spl S k acc l).map List.length).sum ≤ acc.length + l.length ∧ (TL.spl S k acc l).length ≤ l.length + 1
  | k, acc, [] => by rw [TL.spl_nil]; simp
  | 0, acc, c :: r => by
    cases e : TL.pre S (c :: r) with
    | true =>
      rw [TL.spl_hit e]
      have := spl_lens S (S.length - 1) [] r
      simp only [List.map_cons, List.sum_cons, List.length_cons, List.length_nil] at this ⊢
      omega
    | false =>
      rw [TL.spl_miss e]
      have := spl_lens S 0 (acc ++ [c]) r
      simp only [List.length_append, List.length_cons, List.length_nil] at this ⊢
      omega
  | k + 1, acc, c :: r => by
    have := spl_lens S k acc r
    show ((TL.spl S k acc r).map List.length).sum ≤ _ ∧ _
    simp only [List.length_cons]
    constructor
    · omega
    · have q : (TL.spl S (k + 1) acc (c :: r)) = TL.spl S k acc r := rfl
      rw [q]
      omega
theorem sOk_iff {s : Str} : sOk s ↔ (TL.tl s).length ≤ SB ∧ ∀ c ∈ TL.tl s, c < 0x110000 := by
  unfold sOk
  rw [TL.len_tl, Array.all_eq_true_iff_forall_mem]
  refine and_congr_right fun _ => ⟨fun h c hc => ?_, fun h c hc => ?_⟩
  · have := h c (by simpa using hc)
    simpa using this
  · have := h c (by simpa using hc)
    simpa using this
theorem mem_le_sum {l : List Nat} {x : Nat} (h : x ∈ l) : x ≤ l.sum := by
  induction l with
  | nil => cases h
  | cons y l ih =>
    rw [List.sum_cons]
    rcases List.mem_cons.mp h with e | e
    · omega
    · have := ih e
      omega
/-- the parts of a text are texts -/
theorem split_ok {x y : Str} (hy : TL.tl y ≠ []) (hk : y.cps.all (· < 256) = true) (h : sOk x) : (∀ p ∈ Txt.split x y, sOk p) ∧ (Txt.split x y).length ≤ LB := by
  have e := TL.split_spl x y hy (TL.kind_ok hk)
  have hx := sOk_iff.mp h
  have hl := spl_lens (TL.tl y) 0 [] (TL.tl x)
  constructor
  · intro p hp
    have hm : TL.tl p ∈ TL.spl (TL.tl y) 0 [] (TL.tl x) := by rw [← e]; exact List.mem_map_of_mem hp
    refine sOk_iff.mpr ⟨?_, fun c hc => ?_⟩
    · have h1 : (TL.tl p).length ≤ ((TL.spl (TL.tl y) 0 [] (TL.tl x)).map List.length).sum := mem_le_sum (List.mem_map_of_mem hm)
      have h2 := hl.1
      have h3 := hx.1
      rw [List.length_nil, Nat.zero_add] at h2
      exact Nat.le_trans h1 (Nat.le_trans h2 h3)
    · exact (spl_sub _ _ _ _ _ hm c hc).elim (fun z => by cases z) fun z => hx.2 c z
  · have h1 : (Txt.split x y).length = (TL.spl (TL.tl y) 0 [] (TL.tl x)).length := by rw [← e, List.length_map]
    have h2 := hl.2
    have h3 := hx.1
    have : SB + 1 ≤ LB := by decide
    omega
def rSplit : V → List V → Hp → VK → Prop := fun x xs H Q => ∃ a b, x = .str a ∧ xs = [.str b] ∧ (b.length == 0) = false ∧ a.length + 2 ≤ sizeLine ∧ rNewStrs (Txt.split a b) H Q
theorem pe_split' {X : Cx} {o e : Expr} {to te : TE} {apos pos : Pos} (ho : PE X o to) (he : PE X e te) (hs : starEach [e] X.env = [(false, eval e X.env)] := by rfl) (hbase : attributeBase o "split" X.env (eval o X.env) = eval o X.env := by rfl) (hline : (apos.endLine == pos.line) = true := by rfl) :
    PE X (.Call (.Attribute o "split" apos) [e] [] pos) (tM1 rSplit to te) := pe_split ho he hs hbase hline
theorem ev_split {x y : Str} (ho : Ev K ta ρ μ (.val (.str x)) μ1) (he : Ev K tb ρ μ1 (.val (.str y)) μ2) (hy : TL.tl y ≠ [] := by decide +kernel) (hk : y.cps.all (· < 256) = true := by decide +kernel) : Ev K (tM1 rSplit ta tb) ρ μ (.val (.lst ((Txt.split x y).map D.str))) μ2 := fun P as σ G H R Q q =>
  ho P as σ G H R _ fun v as1 G1 H1 n1 R1 ⟨ev, ok⟩ => ⟨⟨x, ev⟩, he P as1 σ G1 H1 R1 _ fun u as2 G2 H2 n2 R2 ⟨eu, _⟩ => by
    refine ⟨x, y, ev, by rw [eu], ?_, Nat.le_trans (Nat.add_le_add_right ok.1 2) (by decide), fun p hp => ?_⟩
    · have : y.length ≠ 0 := by rw [TL.len_tl]; exact fun z => hy (List.eq_nil_of_length_eq_zero z)
      exact beq_eq_false_iff_ne.mpr this
    · obtain ⟨R3, n3⟩ := R2.imm hp (.lst ((Txt.split x y).map V.str))
      obtain ⟨s1, s2⟩ := split_ok hy hk ok
      exact q _ as2 _ _ ((n1.trans n2).trans n3) R3 ⟨by rw [List.length_map]; exact s2, p, _, rfl, upd_same, RepL.ofStrs s1⟩⟩
theorem joinL_len (S : List Nat) : ∀ ps : List (List Nat), (TL.joinL S ps).length ≤ (ps.map List.length).sum + ps.length * S.length
  | [] => Nat.zero_le _
  | [p] => by simp [TL.joinL]
  | p :: q :: r => by
    have := joinL_len S (q :: r)
    simp only [TL.joinL, List.length_append, List.map_cons, List.sum_cons, List.length_cons] at this ⊢
    rw [Nat.add_mul, Nat.add_mul] at *
    omega
theorem joinL_mem (S : List Nat) : ∀ (ps : List (List Nat)) (c : Nat), c ∈ TL.joinL S ps → c ∈ S ∨ ∃ p ∈ ps, c ∈ p
  | [], c, h => by cases h
  | [p], c, h => .inr ⟨p, by simp, h⟩
  | p :: q :: r, c, h => by
    simp only [TL.joinL, List.mem_append] at h
    rcases h with h | h | h
    · exact .inr ⟨p, by simp, h⟩
    · exact .inl h
    · rcases joinL_mem S (q :: r) c h with z | ⟨x, hx, z⟩
      · exact .inl z
      · exact .inr ⟨x, List.mem_cons_of_mem _ hx, z⟩
theorem join_ok {y : Str} {ps : List Str} (hy : sOk y) (hp : ∀ p ∈ ps, sOk p) (hz : (Txt.join y ps).length ≤ SB) : sOk (Txt.join y ps) := by
  refine sOk_iff.mpr ⟨by rw [← TL.len_tl]; exact hz, fun c hc => ?_⟩
  rw [TL.join_eq, TL.tl_join] at hc
  rcases joinL_mem _ _ _ hc with z | ⟨p, hm, z⟩
  · exact (sOk_iff.mp hy).2 c z
  · obtain ⟨x, hx, rfl⟩ := List.mem_map.mp hm
    exact (sOk_iff.mp (hp x hx)).2 c z
def rJoin (K : PySem.W.Frag) : V → List V → Hp → VK → Prop := fun x xs H Q => ∃ a p, ∃ ys : List Str, x = .str a ∧ xs = [.ref p] ∧ (SqL K H p (ys.map V.str) ∨ SqT K H p (ys.map V.str)) ∧
  (ys.map (·.length)).sum + ys.length * a.length ≤ 16777216 ∧ Q (.str (Txt.join a ys)) H
theorem pe_join' {X : Cx} {o e : Expr} {to te : TE} {apos pos : Pos} (ho : PE X o to) (he : PE X e te) (hs : starEach [e] X.env = [(false, eval e X.env)] := by rfl) (hbase : attributeBase o "join" X.env (eval o X.env) = eval o X.env := by rfl) (hline : (apos.endLine == pos.line) = true := by rfl) :
    PE X (.Call (.Attribute o "join" apos) [e] [] pos) (tM1 (rJoin X.K) to te) := pe_join ho he hs hbase hline
theorem ev_join {y : Str} {ps : List Str} (ho : Ev K ta ρ μ (.val (.str y)) μ1) (he : Ev K tb ρ μ1 w μ2) (hw : SeqW μ2 w (ps.map D.str)) (hz : (ps.map (·.length)).sum + ps.length * y.length ≤ SB) : Ev K (tM1 (rJoin K) ta tb) ρ μ (.val (.str (Txt.join y ps))) μ2 := fun P as σ G H R Q q =>
  ho P as σ G H R _ fun v as1 G1 H1 n1 R1 ⟨ev, ok⟩ => ⟨⟨y, ev⟩, he P as1 σ G1 H1 R1 _ fun u as2 G2 H2 n2 R2 r2 => by
    obtain ⟨p, vs, eu, hs, hr, hl⟩ := hw.size R2 r2
    obtain ⟨e3, oks⟩ := hr.strs
    subst e3
    refine ⟨y, p, ps, ev, by rw [eu], hs, Nat.le_trans hz (by decide), q _ as2 G2 H2 (n1.trans n2) R2 ⟨rfl, join_ok ok oks ?_⟩⟩
    rw [TL.len_tl, TL.join_eq, TL.tl_join]
    refine Nat.le_trans (joinL_len _ _) ?_
    rw [List.map_map, List.length_map, ← TL.len_tl]
    exact Nat.le_trans (Nat.le_of_eq (by rw [show (List.length ∘ TL.tl : Str → Nat) = fun x => x.length from funext fun x => (TL.len_tl x).symm])) hz⟩

/-! ### slices -/
def cutD (xs : List D) (lo hi : Option Int) : List D := (xs.drop (HT.sIx xs.length 0 lo)).take (HT.sIx xs.length xs.length hi - HT.sIx xs.length 0 lo)
theorem cut_rep {G : Hp} {xs : List D} {vs : List V} {lo hi : Option Int} (r : RepL K G xs vs) : RepL K G (cutD xs lo hi) (cutV vs lo hi) := by
  unfold cutD cutV
  rw [r.length]
  exact (r.drop _).take _
theorem cut_len {xs : List D} {lo hi : Option Int} : (cutD xs lo hi).length ≤ xs.length := by
  unfold cutD
  rw [List.length_take, List.length_drop]
  omega
def rSlc (K : PySem.W.Frag) : V → Option Int → Option Int → Hp → VK → Prop := fun x lo hi H Q => rSlL K x lo hi H Q ∨ (rSlA K x lo hi H Q ∨ rSlS x lo hi H Q)
theorem SlR.or {X : Cx} {r r' : V → Option Int → Option Int → Hp → VK → Prop} (h : SlR X r) (h' : SlR X r') : SlR X (fun x lo hi H Q => r x lo hi H Q ∨ r' x lo hi H Q) := by
  intro pins s σ H x v vl vu lo hi sl Q I rx hs pl pu q
  rcases q with q | q
  · exact h pins s σ H x v vl vu lo hi sl Q I rx hs pl pu q
  · exact h' pins s σ H x v vl vu lo hi sl Q I rx hs pl pu q
theorem sl_any {X : Cx} : SlR X (rSlc X.K) := SlR.or sl_list (SlR.or sl_tupA sl_str)
def EvO (K : PySem.W.Frag) (to : TO) (ρ : Env') (μ : Mu) (o : Option Int) : Prop := ∀ (P : Addr → Prop) (as : List Addr) (σ : L2.St) (G H : Hp), Rl K G H as P ρ μ σ → ∀ Q : Option Int → Hp → Prop,
  (∀ as' G' H', Nx P as G H as' G' H' → Rl K G' H' as' P ρ μ σ → Q o H') → to σ H Q
theorem eo_none : EvO K tNoPart ρ μ none := fun P as σ G H R Q q => q as G H .refl R
theorem eo_some {n : Int} (h : Ev K te ρ μ (.val (.int n)) μ) : EvO K (tPart te) ρ μ (some n) := fun P as σ G H R Q q =>
  h P as σ G H R _ fun v as1 G1 H1 n1 R1 r1 => ⟨n, r1, q as1 G1 H1 n1 R1⟩
theorem ev_slSeq {xs : List D} {tl th : TO} {lo hi : Option Int} (h : Ev K te ρ μ w μ1) (hw : SeqW μ1 w xs) (hl : EvO K tl ρ μ1 lo) (hh : EvO K th ρ μ1 hi) {d : D} (hd : (w = .val (.tup xs) ∧ d = .tup (cutD xs lo hi)) ∨ (w ≠ .val (.tup xs) ∧ d = .lst (cutD xs lo hi))) : Ev K (tSl (rSlc K) te tl th) ρ μ (.val d) μ1 := fun P as σ G H R Q q =>
  h P as σ G H R _ fun v as1 G1 H1 n1 R1 r1 => hl P as1 σ G1 H1 R1 _ fun as2 G2 H2 n2 R2 => hh P as2 σ G2 H2 R2 _ fun as3 G3 H3 n3 R3 => by
    have n := (n1.trans n2).trans n3
    have r3 := r1.mono (n2.trans n3).gr (n2.trans n3).pre
    have newL : ∀ a vs, v = .ref a → SqL K H3 a vs → RepL K G3 xs vs → xs.length ≤ LB → d = .lst (cutD xs lo hi) → rSlc K v lo hi H3 Q := fun a vs ev hs hr hz ed => by
      refine .inl ⟨a, vs, ev, hs, fun p hp => ?_⟩
      obtain ⟨R4, n4⟩ := R3.imm hp (.lst (cutV vs lo hi))
      rw [ed] at q
      exact q _ as3 _ _ (n.trans n4) R4 ⟨Nat.le_trans cut_len hz, p, _, rfl, upd_same, RepL.mono n4.gr _ _ (cut_rep hr)⟩
    cases hw with
    | lst =>
      obtain ⟨z, a, vs, ev, g, hr⟩ := r3
      exact newL a vs ev (SqL.of (R3.sub _ _ g)) hr z (hd.elim (fun h => by cases h.1) fun h => h.2)
    | loc hm =>
      obtain ⟨a, ha, ev⟩ := r3
      obtain ⟨vs, h1, h2, z⟩ := at_loc R3 ha (.inl hm)
      exact newL a vs ev (SqL.of h1) h2 z (hd.elim (fun h => by cases h.1) fun h => h.2)
    | frz hm =>
      obtain ⟨a, ha, ev⟩ := r3
      obtain ⟨vs, h1, h2, z⟩ := at_loc R3 ha (.inr hm)
      exact newL a vs ev (SqL.of h1) h2 z (hd.elim (fun h => by cases h.1) fun h => h.2)
    | tup =>
      obtain ⟨z, a, vs, ev, g, hr⟩ := id r3
      have ed : d = .tup (cutD xs lo hi) := hd.elim (fun h => h.2) fun h => absurd rfl h.1
      rw [ed] at q
      refine .inr (.inl ⟨a, vs, ev, same_sqt R3.sub g, fun ⟨e1, e2⟩ => ?_, fun _ p hp => ?_⟩)
      · have whole : cutD xs lo hi = xs := by
          unfold cutD
          rw [hr.length] at e1 e2
          rw [e1, e2]
          simp
        rw [whole] at q
        rw [← ev]
        exact q _ as3 _ _ n R3 r3
      · obtain ⟨R4, n4⟩ := R3.imm hp (.tup (cutV vs lo hi))
        exact q _ as3 _ _ (n.trans n4) R4 ⟨Nat.le_trans cut_len z, p, _, rfl, SqT.of upd_same, RepL.mono n4.gr _ _ (cut_rep hr)⟩
theorem ev_slL {xs : List D} {tl th : TO} {lo hi : Option Int} (h : Ev K te ρ μ (.val (.lst xs)) μ1) (hl : EvO K tl ρ μ1 lo) (hh : EvO K th ρ μ1 hi) : Ev K (tSl (rSlc K) te tl th) ρ μ (.val (.lst (cutD xs lo hi))) μ1 := ev_slSeq h .lst hl hh (.inr ⟨(fun z => by cases z), rfl⟩)
theorem ev_slT {xs : List D} {tl th : TO} {lo hi : Option Int} (h : Ev K te ρ μ (.val (.tup xs)) μ1) (hl : EvO K tl ρ μ1 lo) (hh : EvO K th ρ μ1 hi) : Ev K (tSl (rSlc K) te tl th) ρ μ (.val (.tup (cutD xs lo hi))) μ1 := ev_slSeq h .tup hl hh (.inl ⟨rfl, rfl⟩)
theorem ev_slM {j : Nat} {xs : List D} {tl th : TO} {lo hi : Option Int} (h : Ev K te ρ μ (.loc j) μ1) (hm : lstAt j xs μ1) (hl : EvO K tl ρ μ1 lo) (hh : EvO K th ρ μ1 hi) : Ev K (tSl (rSlc K) te tl th) ρ μ (.val (.lst (cutD xs lo hi))) μ1 :=
  ev_slSeq h (hm.elim .loc .frz) hl hh (.inr ⟨(fun z => by cases z), rfl⟩)
/-- e[::-1] of a list -/
theorem ev_rev {xs : List D} (h : Ev K te ρ μ (.val (.lst xs)) μ1) : Ev K (tRevL K te) ρ μ (.val (.lst xs.reverse)) μ1 := fun P as σ G H R Q q =>
  h P as σ G H R _ fun v as1 G1 H1 n1 R1 ⟨z, a, vs, ev, g, hr⟩ => ⟨a, vs, ev, SqL.of (R1.sub _ _ g), fun p hp => by
    obtain ⟨R2, n2⟩ := R1.imm hp (.lst vs.reverse)
    exact q _ as1 _ _ (n1.trans n2) R2 ⟨by rw [List.length_reverse]; exact z, p, _, rfl, upd_same, RepL.mono n2.gr _ _ hr.reverse⟩⟩

/-! ### a list of the store -/
theorem o_ixM {r : R2} {j : Nat} {xs : List D} {n : Int} {d : D} (ha : Ev K ta ρ μ (.loc j) μ1) (hb : Ev K tb ρ μ1 (.val (.int n)) μ2) (hm : lstAt j xs μ2) (h : atI xs n = some d) : Ev K (tOp (rIx K) ta tb) ρ μ (.val d) μ2 := fun P as σ G H R Q q =>
  ha P as σ G H R _ fun v as1 G1 H1 n1 R1 ⟨a, ha', ev⟩ => hb P as1 σ G1 H1 R1 _ fun y as2 G2 H2 n2 R2 r2 => by
    obtain ⟨vs, h1, h2, _⟩ := at_loc R2 (at_pre n2.pre ha') hm
    obtain ⟨u, h3, h4⟩ := atI_rep h2 h
    exact .inl ⟨a, vs, n, u, ev, r2, SqL.of h1, h3, q _ as2 G2 H2 (n1.trans n2) R2 h4⟩
/-- e.append(x) -/
theorem ev_append {j : Nat} {xs : List D} {t : TA} (ho : Ev K ta ρ μ (.loc j) μ1) (ha : EvD K t ρ μ1 [d] μ2) (h1 : ∃ ys, lstAt j ys μ1) (hm : μ2[j]? = some (.lst xs)) (hz : xs.length < LB) : Ev K (tBM K "list" rAppend ta t) ρ μ (.val .non) (μ2.set j (.lst (xs ++ [d]))) := fun P as σ G H R Q q =>
  ho P as σ G H R _ fun v as1 G1 H1 n1 R1 ⟨a, ha', ev⟩ => by
    obtain ⟨ys, h1⟩ := h1
    obtain ⟨vs0, g0, _, _⟩ := at_loc R1 ha' h1
    subst ev
    refine ⟨.inl ⟨rfl, _, SqL.of g0⟩, ha P as1 σ G1 H1 R1 _ fun us as2 G2 H2 n2 R2 r2 => ?_⟩
    obtain ⟨u, eu, ru⟩ := repL1 (RepWs.vals.mp r2)
    have ha2 := at_pre n2.pre ha'
    obtain ⟨g, z, vs, hh, rl⟩ := R2.mu j a _ ha2 hm
    refine ⟨a, vs, u, rfl, eu, hh, by rw [rl.length]; exact Nat.lt_of_lt_of_le hz (by decide), ?_⟩
    obtain ⟨R3, n3⟩ := R2.put (o := .lst (vs ++ [u])) (m' := .lst (xs ++ [d])) ha2 hm g ⟨g, by rw [List.length_append]; exact hz, _, upd_same, rl.append (RepL.cons ru RepL.nil)⟩ rfl
    exact q _ as2 G2 _ ((n1.trans n2).trans n3) R3 rfl
/-- e.pop() -/
theorem ev_pop {j : Nat} {xs : List D} (ho : Ev K ta ρ μ (.loc j) μ1) (hm : μ1[j]? = some (.lst (xs ++ [d]))) : Ev K (tBM0 K "list" rPop ta) ρ μ (.val d) (μ1.set j (.lst xs)) := fun P as σ G H R Q q =>
  ho P as σ G H R _ fun v as1 G1 H1 n1 R1 ⟨a, ha', ev⟩ => by
    obtain ⟨g, z, vs, hh, rl⟩ := R1.mu j a _ ha' hm
    subst ev
    have hl : vs.length = xs.length + 1 := by rw [rl.length]; simp
    obtain ⟨u, eu, ru⟩ := rl.get (i := xs.length) (d := d) (by simp)
    refine ⟨.inl ⟨rfl, _, SqL.of hh⟩, a, vs, u, rfl, rfl, hh, by rw [hl]; exact eu, ?_⟩
    have rd : RepL K G1 xs vs.dropLast := by
      have := rl.take xs.length
      rw [List.take_append_of_le_length (Nat.le_refl _), List.take_length] at this
      rw [List.dropLast_eq_take, hl]
      exact this
    obtain ⟨R3, n3⟩ := R1.put (o := .lst vs.dropLast) (m' := .lst xs) ha' hm g ⟨g, by simp at z; omega, _, upd_same, rd⟩ rfl
    exact q _ as1 G1 _ (n1.trans n3) R3 ru
theorem RepL.erase {G : Hp} : ∀ {xs : List D} {vs : List V} (k : Nat), RepL K G xs vs → RepL K G (xs.eraseIdx k) (vs.eraseIdx k)
  | [], _, k, h => by rw [show _ = [] from h]; exact rfl
  | _ :: _, _, 0, ⟨v, r, e, _, h2⟩ => by rw [e]; exact h2
  | _ :: _, _, k + 1, ⟨v, r, e, h1, h2⟩ => by rw [e]; exact ⟨v, _, rfl, h1, RepL.erase k h2⟩
/-- e.pop(n), 0 ≤ n -/
theorem ev_popAt {j k : Nat} {xs : List D} {t : TA} {n : Int} (ho : Ev K ta ρ μ (.loc j) μ1) (ha : EvD K t ρ μ1 [.int n] μ2) (h1 : ∃ ys, lstAt j ys μ1) (hm : μ2[j]? = some (.lst xs)) (hn : n = (k : Int)) (hk : xs[k]? = some d) : Ev K (tBM K "list" rPopAt ta t) ρ μ (.val d) (μ2.set j (.lst (xs.eraseIdx k))) := fun P as σ G H R Q q =>
  ho P as σ G H R _ fun v as1 G1 H1 n1 R1 ⟨a, ha', ev⟩ => by
    obtain ⟨ys, h1⟩ := h1
    obtain ⟨vs0, g0, _, _⟩ := at_loc R1 ha' h1
    subst ev
    refine ⟨.inl ⟨rfl, _, SqL.of g0⟩, ha P as1 σ G1 H1 R1 _ fun us as2 G2 H2 n2 R2 r2 => ?_⟩
    obtain ⟨u, eu, ru⟩ := repL1 (RepWs.vals.mp r2)
    have ha2 := at_pre n2.pre ha'
    obtain ⟨g, z, vs, hh, rl⟩ := R2.mu j a _ ha2 hm
    obtain ⟨y, ey, ry⟩ := rl.get hk
    have hlt : k < xs.length := (List.getElem?_eq_some_iff.mp hk).1
    have hzz : (xs.length : Int) ≤ 2 ^ 62 := by
      have : LB ≤ 2 ^ 62 := by decide
      omega
    refine ⟨a, vs, n, k, y, rfl, by rw [eu, show u = .int n from ru], hh, by omega, by omega, ?_, ey, ?_⟩
    · rw [hn, rl.length]
      unfold seqIndex?
      simp
      omega
    · obtain ⟨R3, n3⟩ := R2.put (o := .lst (vs.eraseIdx k)) (m' := .lst (xs.eraseIdx k)) ha2 hm g ⟨g, Nat.le_trans (List.length_eraseIdx_le _ _) z, _, upd_same, rl.erase k⟩ rfl
      exact q _ as2 G2 _ ((n1.trans n2).trans n3) R3 ry
/-- e[n] = x, a list of the store -/
theorem ex_setItem {j k : Nat} {xs : List D} {n : Int} (hv : Ev K te ρ μ (.val d) μ1) (ho : Ev K ta ρ μ1 (.loc j) μ2) (hi : Ev K tb ρ μ2 (.val (.int n)) μ3) (hm : μ3[j]? = some (.lst xs)) (hk : ixN xs.length n = some k) : Ex K (tAsg te (gSub ta tb rSetL)) ρ μ (.nx ρ (μ3.set j (.lst (xs.set k d)))) := fun P as σ G H R E q =>
  hv P as σ G H R _ fun v as1 G1 H1 n1 R1 r1 => ho P as1 σ G1 H1 R1 _ fun o as2 G2 H2 n2 R2 ⟨a, ha', ev⟩ => hi P as2 σ G2 H2 R2 _ fun x as3 G3 H3 n3 R3 r3 => by
    have ha3 := at_pre n3.pre ha'
    obtain ⟨g, z, vs, hh, rl⟩ := R3.mu j a _ ha3 hm
    refine ⟨a, vs, n, k, ev, r3, hh, by rw [rl.length]; exact hk, ?_⟩
    have rs : ∀ {xs : List D} {vs : List V} (k : Nat), RepL K G3 xs vs → RepL K G3 (xs.set k d) (vs.set k v) := by
      have rv := Rep.mono (n2.trans n3).gr _ _ r1
      intro xs
      induction xs with
      | nil => intro vs k h; rw [show vs = [] from h]; exact rfl
      | cons x xs ih =>
        rintro vs k ⟨u, r, e, h1, h2⟩
        subst e
        cases k with
        | zero => exact ⟨v, r, rfl, rv, h2⟩
        | succ k => exact ⟨u, _, rfl, h1, ih k h2⟩
    obtain ⟨R4, n4⟩ := R3.put (o := .lst (vs.set k v)) (m' := .lst (xs.set k d)) ha3 hm g ⟨g, by rw [List.length_set]; exact z, _, upd_same, rs k rl⟩ rfl
    exact q as3 σ G3 _ (((n1.trans n2).trans n3).trans n4) R4
/-- a, b = e1, e2 -/
theorem ex_par {j : Nat} {t : TA} {w1 w2 : W} (h : EvA K t ρ μ [w1, w2] μ1) : Ex K (tPar i j t) ρ μ (.nx ((ρ.set i (some w1)).set j (some w2)) μ1) := fun P as σ G H R E q =>
  h P as σ G H R _ fun vs as1 G1 H1 n1 R1 ⟨v, r, ev, r1, r2⟩ => by
    obtain ⟨u, eu, ru⟩ := repW1 r2
    subst eu
    exact ⟨v, u, ev, q as1 _ G1 H1 n1 ((R1.set r1).set ru)⟩
end
end DK

/-! DKE: enumerate of a tuple. -/
namespace DK
open PySem PySem.Spec PyProof.Rows L2

theorem enum_newT (t : Addr) (its : Array Value) :
    Meets (Builtin.«enumerate.__new__» ⟨[.type "enumerate", .ref t], []⟩) (fun _ R s => s.heap.IsTuple t its ∧
      R (.ok (.ret (.ref (s.heap.push { cls := .type "tuple_iterator", data := .fields #[.ref t, .int 0 0] }).objs.size)))
        { s with heap := (s.heap.push { cls := .type "tuple_iterator", data := .fields #[.ref t, .int 0 0] }).push { cls := .type "enumerate", data := .fields #[.none, .bool false, .ref s.heap.objs.size, rawInt 0, .none, .none] } }) :=
  .of_wp fun prog w A R s hyp => by
    obtain ⟨hp, g, d, tk, os⟩ := s
    obtain ⟨ht, k⟩ := hyp
    have sub := sub_enumerate
    wp_walk
    refine wpAny_stack_any fun st => wpAny_pure ?_
    split
    · rename_i c _ _ _ _ _
      cases (c == Value.type "enumerate")
      · wp_walk using wpAny_pyIter_tuple ht
        exact ⟨_, rfl, k⟩
      · wp_walk using wpAny_pyIter_tuple ht
        exact ⟨_, rfl, k⟩
    · wp_walk using wpAny_pyIter_tuple ht
      exact ⟨_, rfl, k⟩
theorem call_enumT {prog : Program} {w : World} {A : Around} {E : Value → Shared → Prop} {s : Shared} {t : Addr} {its : Array Value} {Q : Value → Shared → Prop} (ht : s.heap.IsTuple t its)
    (k : ∀ h', IsEnum h' (s.heap.objs.size + 1) s.heap.objs.size 0 .none → h'.IsTupleIter s.heap.objs.size t 0 → (∀ b o, s.heap.get? b = some o → h'.get? b = some o) → Q (.ref (s.heap.objs.size + 1)) { s with heap := h' }) :
    wpAny (model prog w) A (call (.type "enumerate") [.ref t]) Q E s := by
  refine callType_new F.called_enumerate (by decide) (F.typeCall_enumerate_1 _) (F.newCall_enumerate_1 _) (fun ob => F.args_object_init_2 ob _) F.entry_enumerate_new (enum_newT t its) ⟨ht, ?_⟩
  have zz : (s.heap.push { cls := .type "tuple_iterator", data := .fields #[.ref t, .int 0 0] }).objs.size = s.heap.objs.size + 1 := Heap.size_push ..
  show _ ∧ _
  rw [zz]
  have en : IsEnum ((s.heap.push { cls := .type "tuple_iterator", data := .fields #[.ref t, .int 0 0] }).push { cls := .type "enumerate", data := .fields #[.none, .bool false, .ref s.heap.objs.size, rawInt 0, .none, .none] }) (s.heap.objs.size + 1) s.heap.objs.size 0 .none := by
    have q := Heap.get?_push_size (s.heap.push { cls := .type "tuple_iterator", data := .fields #[.ref t, .int 0 0] }) (o := { cls := .type "enumerate", data := .fields #[.none, .bool false, .ref s.heap.objs.size, rawInt 0, .none, .none] }) rfl
    rw [zz] at q
    exact q
  exact ⟨⟨_, en, rfl⟩, k _ en ⟨_, Heap.get?_push_of_some _ (Heap.get?_push_size _ rfl), rfl, rfl⟩ fun b o e => Heap.get?_push_of_some _ (Heap.get?_push_of_some _ e)⟩
/-- the tuple at a, each item in a new pair -/
def ItU (K : PySem.W.Frag) (a : Addr) : It :=
  ⟨fun i H => ∃ (xs : List V) (x : V), SqT K H a xs ∧ xs[i]? = some x, fun i H v H' => ∃ T x, v = .ref T ∧ H T = none ∧ H' = upd H T (.tup [.int (i : Nat), x]) ∧ ∀ xs, SqT K H a xs → xs[i]? = some x, fun i H => ∃ xs : List V, SqT K H a xs ∧ xs.length ≤ i⟩
theorem turn_enumT {P : Program} {w : World} {K : PySem.W.Frag} {elts : List Expr} {kk : Nat} {tpos : Pos} (a e it : Addr) :
    Turn P w K (.Tuple elts kk tpos) (ItU K a) [e, it] e (fun i h => (∃ old, IsEnum h e it ((i : Nat) : Int) old) ∧ h.IsTupleIter it a i ∧ e ≠ it ∧ a ≠ it ∧ e ≠ a) where
  mem := by simp
  obj := fun i h st b hb => by
    obtain ⟨⟨old, en⟩, ⟨ob, g0, g1, g2⟩, _⟩ := st
    rcases (show b = e ∨ b = it by simpa using hb) with z | z
    · rw [z]; exact ⟨_, en, fun v q => nomatch q⟩
    · rw [z]; exact ⟨ob, g0, fun v q => by rw [g2] at q; cases q⟩
  keep := fun i h h' st k => let ⟨⟨old, en⟩, ti, ne⟩ := st; ⟨⟨old, k e (by simp) _ en⟩, ti.at fun ob q => k it (by simp) ob q, ne⟩
  item := by
    intro X hP hw hK hc i pins s σ H E I hf st hg
    subst hP hw hK
    obtain ⟨⟨old, en⟩, ti, ne, na, nb⟩ := st
    obtain ⟨xs, x, hq, hx⟩ := hg
    obtain ⟨its, rv, tp, hz⟩ := I.tuple hq
    obtain ⟨u, hu, ru⟩ := rv.get hx
    have le : e < s.heap.objs.size := Heap.lt_size en
    have li : it < s.heap.objs.size := by obtain ⟨_, q, _⟩ := ti; exact Heap.lt_size q
    have Dr := Draws.tuple (prog := X.prog) (w := X.w) (A := X.A.in1) (I.ok.hd hc) it a na its.toArray
    have hlt : i < its.toArray.size := by
      have := (List.getElem?_eq_some_iff.mp hu).1
      simpa using this
    refine wpAny_pyNext_enum_itemD Dr en ⟨ti, tp⟩ hlt ne (by simp [ne, nb]) fun y h' tk py eo st' hT hsz kp => ?_
    have eu : y = u := by
      have : its.toArray[i]? = some u := by simpa using hu
      rw [this] at py
      exact (Option.some.inj py).symm
    subst eu
    refine ⟨_, rfl, wpAny_letOwnedTupleGo_enum (s := { s with heap := h', toks := tk + 1 }) eo fun h2 en2 sb => ?_⟩
    have hT2 : h2.get? s.heap.objs.size = some { cls := .type "tuple", data := .seq #[.int i tk, y] } := (sb.2 _ (Nat.ne_of_gt le)).trans hT
    have new : ObjOk X.prog X.w (upd H s.heap.objs.size (.tup [.int (i : Nat), x])) h2 s.heap.objs.size (.tup [.int (i : Nat), x]) :=
      ⟨by show (2 : Nat) ≤ sizeLine; decide, [.int i tk, y], .cons ⟨_, rfl⟩ (.cons ru .nil), ⟨_, hT2, rfl, _, rfl⟩⟩
    have J : Inv X pins σ (upd H s.heap.objs.size (.tup [.int (i : Nat), x])) { s with heap := h2, toks := tk + 1 } :=
      I.turnedNew (ch := [e, it]) (fun b ob hb q => (sb.2 b (fun z => hb (by simp [z]))).trans (kp b ob (fun z => hb (by simp [z])) (fun z => hb (by simp [z])) q)) hf (Nat.le_refl _) new
    refine ⟨.ref s.heap.objs.size, _, J, rfl, ⟨_, x, rfl, I.hok.fresh (Nat.le_refl _), rfl, fun ys hy => by rw [I.tuple_inj hy hq]; exact hx⟩, ⟨⟨y, ?_⟩, st'.1.at fun ob q => (sb.2 it (Ne.symm ne)).trans q, ne, na, nb⟩, fun b hb => ?_⟩
    · rw [show ((i + 1 : Nat) : Int) = (i : Int) + 1 by omega]
      exact en2
    · have hb' : b < s.heap.objs.size := by
        rcases (show b = e ∨ b = it by simpa using hb) with z | z
        · rw [z]; exact le
        · rw [z]; exact li
      rw [upd_ne (Nat.ne_of_lt hb')]
      exact (hf b hb).1
  done := by
    intro X hP hw hK hc i pins s σ H E I hf st hg
    subst hP hw hK
    obtain ⟨⟨old, en⟩, ti, ne, na, nb⟩ := st
    obtain ⟨xs, hq, hx⟩ := hg
    obtain ⟨its, rv, tp, hz⟩ := I.tuple hq
    obtain ⟨f0, f1, f2, f3, f4, f5⟩ := hf it (by simp)
    have hl := rv.length
    have hsz : its.toArray.size = its.length := by simp
    have go : ∀ (h' : Heap), Heap.ExtBut it s.heap h' → (none : Option Value) = none ∧ Inv X pins σ H { s with heap := h' } := fun h' eb => ⟨rfl, I.turned (t' := s.toks) (fun b ob hb q => eb b ob hb q) f0 f1 f3 f4 f5⟩
    unfold pyNext
    have hT : s.TypeIs (.ref e) "enumerate" := ⟨_, en, rfl⟩
    refine wpAny_bind (wpAny_attempt (wpAny_callSpecial?_slot (name := Str.ofString "__next__") hT F.slot_enumerate_next
      (wpAny_call_entry F.slot_enumerate_next hT F.entry_enumerate_next ?_ (F.args_enumerate_next_1 _))))
    show wpAny _ _ (field (.ref e) 2 >>= _) _ _ _
    refine wpAny_bind (wpAny_field en rfl (x := .ref it) rfl ?_)
    refine wpAny_bind (wpAny_nextOf_tuple_end (I.ok.hd hc) ti (show s.heap.IsTuple a its.toArray from tp) (by simp; omega) fun h' x eb hx' => ?_)
    obtain ⟨ob, g0, g1⟩ := hx'
    exact wpAny_bind (wpAny_isInstance (T := "StopIteration") (b := true) ⟨ob, g0, g1⟩ isSubtype_stop (wpAny_pure (go _ eb)))
  self := fun A i s Q E st h => let ⟨⟨_, en⟩, _⟩ := st; wpAny_pyIter_enum en h
def iEnumT (K : PySem.W.Frag) (ta : TA) : TI := fun σ H R => ta σ H fun vs H1 => ∃ a xs, vs = [.ref a] ∧ SqT K H1 a xs ∧ R (ItU K a) H1
theorem pi_enumT {X : Cx} {e : Expr} {ta : TA} {p pos tpos : Pos} {elts : List Expr} {kk : Nat} (hg : Gl X "enumerate") (hm : X.mg "enumerate" = none) (ha : PA X [e] ta) (hs : starEach [e] X.env = [(false, eval e X.env)] := by rfl) :
    PI X (.Tuple elts kk tpos) (.Call (.Name "enumerate" p) [e] [] pos) (iEnumT X.K ta) := by
  refine ⟨fun pins s σ H R I h => ?_⟩
  refine Call_ (ld_blt I hg hm boot_enumerate (PyProof.Rows.callWith_type1 (thn (ha.run pos pins s σ H _ I h) fun us sa ⟨vs, Ha, Ia, ra, qa⟩ => ?_) hs rfl))
  obtain ⟨a, xs, ex, hq, q⟩ := qa
  subst ex
  cases ra with
  | cons r rr =>
    cases rr
    cases r
    obtain ⟨its, rv, tp, hz⟩ := Ia.tuple hq
    refine call_enumT (show sa.heap.IsTuple a its.toArray from tp) fun h' en ti kp => wpAny_pyIter_enum en ?_
    have Ib : Inv X pins σ Ha { sa with heap := h' } := Ia.kept (t' := sa.toks) kp
    have la : a < sa.heap.objs.size := by obtain ⟨ob, g0, _⟩ := tp; exact Heap.lt_size g0
    refine ⟨sa.heap.objs.size + 1, [sa.heap.objs.size + 1, sa.heap.objs.size], _, _, Ha, rfl, Ib, turn_enumT a (sa.heap.objs.size + 1) sa.heap.objs.size, ⟨⟨.none, en⟩, ti, Nat.succ_ne_self _, Nat.ne_of_lt la, Ne.symm (Nat.ne_of_lt (Nat.lt_succ_of_lt la))⟩, fun b hb => ?_, q⟩
    have hb' : sa.heap.objs.size ≤ b := by
      rcases (show b = sa.heap.objs.size + 1 ∨ b = sa.heap.objs.size by simpa using hb) with z | z
      · rw [z]; exact Nat.le_succ _
      · rw [z]; exact Nat.le_refl _
    exact Ia.fpOk hb' (Ia.hok.fresh hb')
/-- enumerate of a list or a tuple -/
def iEnumA (K : PySem.W.Frag) (ta : TA) : TI := fun σ H R => iEnum K ta σ H R ∨ iEnumT K ta σ H R
theorem pi_enumA {X : Cx} {e : Expr} {ta : TA} {p pos tpos : Pos} {elts : List Expr} {kk : Nat} (hg : Gl X "enumerate") (hm : X.mg "enumerate" = none) (ha : PA X [e] ta) (hs : starEach [e] X.env = [(false, eval e X.env)] := by rfl) :
    PI X (.Tuple elts kk tpos) (.Call (.Name "enumerate" p) [e] [] pos) (iEnumA X.K ta) := PI.or (pi_enum hg hm ha hs) (pi_enumT hg hm ha hs)
section
variable {K : PySem.W.Frag} {ρ : Env'} {μ μ1 : Mu} {w : W} {t : TA}
def enumD : Nat → List D → List D
  | _, [] => []
  | n, x :: xs => .tup [.int (n : Int), x] :: enumD (n + 1) xs
theorem enumD_get : ∀ {xs : List D} {n i : Nat}, (enumD n xs)[i]? = (xs[i]?).map fun x => D.tup [.int ((n + i : Nat) : Int), x]
  | [], _, _ => by simp [enumD]
  | x :: xs, n, 0 => by simp [enumD]
  | x :: xs, n, i + 1 => by
    show (enumD (n + 1) xs)[i]? = _
    rw [enumD_get, List.getElem?_cons_succ, show n + 1 + i = n + (i + 1) by omega]
theorem pair_step {G1 H : Hp} {as : List Addr} {P : Addr → Prop} {σ : L2.St} {T : Addr} {n : Int} {x : V} {d : D} (R : Rl K G1 H as P ρ μ σ) (hT : H T = none) (r : Rep K G1 d x) : ∃ G2, Nx P as G1 H as G2 (upd H T (.tup [.int n, x])) ∧ Rl K G2 (upd H T (.tup [.int n, x])) as P ρ μ σ ∧ Rep K G2 (.tup [.int n, d]) (.ref T) := by
  obtain ⟨R2, n2⟩ := R.imm hT (.tup [.int n, x])
  exact ⟨_, n2, R2, by show (2 : Nat) ≤ LB; decide, T, _, rfl, SqT.of upd_same, .int n, [x], rfl, rfl, x, [], rfl, Rep.mono n2.gr _ _ r, rfl⟩
theorem ei_enum {xs : List D} (h : EvA K t ρ μ [w] μ1) (hw : SeqW μ1 w xs) : EvI K (iEnumA K t) ρ μ (enumD 0 xs) μ1 (seqC w xs) := ⟨seqC_of hw, fun P as σ G H R Q q => by
  have key : ∀ i, (enumD 0 xs)[i]? = (xs[i]?).map fun x => D.tup [.int ((i : Nat) : Int), x] := fun i => by
    rw [enumD_get]
    simp
  have viaL : ∀ (as0 : List Addr) (G0 : Hp) (a : Addr), (∀ (P' : Addr → Prop) (as' : List Addr) (ρ' : Env') (μ' : Mu) (σ' : L2.St) (G1 H' : Hp), Same G0 G1 → (∃ t, as' = as0 ++ t) → seqC w xs μ' → Rl K G1 H' as' P' ρ' μ' σ' → ∃ vs, H' a = some (.lst vs) ∧ RepL K G1 xs vs) → ItD K G0 as0 (seqC w xs) (Ite K a) (enumD 0 xs) := fun as0 G0 a ok i P' as' ρ' μ' σ' G1 H' s pr hc R' => by
    obtain ⟨vs, hh, rl⟩ := ok P' as' ρ' μ' σ' G1 H' s pr hc R'
    have hs : SqL K H' a vs := SqL.of hh
    rw [key]
    constructor
    · intro d hd
      cases e : xs[i]? with
      | none => rw [e] at hd; cases hd
      | some x =>
        rw [e] at hd
        cases hd
        obtain ⟨u, hu, ru⟩ := rl.get e
        refine ⟨⟨vs, u, hs, hu⟩, fun y H2 ⟨T, x', ey, hT, eH, hx⟩ => ?_⟩
        have : x' = u := by
          have := hx vs hs
          rw [hu] at this
          exact (Option.some.inj this).symm
        subst this ey eH
        exact pair_step R' hT ru
    · intro hn
      cases e : xs[i]? with
      | none => exact ⟨vs, hs, by rw [rl.length]; exact List.getElem?_eq_none_iff.mp e⟩
      | some x => rw [e] at hn; cases hn
  cases hw with
  | lst =>
    refine .inl (h P as σ G H R _ fun vs as1 G1 H1 n1 R1 r1 => ?_)
    obtain ⟨v, ev, _, a, us, eu, g, rl⟩ := repW1 r1
    subst eu
    exact ⟨a, us, ev, SqL.of (R1.sub _ _ g), q _ as1 G1 H1 n1 R1 (viaL as1 G1 a fun P' as' ρ' μ' σ' G2 H' s _ _ R' => ⟨us, R'.sub _ _ (s _ _ g), RepL.mono s _ _ rl⟩)⟩
  | loc hm =>
    refine .inl (h P as σ G H R _ fun vs as1 G1 H1 n1 R1 r1 => ?_)
    obtain ⟨v, ev, a, ha, eu⟩ := repW1 r1
    subst eu
    obtain ⟨us, g, rl, _⟩ := at_loc R1 ha (.inl hm)
    refine ⟨a, us, ev, SqL.of g, q _ as1 G1 H1 n1 R1 (viaL as1 G1 a fun P' as' ρ' μ' σ' G2 H' s pr hc R' => ?_)⟩
    obtain ⟨us', g', rl', _⟩ := at_loc R' (at_pre pr ha) hc
    exact ⟨us', g', rl'⟩
  | frz hm =>
    refine .inl (h P as σ G H R _ fun vs as1 G1 H1 n1 R1 r1 => ?_)
    obtain ⟨v, ev, a, ha, eu⟩ := repW1 r1
    subst eu
    obtain ⟨us, g, rl, _⟩ := at_loc R1 ha (.inr hm)
    refine ⟨a, us, ev, SqL.of g, q _ as1 G1 H1 n1 R1 (viaL as1 G1 a fun P' as' ρ' μ' σ' G2 H' s pr hc R' => ?_)⟩
    obtain ⟨us', g', rl', _⟩ := at_loc R' (at_pre pr ha) hc
    exact ⟨us', g', rl'⟩
  | tup =>
    refine .inr (h P as σ G H R _ fun vs as1 G1 H1 n1 R1 r1 => ?_)
    obtain ⟨v, ev, _, a, us, eu, g, rl⟩ := repW1 r1
    subst eu
    refine ⟨a, us, ev, same_sqt R1.sub g, q _ as1 G1 H1 n1 R1 fun i P' as' ρ' μ' σ' G2 H' s _ _ R' => ?_⟩
    have hs : SqT K H' a us := same_sqt R'.sub (same_sqt s g)
    have rl2 := RepL.mono s _ _ rl
    rw [key]
    constructor
    · intro d hd
      cases e : xs[i]? with
      | none => rw [e] at hd; cases hd
      | some x =>
        rw [e] at hd
        cases hd
        obtain ⟨u, hu, ru⟩ := rl2.get e
        refine ⟨⟨us, u, hs, hu⟩, fun y H2 ⟨T, x', ey, hT, eH, hx⟩ => ?_⟩
        have : x' = u := by
          have := hx us hs
          rw [hu] at this
          exact (Option.some.inj this).symm
        subst this ey eH
        exact pair_step R' hT ru
    · intro hn
      cases e : xs[i]? with
      | none => exact ⟨us, hs, by rw [rl2.length]; exact List.getElem?_eq_none_iff.mp e⟩
      | some x => rw [e] at hn; cases hn⟩
end
end DK

/-! DK6: dicts, two fors, stars, sets. -/
namespace DK
open PySem PySem.Spec PyProof.Rows L2

section
variable {K : PySem.W.Frag} {ρ ρ1 ρ2 : Env'} {μ μ1 μ2 μ3 : Mu} {ta tb te tc : TE} {w : W} {a b d : D} {i : Nat}

/-! ### stars -/
theorem ea_star {t : TA} {xs ds : List D} (h : Ev K te ρ μ w μ1) (hw : SeqW μ1 w xs) (hr : EvD K t ρ μ1 ds μ1) : EvD K (StX.tStar K te t) ρ μ (xs ++ ds) μ1 := fun P as σ G H R Q q =>
  h P as σ G H R _ fun v as1 G1 H1 n1 R1 r1 => by
    obtain ⟨a, vs, ev, hs, hl, _⟩ := hw.size R1 r1
    refine ⟨a, vs, ev, hs.symm, hr P as1 σ G1 H1 R1 _ fun us as2 G2 H2 n2 R2 r2 => q _ as2 G2 H2 (n1.trans n2) R2 ?_⟩
    exact RepWs.vals.mpr ((RepL.mono n2.gr _ _ hl).append (RepWs.vals.mp r2))

/-! ### dicts of the store -/
def keyD : Key → D
  | .inl n => .int n
  | .inr s => .str s
def valD (kvs : List (Key × D)) (k : Key) : Option D := (kvs.find? fun kv => decide (kv.1 = k)).map (·.2)
def putD (kvs : List (Key × D)) (k : Key) (d : D) : List (Key × D) :=
  if (kvs.any fun kv => decide (kv.1 = k)) = true then kvs.map (fun kv => if kv.1 = k then (kv.1, d) else kv) else kvs ++ [(k, d)]
def dropD (kvs : List (Key × D)) (k : Key) : List (Key × D) := kvs.filter fun kv => decide (kv.1 ≠ k)
theorem RepK.length {G : Hp} : ∀ {ks : List (Key × D)} {vs : List (Key × V)}, RepK K G ks vs → vs.length = ks.length
  | [], _, h => by rw [show _ = [] from h]; rfl
  | (_, _) :: _, _, ⟨_, _, e, _, h⟩ => by rw [e, List.length_cons, List.length_cons, RepK.length h]
theorem RepK.val {G : Hp} {k : Key} : ∀ {ks : List (Key × D)} {vs : List (Key × V)}, RepK K G ks vs → (∀ d, valD ks k = some d → ∃ v, valV vs k = some v ∧ Rep K G d v) ∧ (valD ks k = none → valV vs k = none)
  | [], _, h => by
    rw [show _ = [] from h]
    exact ⟨fun d e => (by cases e), fun _ => rfl⟩
  | (k0, d0) :: ks, _, ⟨v, r, e, h1, h2⟩ => by
    subst e
    obtain ⟨i1, i2⟩ := RepK.val (k := k) h2
    unfold valD valV at *
    rw [List.find?_cons, List.find?_cons]
    by_cases q : k0 = k
    · simp only [q, decide_true, Option.map_some]
      exact ⟨fun d e => ⟨v, rfl, by cases e; exact h1⟩, fun e => (by cases e)⟩
    · simp only [q, decide_false]
      exact ⟨i1, i2⟩
theorem RepK.any {G : Hp} {k : Key} : ∀ {ks : List (Key × D)} {vs : List (Key × V)}, RepK K G ks vs → (vs.any fun kv => decide (kv.1 = k)) = (ks.any fun kv => decide (kv.1 = k))
  | [], _, h => by rw [show _ = [] from h]; rfl
  | (_, _) :: _, _, ⟨_, _, e, _, h⟩ => by rw [e, List.any_cons, List.any_cons, RepK.any h]
theorem RepK.append {G : Hp} : ∀ {ks ls : List (Key × D)} {vs us : List (Key × V)}, RepK K G ks vs → RepK K G ls us → RepK K G (ks ++ ls) (vs ++ us)
  | [], _, _, _, h, k => by rw [show _ = [] from h]; exact k
  | (_, _) :: _, _, _, _, ⟨v, r, e, h1, h2⟩, k => by rw [e]; exact ⟨v, r ++ _, rfl, h1, RepK.append h2 k⟩
theorem RepK.over {G : Hp} {k : Key} {d : D} {v : V} (hd : Rep K G d v) : ∀ {ks : List (Key × D)} {vs : List (Key × V)}, RepK K G ks vs → RepK K G (ks.map fun kv => if kv.1 = k then (kv.1, d) else kv) (vs.map fun kv => if kv.1 = k then (kv.1, v) else kv)
  | [], _, h => by rw [show _ = [] from h]; exact rfl
  | (k0, d0) :: ks, _, ⟨u, r, e, h1, h2⟩ => by
    subst e
    rw [List.map_cons, List.map_cons]
    by_cases q : k0 = k
    · rw [if_pos (show (k0, d0).1 = k from q), if_pos (show (k0, u).1 = k from q)]
      exact ⟨v, _, rfl, hd, RepK.over hd h2⟩
    · rw [if_neg (show ¬ (k0, d0).1 = k from q), if_neg (show ¬ (k0, u).1 = k from q)]
      exact ⟨u, _, rfl, h1, RepK.over hd h2⟩
theorem RepK.keys {G : Hp} : ∀ {ks : List (Key × D)} {vs : List (Key × V)}, RepK K G ks vs → ∀ i : Nat, vs[i]?.map (·.1) = ks[i]?.map (·.1)
  | [], _, h, i => by rw [show _ = [] from h]; rfl
  | (k0, d0) :: ks, _, ⟨u, r, e, h1, h2⟩, 0 => by rw [e]; rfl
  | (k0, d0) :: ks, _, ⟨u, r, e, h1, h2⟩, i + 1 => by
    rw [e, List.getElem?_cons_succ, List.getElem?_cons_succ]
    exact RepK.keys h2 i
theorem RepK.put {G : Hp} {k : Key} {d : D} {v : V} (hd : Rep K G d v) {ks : List (Key × D)} {vs : List (Key × V)} (h : RepK K G ks vs) : RepK K G (putD ks k d) (putK vs k v) := by
  unfold putD putK
  rw [h.any]
  split
  · exact RepK.over hd h
  · exact h.append ⟨v, [], rfl, hd, rfl⟩
theorem RepK.drop {G : Hp} {k : Key} : ∀ {ks : List (Key × D)} {vs : List (Key × V)}, RepK K G ks vs → RepK K G (dropD ks k) (dropK vs k)
  | [], _, h => by rw [show _ = [] from h]; exact rfl
  | (k0, d0) :: ks, _, ⟨v, r, e, h1, h2⟩ => by
    subst e
    have ih := RepK.drop (k := k) h2
    unfold dropD dropK at *
    by_cases q : k0 ≠ k
    · rw [List.filter_cons_of_pos (a := (k0, d0)) (decide_eq_true q), List.filter_cons_of_pos (a := (k0, v)) (decide_eq_true q)]
      exact ⟨v, _, rfl, h1, ih⟩
    · rw [List.filter_cons_of_neg (a := (k0, d0)) (by simpa using q), List.filter_cons_of_neg (a := (k0, v)) (by simpa using q)]
      exact ih
theorem putD_len {k : Key} {d : D} {ks : List (Key × D)} : (putD ks k d).length ≤ ks.length + 1 := by
  unfold putD
  split
  · rw [List.length_map]; omega
  · rw [List.length_append, List.length_singleton]; omega
theorem dropD_len {k : Key} {ks : List (Key × D)} : (dropD ks k).length ≤ ks.length := List.length_filter_le _ _
theorem keyD_rep {G : Hp} {k : Key} {v : V} (h : Rep K G (keyD k) v) : v = kV k := by
  cases k with
  | inl n => exact h
  | inr s => exact h.1
/-- d[k] = v -/
theorem ex_dput {j : Nat} {kvs : List (Key × D)} {k : Key} (hv : Ev K tc ρ μ (.val d) μ1) (hd : Ev K ta ρ μ1 (.loc j) μ2) (hk : Ev K tb ρ μ2 (.val (keyD k)) μ3) (hm : μ3[j]? = some (.dK kvs)) (hz : kvs.length < LB) : Ex K (sDPut ta tb tc) ρ μ (.nx ρ (μ3.set j (.dK (putD kvs k d)))) := fun P as σ G H R E q =>
  hv P as σ G H R _ fun v as1 G1 H1 n1 R1 r1 => hd P as1 σ G1 H1 R1 _ fun x as2 G2 H2 n2 R2 ⟨a, ha, ev⟩ => hk P as2 σ G2 H2 R2 _ fun y as3 G3 H3 n3 R3 r3 => by
    have ha3 := at_pre n3.pre ha
    obtain ⟨g, z, vs, hh, rk⟩ := R3.mu j a _ ha3 hm
    rw [keyD_rep r3]
    refine ⟨a, _, ev, DPut.k hh (by rw [rk.length]; exact Nat.lt_of_lt_of_le hz (by decide)), ?_⟩
    obtain ⟨R4, n4⟩ := R3.put (o := .dK (putK vs k v)) (m' := .dK (putD kvs k d)) ha3 hm g ⟨g, Nat.le_trans putD_len hz, _, upd_same, rk.put (Rep.mono (n2.trans n3).gr _ _ r1)⟩ rfl
    exact q as3 σ G3 _ (((n1.trans n2).trans n3).trans n4) R4
/-- d.pop(k, x) -/
theorem ev_dpop2 {j : Nat} {kvs : List (Key × D)} {k : Key} (hd : Ev K ta ρ μ (.loc j) μ) (hk : Ev K tb ρ μ (.val (keyD k)) μ) (hx : Ev K tc ρ μ (.val d) μ) (hm : μ[j]? = some (.dK kvs)) : Ev K (tDPop2 ta tb tc) ρ μ (.val ((valD kvs k).getD d)) (μ.set j (.dK (dropD kvs k))) := fun P as σ G H R Q q =>
  hd P as σ G H R _ fun x as1 G1 H1 n1 R1 ⟨a, ha, ev⟩ => by
    obtain ⟨g1, z1, vs1, hh1, rk1⟩ := R1.mu j a _ ha hm
    refine ⟨a, ev, .inl ⟨vs1, .inl hh1⟩, hk P as1 σ G1 H1 R1 _ fun y as2 G2 H2 n2 R2 r2 => hx P as2 σ G2 H2 R2 _ fun c as3 G3 H3 n3 R3 r3 => ?_⟩
    have ha3 := at_pre n3.pre (at_pre n2.pre ha)
    obtain ⟨g, z, vs, hh, rk⟩ := R3.mu j a _ ha3 hm
    have n := (n1.trans n2).trans n3
    obtain ⟨v1, v2⟩ := rk.val (k := k)
    refine ⟨vs, k, hh, keyD_rep r2, fun v hv => ?_, fun hn => ?_⟩
    · obtain ⟨R4, n4⟩ := R3.put (o := .dK (dropK vs k)) (m' := .dK (dropD kvs k)) ha3 hm g ⟨g, Nat.le_trans dropD_len z, _, upd_same, rk.drop⟩ rfl
      cases e : valD kvs k with
      | none =>
        rw [v2 e] at hv
        cases hv
      | some d' =>
        obtain ⟨u, eu, ru⟩ := v1 d' e
        rw [eu] at hv
        cases hv
        rw [e] at q
        exact q _ as3 G3 _ (n.trans n4) R4 ru
    · cases e : valD kvs k with
      | some d' =>
        obtain ⟨u, eu, ru⟩ := v1 d' e
        rw [eu] at hn
        cases hn
      | none =>
        have nod : dropD kvs k = kvs := by
          unfold dropD
          rw [List.filter_eq_self]
          intro p hp
          refine decide_eq_true fun z => ?_
          have hnf : (kvs.find? fun kv => decide (kv.1 = k)) = none := by
            unfold valD at e
            cases q : kvs.find? fun kv => decide (kv.1 = k) with
            | none => rfl
            | some w => rw [q] at e; cases e
          have := List.find?_eq_none.mp hnf p hp
          simp [z] at this
        rw [e, nod, show μ.set j (.dK kvs) = μ from by
          apply List.ext_getElem?
          intro m
          by_cases c : j = m
          · subst c
            rw [List.getElem?_set_self (List.getElem?_eq_some_iff.mp hm).1, hm]
          · rw [List.getElem?_set_ne c]] at q
        exact q _ as3 G3 H3 n R3 r3
/-- {k: v for ..} -/
inductive Dc (K : PySem.W.Frag) (g : TG) (tt : TT) (tk tv : TE) (vs : List Nat) (C : Mu → Prop) (ρ : Env') : List D → Mu → List (Key × D) → Mu → List (Key × D) → Prop where
  | nil {μ : Mu} {acc : List (Key × D)} : Dc K g tt tk tv vs C ρ [] μ acc μ acc
  | skip {x : D} {xs : List D} {ρ1 : Env'} {μ μ1 μ' : Mu} {acc out : List (Key × D)} : EvGc K g x vs ρ ρ1 → EvB K tt ρ1 μ false μ1 → C μ1 → Dc K g tt tk tv vs C ρ xs μ1 acc μ' out → Dc K g tt tk tv vs C ρ (x :: xs) μ acc μ' out
  | take {x y : D} {k : Key} {xs : List D} {ρ1 : Env'} {μ μ1 μ2 μ3 μ' : Mu} {acc out : List (Key × D)} : EvGc K g x vs ρ ρ1 → EvB K tt ρ1 μ true μ1 → Ev K tk ρ1 μ1 (.val (keyD k)) μ2 → Ev K tv ρ1 μ2 (.val y) μ3 → C μ3 →
      Dc K g tt tk tv vs C ρ xs μ3 (putD acc k y) μ' out → Dc K g tt tk tv vs C ρ (x :: xs) μ acc μ' out
theorem ev_dc {wi : TI} {g : TG} {tt : TT} {tk tv : TE} {vs : List Nat} {C : Mu → Prop} {xs : List D} {out : List (Key × D)} (hi : EvI K wi ρ μ xs μ1 C) (h : Dc K g tt tk tv vs C (wipeE ρ vs) xs μ1 [] μ2 out) (hz : xs.length ≤ LB) : Ev K (tDc wi g tt tk tv vs) ρ μ (.loc μ2.length) (μ2 ++ [.dK out]) := fun P as σ G H R Q q =>
  hi.2 P as σ G H R _ fun J as0 G0 H0 n0 R0 it => fun p hp => by
    have gp : G0 p = none := R0.sub.free hp
    have np : ∀ a, P a → a ≠ p := fun a ha z => (R0.pro a ha).2.1 (by rw [z]; exact hp)
    have pas : p ∉ as0 := fun z => R0.here z hp
    refine ⟨fun i m H' => m = xs.length - i ∧ i ≤ xs.length ∧ ∃ as' G' μ' kvs acc, Nx P as G H as' G' H' ∧ (∃ t, as' = as0 ++ t) ∧ C μ' ∧ Same G0 G' ∧ Rl K G' H' as' (fun a => P a ∨ a = p) ρ μ' σ ∧ H' p = some (.dK kvs) ∧ RepK K G' acc kvs ∧ Dc K g tt tk tv vs C (wipeE ρ vs) (xs.drop i) μ' acc μ2 out ∧ acc.length ≤ i,
      ⟨xs.length, rfl, Nat.zero_le _, as0, G0, μ1, [], [], ?_, ⟨[], by simp⟩, hi.1, Same.refl _, ?_, upd_same, rfl, h, Nat.le_refl _⟩, ?_⟩
    · exact ⟨n0.pre, n0.gr, fun a ha => by rw [upd_ne (np a ha)]; exact n0.kp a ha⟩
    · have R2 := (R0.junk hp (.dK [])).1
      exact R2.guard gp (by rw [upd_same]; simp) pas
    rintro i m H' ⟨rfl, hi', as', G', μ', kvs, acc, n', a', c', s', R', hH, rk, l', dl⟩
    obtain ⟨go, stop⟩ := it i _ as' ρ μ' σ G' H' s' a' c' R'
    cases e : xs[i]? with
    | none =>
      have hd : xs.drop i = [] := List.drop_eq_nil_of_le (List.getElem?_eq_none_iff.mp e)
      rw [hd] at l'
      cases l'
      refine .inl ⟨stop e, ?_⟩
      have g' : G' p = none := (R'.pro p (.inr rfl)).1
      have pa : p ∉ as' := (R'.pro p (.inr rfl)).2.2
      have R3 : Rl K G' H' (as' ++ [p]) P ρ (μ2 ++ [.dK out]) σ := by
        have Rw := R'.weak (P := P) fun a ha => .inl ha
        refine ⟨Rw.sub, fun a ha => ?_, List.nodup_append.mpr ⟨Rw.nd, by simp, fun x hx y hy => ?_⟩, by simp [Rw.len], fun j x m h1 h2 => ?_, fun m hm => ?_, Rw.sz, fun k w hk => ?_⟩
        · obtain ⟨h1, h2, h3⟩ := Rw.pro a ha
          refine ⟨h1, h2, fun z => ?_⟩
          rcases List.mem_append.mp z with z | z
          · exact h3 z
          · exact np a ha (by simpa using z)
        · have : y = p := by simpa using hy
          subst this
          exact fun z => pa (z ▸ hx)
        · by_cases c : j < as'.length
          · rw [List.getElem?_append_left c] at h1
            rw [List.getElem?_append_left (Rw.len ▸ c)] at h2
            exact (Rw.mu j x m h1 h2).mono (Same.refl _) id rfl ⟨[p], rfl⟩
          · have hj : j = as'.length := by
              have := (List.getElem?_eq_some_iff.mp h1).1
              simp at this
              omega
            subst hj
            rw [List.getElem?_append_right (Nat.le_refl _)] at h1
            rw [List.getElem?_append_right (by rw [Rw.len]; exact Nat.le_refl _)] at h2
            simp at h1
            rw [Rw.len] at h2
            simp at h2
            subst h1 h2
            have hL : out.length ≤ LB := by
              have := List.getElem?_eq_none_iff.mp e
              omega
            exact ⟨g', hL, kvs, hH, rk⟩
        · rw [List.length_append, List.length_singleton]
          rcases List.mem_append.mp hm with z | z
          · exact below_mono (Nat.le_succ _) (Rw.wf m z)
          · have : m = .dK out := by simpa using z
            subst this
            rfl
        · obtain ⟨v, h1, h2⟩ := Rw.env k w hk
          exact ⟨v, h1, h2.mono (Same.refl _) ⟨[p], rfl⟩⟩
      refine q _ (as' ++ [p]) G' H' ⟨?_, n'.gr, n'.kp⟩ R3 ⟨p, ?_, rfl⟩
      · obtain ⟨t, et⟩ := n'.pre
        exact ⟨t ++ [p], by rw [et, List.append_assoc]⟩
      · rw [← R'.len, List.getElem?_append_right (Nat.le_refl _)]
        simp
    | some d =>
      have hlt : i < xs.length := (List.getElem?_eq_some_iff.mp e).1
      have hd : xs.drop i = d :: xs.drop (i + 1) := by
        rw [List.drop_eq_getElem_cons hlt]
        have := (List.getElem?_eq_some_iff.mp e).2
        rw [this]
      obtain ⟨hgo, hy⟩ := go d e
      refine .inr ⟨hgo, _, fun H2 z => ⟨xs.length - (i + 1), by omega, z⟩, fun x H2 y => ?_⟩
      obtain ⟨G2, n2, R2, r2⟩ := hy x H2 y
      rw [hd] at l'
      have np2 : ∀ a, P a → P a ∨ a = p := fun a ha => .inl ha
      cases l' with
      | skip hg ht hC hl =>
        refine hg _ as' μ' _ G2 H2 x (R2.wipe vs) r2 _ fun σ3 R3 e3 => ⟨e3.trans wipe_wipe, ht _ as' σ3 G2 H2 R3 _ fun as4 G4 H4 n4 R4 => iteF ?_⟩
        refine ⟨rfl, hlt, as4, G4, _, kvs, acc, n'.trans ((n2.trans n4).weak np2), pre_tr a' n4.pre, hC, s'.trans (n2.gr.trans n4.gr), ?_, ?_, rk.mono (n2.gr.trans n4.gr), hl, Nat.le_succ_of_le dl⟩
        · exact R4.to R2.sz fun k w hk => by
            obtain ⟨v, h1, h2⟩ := R2.env k w hk
            exact ⟨v, h1, h2.mono n4.gr n4.pre⟩
        · exact (n4.kp p (.inr rfl)).trans ((n2.kp p (.inr rfl)).trans hH)
      | take hg ht hk hv hC hl =>
        rename_i yv kk ρ1 μ1' μ2' μ3'
        refine hg _ as' μ' _ G2 H2 x (R2.wipe vs) r2 _ fun σ3 R3 e3 => ⟨e3.trans wipe_wipe, ht _ as' σ3 G2 H2 R3 _ fun as4 G4 H4 n4 R4 => iteT ?_⟩
        refine hk _ as4 σ3 G4 H4 R4 _ fun k5 as5 G5 H5 n5 R5 r5 => hv _ as5 σ3 G5 H5 R5 _ fun v6 as6 G6 H6 n6 R6 r6 => ?_
        have ng := ((n2.trans n4).trans n5).trans n6
        have h6 : H6 p = some (.dK kvs) := (ng.kp p (.inr rfl)).trans hH
        refine ⟨kvs, kk, keyD_rep r5, h6, by rw [rk.length]; exact Nat.lt_of_lt_of_le (Nat.lt_of_le_of_lt dl hlt) (Nat.le_trans hz (by decide)), ?_⟩
        refine ⟨rfl, hlt, as6, G6, _, _, putD acc kk yv, ?_, pre_tr a' ((n4.trans n5).trans n6).pre, hC, s'.trans ng.gr, ?_, upd_same, (rk.mono ng.gr).put r6, hl, Nat.le_trans putD_len (Nat.succ_le_succ dl)⟩
        · have n7 := n'.trans (ng.weak np2)
          exact ⟨n7.pre, n7.gr, fun a ha => by rw [upd_ne (np a ha)]; exact n7.kp a ha⟩
        · have R7 : Rl K G6 H6 as6 (fun a => P a ∨ a = p) ρ μ3' σ := R6.to R2.sz fun k w hk => by
            obtain ⟨v, h1, h2⟩ := R2.env k w hk
            exact ⟨v, h1, h2.mono ((n4.gr.trans n5.gr).trans n6.gr) ((n4.trans n5).trans n6).pre⟩
          exact R7.touch (.inr rfl) _
/-- [.. for k in d ..], d a dict of the store -/
theorem ev_lcKeys {g : TG} {tt : TT} {vs : List Nat} {j : Nat} {kvs : List (Key × D)} {ys : List D} (hd : ∀ μ0, Ev K ta ρ μ0 (.loc j) μ0) (hm : μ[j]? = some (.dK kvs)) (hs : ∀ k ∈ kvs, ∀ s, k.1 = .inr s → sOk s)
    (h : ∀ (o : HO) (C : Mu → Prop), C (μ.set j (.raw o)) → Lc K g tt te vs C (wipeE ρ vs) (kvs.map fun kv => keyD kv.1) (μ.set j (.raw o)) ys (μ.set j (.raw o))) (hz : kvs.length ≤ LB) : Ev K (tLockE (tLc (iKeys ta) g tt te vs)) ρ μ (.val (.lst ys)) μ := fun P as σ G H R Q q => by
  have hj : j < μ.length := (List.getElem?_eq_some_iff.mp hm).1
  obtain ⟨a, ha⟩ : ∃ a, as[j]? = some a := ⟨_, List.getElem?_eq_getElem (by rw [R.len]; exact hj)⟩
  obtain ⟨g0, z0, us, hh, rk⟩ := R.mu j a _ ha hm
  refine ⟨a, .dK us, hh, trivial, fun od => ?_⟩
  obtain ⟨R1, n1⟩ := R.put (o := .frz od (.dK us)) (m' := .raw (.frz od (.dK us))) ha hm g0 ⟨g0, upd_same⟩ rfl
  have src : EvI K (iKeys ta) ρ (μ.set j (.raw (.frz od (.dK us)))) (kvs.map fun kv => keyD kv.1) (μ.set j (.raw (.frz od (.dK us)))) (fun μ' => μ'[j]? = some (.raw (.frz od (.dK us)))) := ⟨List.getElem?_set_self hj, fun P' as' σ' G' H' R' Q' q' =>
    hd _ P' as' σ' G' H' R' _ fun v as2 G2 H2 n2 R2 ⟨b, hb, ev⟩ => by
      obtain ⟨_, hb2⟩ := R2.mu j b _ hb (List.getElem?_set_self hj)
      refine ⟨b, od, ev, .inl ⟨us, hb2, q' _ as2 G2 H2 n2 R2 fun i P3 as3 ρ3 μ3 σ3 G3 H3 s3 pr c3 R3 => ?_⟩⟩
      obtain ⟨_, hb3⟩ := R3.mu j b _ (at_pre pr hb) c3
      have lenk : us.length = kvs.length := rk.length
      have keys := rk.keys
      rw [List.getElem?_map]
      constructor
      · intro d hd'
        cases e : kvs[i]? with
        | none => rw [e] at hd'; cases hd'
        | some kv =>
          rw [e] at hd'
          cases hd'
          have hi3 : i < us.length := by rw [lenk]; exact (List.getElem?_eq_some_iff.mp e).1
          refine ⟨⟨hb3, hi3⟩, fun x H4 ⟨eH, k, v, ek, ex⟩ => ?_⟩
          subst eH
          have kk := keys i
          rw [ek, e] at kk
          have kk' : k = kv.1 := Option.some.inj kk
          subst kk' ex
          refine ⟨G3, .refl, R3, ?_⟩
          have hok := hs kv (List.mem_of_getElem? e)
          show Rep K G3 (keyD kv.1) (kV kv.1)
          cases ek2 : kv.1 with
          | inl n => exact rfl
          | inr s => exact ⟨rfl, hok s ek2⟩
      · intro hn
        cases e : kvs[i]? with
        | none => exact ⟨hb3, by rw [lenk]; exact List.getElem?_eq_none_iff.mp e⟩
        | some kv => rw [e] at hn; cases hn⟩
  have ev := ev_lc src (h (.frz od (.dK us)) _ (List.getElem?_set_self hj)) (by rw [List.length_map]; exact hz)
  refine ev P as σ G _ R1 _ fun v as2 G2 H2 n2 R2 r2 => ?_
  have ha2 := at_pre n2.pre ha
  obtain ⟨g2, hh2⟩ := R2.mu j a _ ha2 (List.getElem?_set_self hj)
  refine ⟨hh2, ?_⟩
  obtain ⟨R3, n3⟩ := R2.put (o := .dK us) (m' := .dK kvs) ha2 (List.getElem?_set_self hj) g2 ⟨g2, z0, us, upd_same, rk.mono n2.gr⟩ rfl
  have back : (μ.set j (.raw (.frz od (.dK us)))).set j (.dK kvs) = μ := by
    rw [List.set_set]
    apply List.ext_getElem?
    intro m
    by_cases c : j = m
    · subst c
      rw [List.getElem?_set_self hj, hm]
    · rw [List.getElem?_set_ne c]
  rw [back] at R3
  exact q v as2 G2 _ ((n1.trans n2).trans n3) R3 r2

/-! ### two fors -/
/-- all items of the inner walks, gone through -/
inductive Lc2 (K : PySem.W.Frag) (g : TG) (tt : TT) (wi1 : TI) (g1 : TG) (tt1 : TT) (te : TE) (vs vs1 : List Nat) (ρ : Env') (μ : Mu) : List D → List D → Prop where
  | nil : Lc2 K g tt wi1 g1 tt1 te vs vs1 ρ μ [] []
  | skip {x : D} {xs ys : List D} {ρ1 : Env'} : EvGc K g x vs ρ ρ1 → EvB K tt ρ1 μ false μ → Lc2 K g tt wi1 g1 tt1 te vs vs1 ρ μ xs ys → Lc2 K g tt wi1 g1 tt1 te vs vs1 ρ μ (x :: xs) ys
  | take {x : D} {xs us zs ys : List D} {ρ1 : Env'} : EvGc K g x vs ρ ρ1 → EvB K tt ρ1 μ true μ → EvI K wi1 ρ1 μ us μ CT → Lc K g1 tt1 te vs1 CT (wipeE ρ1 vs1) us μ zs μ → Lc2 K g tt wi1 g1 tt1 te vs vs1 ρ μ xs ys → Lc2 K g tt wi1 g1 tt1 te vs vs1 ρ μ (x :: xs) (zs ++ ys)
theorem inner_lc {G H : Hp} {as : List Addr} {P : Addr → Prop} {σ : L2.St} {p : Addr} {J : It} {g1 : TG} {tt1 : TT} {vs1 : List Nat} {us zs done : List D} {acc : List V} {N : Hp → Prop} (np : ∀ a, P a → a ≠ p) (it : ItD K G as CT J us)
    (h : Lc K g1 tt1 te vs1 CT (wipeE ρ vs1) us μ zs μ) (hc : ∀ (xs zs : List D) (μ' : Mu), Lc K g1 tt1 te vs1 CT (wipeE ρ vs1) xs μ' zs μ → μ' = μ → True) (R : Rl K G H as (fun a => P a ∨ a = p) ρ μ σ) (hH : H p = some (.lst acc)) (rl : RepL K G done acc) (hz : (done ++ zs).length ≤ LB)
    (fin : ∀ as' G' H' acc', Nx P as G H as' G' H' → Rl K G' H' as' (fun a => P a ∨ a = p) ρ μ σ → H' p = some (.lst acc') → RepL K G' (done ++ zs) acc' → N H') :
    ∃ W1 : Nat → Nat → Hp → Prop, (∃ m, W1 0 m H) ∧ ∀ j k H, W1 j k H →
      (J.stop j H ∧ N H) ∨ (J.go j H ∧ ∃ Nx1 : Hp → Prop, (∀ H', Nx1 H' → ∃ k', k' < k ∧ W1 (j + 1) k' H') ∧ ∀ x H', J.yld j H x H' → g1 x (wipe σ vs1) H' fun σ3 H5 => wipe σ3 vs1 = wipe σ vs1 ∧ tt1 σ3 H5 fun b H6 =>
        if b = true then te σ3 H6 fun y H7 => ∃ acc, H7 p = some (.lst acc) ∧ acc.length < sizeLine ∧ Nx1 (upd H7 p (.lst (acc ++ [y]))) else Nx1 H6) := by
  refine ⟨fun i m H' => m = us.length - i ∧ i ≤ us.length ∧ ∃ as' G' μ' acc' d1 rest, done ++ zs = d1 ++ rest ∧ Nx P as G H as' G' H' ∧ (∃ t, as' = as ++ t) ∧ Same G G' ∧ Rl K G' H' as' (fun a => P a ∨ a = p) ρ μ' σ ∧ H' p = some (.lst acc') ∧ RepL K G' d1 acc' ∧ Lc K g1 tt1 te vs1 CT (wipeE ρ vs1) (us.drop i) μ' rest μ,
    ⟨us.length, rfl, Nat.zero_le _, as, G, μ, acc, done, zs, rfl, .refl, ⟨[], by simp⟩, Same.refl _, R, hH, rl, h⟩, ?_⟩
  rintro i m H' ⟨rfl, hi', as', G', μ', acc', d1, rest, ey, n', a', s', R', hH', rl', l'⟩
  obtain ⟨go, stop⟩ := it i _ as' ρ μ' σ G' H' s' a' trivial R'
  cases e : us[i]? with
  | none =>
    have hd : us.drop i = [] := List.drop_eq_nil_of_le (List.getElem?_eq_none_iff.mp e)
    rw [hd] at l'
    cases l'
    rw [List.append_nil] at ey
    exact .inl ⟨stop e, fin as' G' H' acc' n' R' hH' (by rw [ey]; exact rl')⟩
  | some d =>
    have hlt : i < us.length := (List.getElem?_eq_some_iff.mp e).1
    have hd : us.drop i = d :: us.drop (i + 1) := by
      rw [List.drop_eq_getElem_cons hlt]
      have := (List.getElem?_eq_some_iff.mp e).2
      rw [this]
    obtain ⟨hgo, hy⟩ := go d e
    refine .inr ⟨hgo, _, fun H2 z => ⟨us.length - (i + 1), by omega, z⟩, fun x H2 y => ?_⟩
    obtain ⟨G2, n2, R2, r2⟩ := hy x H2 y
    rw [hd] at l'
    have np2 : ∀ a, P a → P a ∨ a = p := fun a ha => .inl ha
    cases l' with
    | skip hg ht hC hl =>
      refine hg _ as' μ' _ G2 H2 x (R2.wipe vs1) r2 _ fun σ3 R3 e3 => ⟨e3.trans wipe_wipe, ht _ as' σ3 G2 H2 R3 _ fun as4 G4 H4 n4 R4 => iteF ?_⟩
      refine ⟨rfl, hlt, as4, G4, _, acc', d1, rest, ey, n'.trans ((n2.trans n4).weak np2), pre_tr a' n4.pre, s'.trans (n2.gr.trans n4.gr), ?_, ?_, RepL.mono (n2.gr.trans n4.gr) _ _ rl', hl⟩
      · exact R4.to R2.sz fun k w hk => by
          obtain ⟨v, h1, h2⟩ := R2.env k w hk
          exact ⟨v, h1, h2.mono n4.gr n4.pre⟩
      · exact (n4.kp p (.inr rfl)).trans ((n2.kp p (.inr rfl)).trans hH')
    | take hg ht hv hC hl =>
      rename_i yv ys' ρ1 μ1' μ2'
      refine hg _ as' μ' _ G2 H2 x (R2.wipe vs1) r2 _ fun σ3 R3 e3 => ⟨e3.trans wipe_wipe, ht _ as' σ3 G2 H2 R3 _ fun as4 G4 H4 n4 R4 => iteT ?_⟩
      refine hv _ as4 σ3 G4 H4 R4 _ fun v5 as5 G5 H5 n5 R5 r5 => ?_
      have ng := (n2.trans n4).trans n5
      have h5 : H5 p = some (.lst acc') := (ng.kp p (.inr rfl)).trans hH'
      have al : acc'.length < LB := by
        rw [rl'.length]
        rw [ey, List.length_append] at hz
        simp at hz
        omega
      refine ⟨acc', h5, Nat.lt_of_lt_of_le al (by decide), ?_⟩
      refine ⟨rfl, hlt, as5, G5, _, acc' ++ [v5], d1 ++ [yv], ys', by rw [ey, List.append_assoc]; rfl, ?_, pre_tr a' (n4.trans n5).pre, s'.trans ng.gr, ?_, upd_same, (RepL.mono ng.gr _ _ rl').append (RepL.cons r5 RepL.nil), hl⟩
      · have n6 := n'.trans (ng.weak np2)
        exact ⟨n6.pre, n6.gr, fun a ha => by rw [upd_ne (np a ha)]; exact n6.kp a ha⟩
      · have R6 : Rl K G5 H5 as5 (fun a => P a ∨ a = p) ρ μ2' σ := R5.to R2.sz fun k w hk => by
          obtain ⟨v, h1, h2⟩ := R2.env k w hk
          exact ⟨v, h1, h2.mono (n4.gr.trans n5.gr) (n4.trans n5).pre⟩
        exact R6.touch (.inr rfl) _
theorem ev_lc2 {wi wi1 : TI} {g g1 : TG} {tt tt1 : TT} {vs vs1 : List Nat} {xs ys : List D} (hi : EvI K wi ρ μ xs μ CT) (h : Lc2 K g tt wi1 g1 tt1 te vs vs1 (wipeE ρ vs) μ xs ys) (hz : ys.length ≤ LB) : Ev K (tLc2 wi g tt wi1 g1 tt1 te vs vs1) ρ μ (.val (.lst ys)) μ := fun P as σ G H R Q q =>
  hi.2 P as σ G H R _ fun J as0 G0 H0 n0 R0 it => fun p hp => by
    have gp : G0 p = none := R0.sub.free hp
    have np : ∀ a, P a → a ≠ p := fun a ha z => (R0.pro a ha).2.1 (by rw [z]; exact hp)
    have pas : p ∉ as0 := fun z => R0.here z hp
    refine ⟨fun i m H' => m = xs.length - i ∧ i ≤ xs.length ∧ ∃ as' G' acc done rest, ys = done ++ rest ∧ Nx P as G H as' G' H' ∧ (∃ t, as' = as0 ++ t) ∧ Same G0 G' ∧ Rl K G' H' as' (fun a => P a ∨ a = p) ρ μ σ ∧ H' p = some (.lst acc) ∧ RepL K G' done acc ∧ Lc2 K g tt wi1 g1 tt1 te vs vs1 (wipeE ρ vs) μ (xs.drop i) rest,
      ⟨xs.length, rfl, Nat.zero_le _, as0, G0, [], [], ys, rfl, ?_, ⟨[], by simp⟩, Same.refl _, ?_, upd_same, rfl, h⟩, ?_⟩
    · exact ⟨n0.pre, n0.gr, fun a ha => by rw [upd_ne (np a ha)]; exact n0.kp a ha⟩
    · exact (R0.junk hp (.lst [])).1.guard gp (by rw [upd_same]; simp) pas
    rintro i m H' ⟨rfl, hi', as', G', acc, done, rest, ey, n', a', s', R', hH, rl, l'⟩
    obtain ⟨go, stop⟩ := it i _ as' ρ μ σ G' H' s' a' trivial R'
    cases e : xs[i]? with
    | none =>
      have hd : xs.drop i = [] := List.drop_eq_nil_of_le (List.getElem?_eq_none_iff.mp e)
      rw [hd] at l'
      cases l'
      rw [List.append_nil] at ey
      subst ey
      refine .inl ⟨stop e, ?_⟩
      have R3 : Rl K (upd G' p (.lst acc)) H' as' P ρ μ σ := R'.adopt (p := p) (.inr rfl) (fun a ha => ⟨.inl ha, np a ha⟩) hH
      have g' : G' p = none := (R'.pro p (.inr rfl)).1
      have s3 : Same G' (upd G' p (.lst acc)) := fun b u h => by rw [upd_ne (ne_of_none h g')]; exact h
      exact q _ as' _ H' ⟨n'.pre, n'.gr.trans s3, n'.kp⟩ R3 ⟨hz, p, acc, rfl, upd_same, RepL.mono s3 _ _ rl⟩
    | some d =>
      have hlt : i < xs.length := (List.getElem?_eq_some_iff.mp e).1
      have hd : xs.drop i = d :: xs.drop (i + 1) := by
        rw [List.drop_eq_getElem_cons hlt]
        have := (List.getElem?_eq_some_iff.mp e).2
        rw [this]
      obtain ⟨hgo, hy⟩ := go d e
      refine .inr ⟨hgo, _, fun H2 z => ⟨xs.length - (i + 1), by omega, z⟩, fun x H2 y => ?_⟩
      obtain ⟨G2, n2, R2, r2⟩ := hy x H2 y
      rw [hd] at l'
      have np2 : ∀ a, P a → P a ∨ a = p := fun a ha => .inl ha
      have back : ∀ {as4 : List Addr} {G4 H4 : Hp} {ρx : Env'} {σx : L2.St}, (∃ t, as4 = as' ++ t) → Same G2 G4 → Rl K G4 H4 as4 (fun a => P a ∨ a = p) ρx μ σx → Rl K G4 H4 as4 (fun a => P a ∨ a = p) ρ μ σ := fun pr sg R4 => R4.to R2.sz fun k w hk => by
        obtain ⟨v, h1, h2⟩ := R2.env k w hk
        exact ⟨v, h1, h2.mono sg pr⟩
      cases l' with
      | skip hg ht hl =>
        refine hg _ as' μ _ G2 H2 x (R2.wipe vs) r2 _ fun σ3 R3 e3 => ⟨e3.trans wipe_wipe, ht _ as' σ3 G2 H2 R3 _ fun as4 G4 H4 n4 R4 => iteF ?_⟩
        exact ⟨rfl, hlt, as4, G4, acc, done, rest, ey, n'.trans ((n2.trans n4).weak np2), pre_tr a' n4.pre, s'.trans (n2.gr.trans n4.gr), back n4.pre n4.gr R4, (n4.kp p (.inr rfl)).trans ((n2.kp p (.inr rfl)).trans hH), RepL.mono (n2.gr.trans n4.gr) _ _ rl, hl⟩
      | take hg ht hw hin hl =>
        rename_i us zs ys' ρ1
        refine hg _ as' μ _ G2 H2 x (R2.wipe vs) r2 _ fun σ3 R3 e3 => ⟨e3.trans wipe_wipe, ht _ as' σ3 G2 H2 R3 _ fun as4 G4 H4 n4 R4 => iteT ?_⟩
        refine hw.2 _ as4 σ3 G4 H4 R4 _ fun J1 as5 G5 H5 n5 R5 it5 => ?_
        have ng := (n2.trans n4).trans n5
        have h5 : H5 p = some (.lst acc) := (ng.kp p (.inr rfl)).trans hH
        refine inner_lc (done := done) (zs := zs) np it5 hin (fun _ _ _ _ _ => trivial) R5 h5 (RepL.mono ng.gr _ _ rl) ?_ fun as6 G6 H6 acc6 n6 R6 h6 rl6 => ?_
        · rw [ey, List.length_append, List.length_append] at hz
          rw [List.length_append]
          omega
        · refine ⟨rfl, hlt, as6, G6, acc6, done ++ zs, ys', by rw [ey, List.append_assoc], (n'.trans (ng.weak np2)).trans n6, pre_tr a' (pre_tr (n4.trans n5).pre n6.pre), s'.trans (ng.gr.trans n6.gr), back (pre_tr (n4.trans n5).pre n6.pre) ((n4.gr.trans n5.gr).trans n6.gr) R6, h6, rl6, hl⟩

/-! ### sorted({text for ..}) -/
theorem ev_setSorted {wd : World} {wi : TI} {g : TG} {tt : TT} {vs : List Nat} {xs : List D} {ss : List Str} (hi : EvI K wi ρ μ xs μ CT) (h : Lc K g tt te vs CT (wipeE ρ vs) xs μ (ss.map D.str) μ) (hz : ss.length < 64) :
    Ev K (tCB (rSetSorted wd) (tCons (tScS wd wi g tt te vs) tNil)) ρ μ (.val (.lst ((srtU ss).map D.str))) μ := fun P as σ G H R Q q =>
  hi.2 P as σ G H R _ fun J as0 G0 H0 n0 R0 it => fun p hp => by
    have gp : G0 p = none := R0.sub.free hp
    have np : ∀ a, P a → a ≠ p := fun a ha z => (R0.pro a ha).2.1 (by rw [z]; exact hp)
    have pas : p ∉ as0 := fun z => R0.here z hp
    refine ⟨fun i m H' => m = xs.length - i ∧ i ≤ xs.length ∧ ∃ as' G' μ' M n done rest, ss = done ++ rest ∧ (∀ z, M z = true ↔ z ∈ done) ∧ n ≤ done.length ∧ (∀ s ∈ done, sOk s) ∧ Nx P as G H as' G' H' ∧ (∃ t, as' = as0 ++ t) ∧ Same G0 G' ∧ Rl K G' H' as' (fun a => P a ∨ a = p) ρ μ' σ ∧ H' p = some (SetSO wd p M n) ∧ Lc K g tt te vs CT (wipeE ρ vs) (xs.drop i) μ' (rest.map D.str) μ,
      ⟨xs.length, rfl, Nat.zero_le _, as0, G0, μ, _, 0, [], ss, rfl, fun z => by simp, Nat.le_refl _, fun s hs => (by cases hs), ?_, ⟨[], by simp⟩, Same.refl _, ?_, upd_same, h⟩, ?_⟩
    · exact ⟨n0.pre, n0.gr, fun a ha => by rw [upd_ne (np a ha)]; exact n0.kp a ha⟩
    · exact (R0.junk hp _).1.guard gp (by rw [upd_same]; simp) pas
    rintro i m H' ⟨rfl, hi', as', G', μ', M, n, done, rest, ey, hM, hn, oks, n', a', s', R', hH, l'⟩
    obtain ⟨go, stop⟩ := it i _ as' ρ μ' σ G' H' s' a' trivial R'
    cases e : xs[i]? with
    | none =>
      have hd : xs.drop i = [] := List.drop_eq_nil_of_le (List.getElem?_eq_none_iff.mp e)
      rw [hd] at l'
      have rn : rest = [] ∧ μ' = μ := by
        generalize hr : rest.map D.str = rs at l'
        cases l'
        exact ⟨List.map_eq_nil_iff.mp hr, rfl⟩
      obtain ⟨rn, rm⟩ := rn
      subst rn rm
      rw [List.append_nil] at ey
      subst ey
      refine .inl ⟨stop e, p, M, n, rfl, hH, by omega, fun ys pp nd sd hm hpp => ?_⟩
      have ey : ys = srtU ss := srtU_eq sd nd fun z => (hm z).trans (hM z)
      subst ey
      have Rw := R'.weak (P := P) fun a ha => .inl ha
      obtain ⟨R3, n3⟩ := Rw.imm hpp (.lst ((srtU ss).map V.str))
      refine q _ as' _ _ (n'.trans n3) R3 ⟨?_, pp, _, rfl, upd_same, RepL.ofStrs fun s hs => oks s ((hm s).mp hs |> (hM s).mp)⟩
      rw [List.length_map]
      unfold srtU
      rw [srt_len]
      exact Nat.le_trans (len_once _) (Nat.le_trans (Nat.le_of_lt hz) (by decide))
    | some d =>
      have hlt : i < xs.length := (List.getElem?_eq_some_iff.mp e).1
      have hd : xs.drop i = d :: xs.drop (i + 1) := by
        rw [List.drop_eq_getElem_cons hlt]
        have := (List.getElem?_eq_some_iff.mp e).2
        rw [this]
      obtain ⟨hgo, hy⟩ := go d e
      refine .inr ⟨hgo, _, fun H2 z => ⟨xs.length - (i + 1), by omega, z⟩, fun x H2 y => ?_⟩
      obtain ⟨G2, n2, R2, r2⟩ := hy x H2 y
      rw [hd] at l'
      have np2 : ∀ a, P a → P a ∨ a = p := fun a ha => .inl ha
      generalize hr : rest.map D.str = rs at l'
      cases l' with
      | skip hg ht hC hl =>
        subst hr
        refine hg _ as' μ' _ G2 H2 x (R2.wipe vs) r2 _ fun σ3 R3 e3 => ⟨e3.trans wipe_wipe, ht _ as' σ3 G2 H2 R3 _ fun as4 G4 H4 n4 R4 => iteF ?_⟩
        refine ⟨rfl, hlt, as4, G4, _, M, n, done, rest, ey, hM, hn, oks, n'.trans ((n2.trans n4).weak np2), pre_tr a' n4.pre, s'.trans (n2.gr.trans n4.gr), ?_, ?_, hl⟩
        · exact R4.to R2.sz fun k w hk => by
            obtain ⟨v, h1, h2⟩ := R2.env k w hk
            exact ⟨v, h1, h2.mono n4.gr n4.pre⟩
        · exact (n4.kp p (.inr rfl)).trans ((n2.kp p (.inr rfl)).trans hH)
      | take hg ht hv hC hl =>
        rename_i yv ys' ρ1 μ1' μ2'
        cases rest with
        | nil => cases hr
        | cons z rest' =>
          rw [List.map_cons] at hr
          injection hr with hr1 hr2
          subst hr1 hr2
          refine hg _ as' μ' _ G2 H2 x (R2.wipe vs) r2 _ fun σ3 R3 e3 => ⟨e3.trans wipe_wipe, ht _ as' σ3 G2 H2 R3 _ fun as4 G4 H4 n4 R4 => iteT ?_⟩
          refine hv _ as4 σ3 G4 H4 R4 _ fun v5 as5 G5 H5 n5 R5 ⟨ev5, ok5⟩ => ?_
          have ng := (n2.trans n4).trans n5
          have h5 : H5 p = some (SetSO wd p M n) := (ng.kp p (.inr rfl)).trans hH
          have nl : n + 1 < scanBound := by
            rw [ey, List.length_append] at hz
            have : scanBound = 4096 := rfl
            omega
          refine ⟨z, M, n, ev5, h5, nl, ?_⟩
          refine ⟨rfl, hlt, as5, G5, _, _, _, done ++ [z], rest', by rw [ey, List.append_assoc]; rfl, fun c => ?_, ?_, ?_, ?_, pre_tr a' (n4.trans n5).pre, s'.trans ng.gr, ?_, upd_same, hl⟩
          · rw [Bool.or_eq_true, decide_eq_true_eq, hM c, List.mem_append, List.mem_singleton]
          · rw [List.length_append, List.length_singleton]
            split <;> omega
          · intro s hs
            rcases List.mem_append.mp hs with c | c
            · exact oks s c
            · rw [List.mem_singleton.mp c]; exact ok5
          · have n6 := n'.trans (ng.weak np2)
            exact ⟨n6.pre, n6.gr, fun a ha => by rw [upd_ne (np a ha)]; exact n6.kp a ha⟩
          · have R6 : Rl K G5 H5 as5 (fun a => P a ∨ a = p) ρ μ2' σ := R5.to R2.sz fun k w hk => by
              obtain ⟨v, h1, h2⟩ := R2.env k w hk
              exact ⟨v, h1, h2.mono (n4.gr.trans n5.gr) (n4.trans n5).pre⟩
            exact R6.touch (.inr rfl) _
end
end DK

/-! DK7: mutable lists, the deal's own shapes, index, wrappers for printed derivations. -/
namespace DK
open PySem PySem.Spec PyProof.Rows L2

section
variable {K : PySem.W.Frag} {ρ ρ1 ρ2 : Env'} {μ μ1 μ2 μ3 : Mu} {ta tb te tc : TE} {w : W} {a b d : D} {i : Nat}

theorem new_loc {G H : Hp} {as : List Addr} {P : Addr → Prop} {σ : L2.St} {p : Addr} {o : HO} {m : MO} (R : Rl K G H as P ρ μ σ) (hp : H p = none) (hm : MOk K G (upd H p o) (as ++ [p]) p m) (hb : m.below (μ.length + 1) = true) {Q : VK}
    (q : ∀ v as' G' H', Nx P as G H as' G' H' → Rl K G' H' as' P ρ (μ ++ [m]) σ → RepW K G' as' (.loc μ.length) v → Q v H') : Q (.ref p) (upd H p o) := by
  obtain ⟨R2, n2⟩ := R.mut hp hm hb
  exact q _ _ _ _ n2 R2 ⟨p, by rw [List.getElem?_append_right (by rw [R.len]; exact Nat.le_refl _), R.len]; simp, rfl⟩
/-- [a, ..] with things of the store -/
theorem ev_lsW {t : TA} {ws : List W} (h : EvA K t ρ μ ws μ1) (hz : ws.length ≤ LB) (hb : ∀ w ∈ ws, w.below μ1.length = true) : Ev K (tLst t) ρ μ (.loc μ1.length) (μ1 ++ [.lsW ws]) := fun P as σ G H R Q q =>
  h P as σ G H R _ fun vs as1 G1 H1 n1 R1 r1 => by
    refine ⟨by rw [r1.length]; exact Nat.le_trans hz (by decide), fun p hp => ?_⟩
    have hp' := R1.sub.free hp
    refine new_loc R1 hp (m := .lsW ws) (o := .lst vs) ⟨hp', hz, vs, upd_same, r1.mono (Same.refl _) ⟨[p], rfl⟩⟩ ?_ fun v as' G' H' n R' r => q v as' G' H' (n1.trans n) R' r
    exact List.all_eq_true.mpr fun x hx => by
      have := hb x hx
      cases x with
      | val d => rfl
      | loc j => exact decide_eq_true (Nat.lt_succ_of_lt (of_decide_eq_true this))
/-- e[::-1], to be changed -/
theorem ev_revM {xs : List D} (h : Ev K te ρ μ (.val (.lst xs)) μ1) : Ev K (tRevL K te) ρ μ (.loc μ1.length) (μ1 ++ [.lst xs.reverse]) := fun P as σ G H R Q q =>
  h P as σ G H R _ fun v as1 G1 H1 n1 R1 ⟨z, a, vs, ev, g, hr⟩ => ⟨a, vs, ev, SqL.of (R1.sub _ _ g), fun p hp =>
    new_loc R1 hp (m := .lst xs.reverse) (o := .lst vs.reverse) ⟨R1.sub.free hp, by rw [List.length_reverse]; exact z, _, upd_same, hr.reverse⟩ rfl fun v as' G' H' n R' r => q v as' G' H' (n1.trans n) R' r⟩
/-- lists, of the store or not -/
inductive SeqL' (μ : Mu) : W → List D → Prop where
  | lst {xs : List D} : SeqL' μ (.val (.lst xs)) xs
  | loc {j : Nat} {xs : List D} : μ[j]? = some (.lst xs) → SeqL' μ (.loc j) xs
  | frz {j : Nat} {xs : List D} : μ[j]? = some (.frz xs) → SeqL' μ (.loc j) xs
theorem SeqL'.here {G H : Hp} {as : List Addr} {P : Addr → Prop} {σ : L2.St} {xs : List D} {v : V} (R : Rl K G H as P ρ μ σ) (h : SeqL' μ w xs) (r : RepW K G as w v) : ∃ a vs, v = .ref a ∧ H a = some (.lst vs) ∧ RepL K G xs vs ∧ xs.length ≤ LB := by
  cases h with
  | lst => obtain ⟨z, a, vs, e, g, q⟩ := r; exact ⟨a, vs, e, R.sub _ _ g, q, z⟩
  | loc hm =>
    obtain ⟨a, ha, e⟩ := r
    obtain ⟨vs, h1, h2, z⟩ := at_loc R ha (.inl hm)
    exact ⟨a, vs, e, h1, h2, z⟩
  | frz hm =>
    obtain ⟨a, ha, e⟩ := r
    obtain ⟨vs, h1, h2, z⟩ := at_loc R ha (.inr hm)
    exact ⟨a, vs, e, h1, h2, z⟩
/-- a + b of lists -/
theorem add_core {w1 w2 : W} {xs ys : List D} (ha : Ev K ta ρ μ w1 μ1) (hb : Ev K tb ρ μ1 w2 μ2) (h1 : SeqL' μ2 w1 xs) (h2 : SeqL' μ2 w2 ys) (hz : xs.length + ys.length ≤ LB) {w : W} {μ3 : Mu}
    (q0 : ∀ (P : Addr → Prop) (as : List Addr) (σ : L2.St) (G H : Hp) (p : Addr) (vs : List V), Rl K G H as P ρ μ2 σ → H p = none → RepL K G (xs ++ ys) vs → ∀ Q : VK, (∀ v as' G' H', Nx P as G H as' G' H' → Rl K G' H' as' P ρ μ3 σ → RepW K G' as' w v → Q v H') → Q (.ref p) (upd H p (.lst vs))) :
    Ev K (tOp (rPlus K) ta tb) ρ μ w μ3 := fun P as σ G H R Q q =>
  ha P as σ G H R _ fun x as1 G1 H1 n1 R1 r1 => hb P as1 σ G1 H1 R1 _ fun y as2 G2 H2 n2 R2 r2 => by
    obtain ⟨a, vs, ex, ga, ra, _⟩ := h1.here R2 (r1.mono n2.gr n2.pre)
    obtain ⟨b, us, ey, gb, rb, _⟩ := h2.here R2 r2
    refine .inr (.inr (.inl ⟨a, b, vs, us, ex, ey, ga, gb, ?_, fun p hp => ?_⟩))
    · rw [ra.length, rb.length]
      exact Nat.le_trans hz (by decide)
    · exact q0 P as2 σ G2 H2 p (vs ++ us) R2 hp (ra.append rb) Q fun v as' G' H' n R' r => q v as' G' H' ((n1.trans n2).trans n) R' r
theorem ev_addL {w1 w2 : W} {xs ys : List D} (ha : Ev K ta ρ μ w1 μ1) (hb : Ev K tb ρ μ1 w2 μ2) (h1 : SeqL' μ2 w1 xs) (h2 : SeqL' μ2 w2 ys) (hz : xs.length + ys.length ≤ LB) : Ev K (tOp (rPlus K) ta tb) ρ μ (.val (.lst (xs ++ ys))) μ2 :=
  add_core ha hb h1 h2 hz fun P as σ G H p vs R hp r Q q => by
    obtain ⟨R2, n2⟩ := R.imm hp (.lst vs)
    exact q _ as _ _ n2 R2 ⟨by rw [List.length_append]; exact hz, p, vs, rfl, upd_same, RepL.mono n2.gr _ _ r⟩
theorem ev_addM {w1 w2 : W} {xs ys : List D} (ha : Ev K ta ρ μ w1 μ1) (hb : Ev K tb ρ μ1 w2 μ2) (h1 : SeqL' μ2 w1 xs) (h2 : SeqL' μ2 w2 ys) (hz : xs.length + ys.length ≤ LB) : Ev K (tOp (rPlus K) ta tb) ρ μ (.loc μ2.length) (μ2 ++ [.lst (xs ++ ys)]) :=
  add_core ha hb h1 h2 hz fun P as σ G H p vs R hp r Q q => new_loc R hp (m := .lst (xs ++ ys)) (o := .lst vs) ⟨R.sub.free hp, by rw [List.length_append]; exact hz, _, upd_same, r⟩ rfl q
/-- a slice of the script -/
theorem ev_slScr {ns : List Int} {tl th : TO} {lo hi : Option Int} (h : Ev K te ρ μ (.val (.scr ns)) μ1) (hz : ns.length ≤ LB) (hl : EvO K tl ρ μ1 lo) (hh : EvO K th ρ μ1 hi) : Ev K (tSl (rSlc K) te tl th) ρ μ (.val (.lst (cutD (ns.map D.int) lo hi))) μ1 := fun P as σ G H R Q q =>
  h P as σ G H R _ fun v as1 G1 H1 n1 R1 r1 => hl P as1 σ G1 H1 R1 _ fun as2 G2 H2 n2 R2 => hh P as2 σ G2 H2 R2 _ fun as3 G3 H3 n3 R3 => by
    have n := (n1.trans n2).trans n3
    obtain ⟨a, ev, hs⟩ := Rep.mono (n2.trans n3).gr _ _ r1
    refine .inl ⟨a, _, ev, same_sql R3.sub hs, fun p hp => ?_⟩
    obtain ⟨R4, n4⟩ := R3.imm hp (.lst (cutV (ns.map V.int) lo hi))
    refine q _ as3 _ _ (n.trans n4) R4 ⟨Nat.le_trans cut_len (by rw [List.length_map]; exact hz), p, _, rfl, upd_same, cut_rep RepL.ofInts⟩
/-- e[n], a list with things of the store -/
theorem atI_repW {G : Hp} {as : List Addr} {ds : List W} {vs : List V} {i : Int} {d : W} (r : RepWs K G as ds vs) (h : atI ds i = some d) : ∃ v, atI vs i = some v ∧ RepW K G as d v := by
  unfold atI at h ⊢
  rw [r.length]
  cases e : ixN ds.length i with
  | none => rw [e] at h; cases h
  | some j =>
    rw [e] at h
    exact r.get h
theorem ev_ixW {j : Nat} {ws : List W} {n : Int} (ha : Ev K ta ρ μ (.loc j) μ1) (hb : Ev K tb ρ μ1 (.val (.int n)) μ2) (hm : μ2[j]? = some (.lsW ws)) (h : atI ws n = some w) : Ev K (tOp (rIx K) ta tb) ρ μ w μ2 := fun P as σ G H R Q q =>
  ha P as σ G H R _ fun v as1 G1 H1 n1 R1 ⟨a, ha', ev⟩ => hb P as1 σ G1 H1 R1 _ fun y as2 G2 H2 n2 R2 r2 => by
    obtain ⟨_, _, vs, h1, h2⟩ := R2.mu j a _ (at_pre n2.pre ha') hm
    obtain ⟨u, h3, h4⟩ := atI_repW h2 h
    exact .inl ⟨a, vs, n, u, ev, r2, SqL.of h1, h3, q _ as2 G2 H2 (n1.trans n2) R2 h4⟩
theorem RepWs.set {G : Hp} {as : List Addr} {w : W} {v : V} (rv : RepW K G as w v) : ∀ {ws : List W} {vs : List V} (k : Nat), RepWs K G as ws vs → RepWs K G as (ws.set k w) (vs.set k v)
  | [], _, _, h => by rw [show _ = [] from h]; exact rfl
  | _ :: _, _, 0, ⟨u, r, e, _, h2⟩ => by subst e; exact ⟨v, r, rfl, rv, h2⟩
  | _ :: _, _, k + 1, ⟨u, r, e, h1, h2⟩ => by subst e; exact ⟨u, _, rfl, h1, RepWs.set rv k h2⟩
theorem ex_setW {j k : Nat} {ws : List W} {n : Int} (hv : Ev K te ρ μ w μ1) (ho : Ev K ta ρ μ1 (.loc j) μ2) (hi : Ev K tb ρ μ2 (.val (.int n)) μ3) (hm : μ3[j]? = some (.lsW ws)) (hk : ixN ws.length n = some k) (hw : w.below μ3.length = true) : Ex K (tAsg te (gSub ta tb rSetL)) ρ μ (.nx ρ (μ3.set j (.lsW (ws.set k w)))) := fun P as σ G H R E q =>
  hv P as σ G H R _ fun v as1 G1 H1 n1 R1 r1 => ho P as1 σ G1 H1 R1 _ fun o as2 G2 H2 n2 R2 ⟨a, ha', ev⟩ => hi P as2 σ G2 H2 R2 _ fun x as3 G3 H3 n3 R3 r3 => by
    have ha3 := at_pre n3.pre ha'
    obtain ⟨g, z, vs, hh, rl⟩ := R3.mu j a _ ha3 hm
    refine ⟨a, vs, n, k, ev, r3, hh, by rw [rl.length]; exact hk, ?_⟩
    have rv := r1.mono (n2.trans n3).gr (n2.trans n3).pre
    have hb : ∀ x ∈ ws.set k w, x.below μ3.length = true := fun x hx => by
      rcases List.mem_or_eq_of_mem_set hx with h | h
      · exact List.all_eq_true.mp (R3.wf _ (List.mem_of_getElem? hm)) x h
      · rw [h]; exact hw
    obtain ⟨R4, n4⟩ := R3.put (o := .lst (vs.set k v)) (m' := .lsW (ws.set k w)) ha3 hm g ⟨g, by rw [List.length_set]; exact z, _, upd_same, rl.set rv k⟩ (List.all_eq_true.mpr hb)
    exact q as3 σ G3 _ (((n1.trans n2).trans n3).trans n4) R4
/-- == and != of a list of the store with data -/
theorem ev_eqM {w1 : W} {xs : List D} (ha : Ev K ta ρ μ w1 μ1) (hb : Ev K tb ρ μ1 (.val b) μ2) (hm : SeqL' μ2 w1 xs) (h1 : pyOk (.lst xs) = true) (h2 : pyOk b = true) (d1 : (toPy (.lst xs)).depth ≤ 64) (d2 : (toPy b).depth ≤ 64) : Ev K (tOp (rEqq K) ta tb) ρ μ (.val (.bl (eqP (.lst xs) b))) μ2 := fun P as σ G H R Q q =>
  ha P as σ G H R _ fun x as1 G1 H1 n1 R1 r1 => hb P as1 σ G1 H1 R1 _ fun y as2 G2 H2 n2 R2 r2 => by
    obtain ⟨a, vs, ex, ga, ra, _⟩ := hm.here R2 (r1.mono n2.gr n2.pre)
    exact .inr ⟨_, _, by rw [ex]; exact .lst (SqL.of ga) (dp_ofL R2.sub xs vs h1 ra), dp_of R2.sub b y h2 r2, Bool.and_eq_true_iff.mpr ⟨(show (toPy (.lst xs)).canLay0 = true from lay_ofL _ _ ra), decide_eq_true d1⟩, Bool.and_eq_true_iff.mpr ⟨lay_of b y r2, decide_eq_true d2⟩, q _ as2 G2 H2 (n1.trans n2) R2 rfl⟩
theorem ev_neM {w1 : W} {xs : List D} (ha : Ev K ta ρ μ w1 μ1) (hb : Ev K tb ρ μ1 (.val b) μ2) (hm : SeqL' μ2 w1 xs) (h1 : pyOk (.lst xs) = true) (h2 : pyOk b = true) (d1 : (toPy (.lst xs)).depth ≤ 64) (d2 : (toPy b).depth ≤ 64) : Ev K (tOp (rNee K) ta tb) ρ μ (.val (.bl (!eqP (.lst xs) b))) μ2 := fun P as σ G H R Q q =>
  ha P as σ G H R _ fun x as1 G1 H1 n1 R1 r1 => hb P as1 σ G1 H1 R1 _ fun y as2 G2 H2 n2 R2 r2 => by
    obtain ⟨a, vs, ex, ga, ra, _⟩ := hm.here R2 (r1.mono n2.gr n2.pre)
    exact .inr ⟨_, _, by rw [ex]; exact .lst (SqL.of ga) (dp_ofL R2.sub xs vs h1 ra), dp_of R2.sub b y h2 r2, Bool.and_eq_true_iff.mpr ⟨(show (toPy (.lst xs)).canLay0 = true from lay_ofL _ _ ra), decide_eq_true d1⟩, Bool.and_eq_true_iff.mpr ⟨lay_of b y r2, decide_eq_true d2⟩, q _ as2 G2 H2 (n1.trans n2) R2 rfl⟩
theorem pyOkL_ints : ∀ {ns : List Int}, pyOkL (ns.map D.int) = true
  | [] => rfl
  | _ :: ns => pyOkL_ints (ns := ns)
theorem depth_ints : ∀ {ns : List Int}, (toPy (.lst (ns.map D.int))).depth ≤ 64 := by
  intro ns
  have : ∀ ns : List Int, PyData.depthAll (toPyL (ns.map D.int)) ≤ 2 := by
    intro ns
    induction ns with
    | nil => decide
    | cons n ns ih =>
      show max (PyData.depth (.int n)) (PyData.depthAll (toPyL (ns.map D.int))) ≤ 2
      exact Nat.max_le.mpr ⟨by simp [PyData.depth], ih⟩
  have h := this ns
  show PyData.depthAll (toPyL (ns.map D.int)) + 1 ≤ 64
  omega
/-- e.index(x), a list of texts -/
theorem ev_indexS {w1 : W} {ss : List Str} {s : Str} {t : TA} (ho : Ev K ta ρ μ w1 μ1) (ha : EvD K t ρ μ1 [.str s] μ1) (hw : SeqL' μ1 w1 (ss.map D.str)) (hs : s ∈ ss) : Ev K (tBM K "list" (rIndex K) ta t) ρ μ (.val (.int (ss.idxOf s : Nat))) μ1 := fun P as σ G H R Q q =>
  ho P as σ G H R _ fun v as1 G1 H1 n1 R1 r1 => by
    obtain ⟨a0, vs0, ev0, g0, _, _⟩ := hw.here R1 r1
    subst ev0
    refine ⟨.inl ⟨rfl, _, SqL.of g0⟩, ha P as1 σ G1 H1 R1 _ fun us as2 G2 H2 n2 R2 r2 => ?_⟩
    obtain ⟨u, eu, ⟨e2, _⟩⟩ := repL1 (RepWs.vals.mp r2)
    obtain ⟨a, vs, ev, g, hr, _⟩ := hw.here R2 (r1.mono n2.gr n2.pre)
    obtain ⟨evs, _⟩ := hr.strs
    subst evs
    have hi : ss.idxOf s < ss.length := List.idxOf_lt_length_of_mem hs
    refine ⟨a, _, u, ss.idxOf s, .str s, ev, eu, SqL.of g, by rw [e2]; rfl, flat_strs, ?_, ?_, fun m z' hm hz => ?_, q _ as2 G2 H2 (n1.trans n2) R2 rfl⟩
    · rw [List.getElem?_map, List.getElem?_eq_getElem hi, List.getElem_idxOf]; rfl
    · rw [e2]; show (s == s) = true; simp
    · rw [List.getElem?_map] at hz
      cases e : ss[m]? with
      | none => rw [e] at hz; cases hz
      | some x =>
        rw [e] at hz
        cases hz
        rw [e2]
        show (x == s) = false
        have hml : m < ss.length := (List.getElem?_eq_some_iff.mp e).1
        have hx := List.not_of_lt_findIdx hm
        rw [List.getElem?_eq_getElem hml] at e
        cases e
        simpa using hx
/-! ### augmented assignment of ints -/
def rAug : TIp := ipI fun i j => i + j
theorem ip_aug {X : Cx} : PIp X .Add rAug := ip_add
theorem ex_aug {m n : Int} (hi : ρ[i]? = some (some (.val (.int m)))) (h : Ev K te ρ μ (.val (.int n)) μ1) : Ex K (tAug i te rAug) ρ μ (.nx (ρ.set i (some (.val (.int (m + n))))) μ1) := fun P as σ G H R E q => by
  obtain ⟨v, h1, h2⟩ := R.env i _ hi
  exact ⟨v, h1, h P as σ G H R _ fun y as1 G1 H1 n1 R1 r1 => ⟨m, n, h2, r1, q as1 _ G1 H1 n1 (R1.set (w := .val (.int (m + n))) rfl)⟩⟩
end

/-! ### wrappers for printed derivations -/
section
variable {X : Cx}
theorem pe_lstM {l : List Expr} {t : TA} {pos : Pos} (h : PA X l t) : PE X (.List l pos) (tLstM t) := pe_lst h
end
end DK

/-! DK8: short ways. -/
namespace DK
open PySem PySem.Spec PyProof.Rows L2

section
variable {K : PySem.W.Frag} {ρ ρ1 ρ2 : Env'} {μ μ1 μ2 μ3 : Mu} {ta tb te tc : TE} {w : W} {a b d : D} {i : Nat} {ts us vs : TS} {t : TT} {o : Out}

theorem ex_guard {k : Bool} (hc : EvB K t ρ μ k μ1) (ha : k = true → Ex K ts ρ μ1 (.rt w μ2)) (hb : k = false → Ex K us ρ μ1 (.rt w μ2)) : Ex K (tSeq (tIfS t ts tNext) us) ρ μ (.rt w μ2) :=
  ex_ifSeq hc (fun h => ex_seqR (ha h)) fun h => ex_nextSeq (hb h)
/-- if .. : raise, that is not taken -/
theorem ex_pass {k : Bool} (hc : EvB K t ρ μ k μ1) (hk : k = false) (hb : Ex K us ρ μ1 o) : Ex K (tSeq (tIfS t ts tNext) us) ρ μ o :=
  ex_ifSeq hc (fun h => by rw [hk] at h; cases h) fun h => ex_nextSeq hb
theorem ex_pass1 {k : Bool} (hc : EvB K t ρ μ k μ1) (hk : k = false) : Ex K (tIfS t ts tNext) ρ μ (.nx ρ μ1) :=
  ex_if hc (fun h => by rw [hk] at h; cases h) fun h => ex_next
theorem ex_retv {w' : W} (h : Ev K te ρ μ w μ1) (e : w = w') : Ex K (tRet te) ρ μ (.rt w' μ1) := e ▸ ex_ret h
theorem ev_ty {n : String} : Ev K (tC (.ty n)) ρ μ (.val (.ty n)) μ := fun P as σ G H R Q q => q _ as G H .refl R rfl
theorem ev_cls {c : Str} : Ev K (tC (.ref (He.ga K c))) ρ μ (.val (.cls c)) μ := fun P as σ G H R Q q => q _ as G H .refl R rfl
theorem ev_strs {a : Addr} {ss : List Str} (h : ∀ H, SqT K H a (ss.map V.str)) (hk : ∀ s ∈ ss, sOk s) (hz : ss.length ≤ LB) : Ev K (tC (.ref a)) ρ μ (.val (.tup (ss.map D.str))) μ :=
  ev_wtup h (fun G => RepL.ofStrs hk) (by rw [List.length_map]; exact hz)
/-- a comprehension over mapped data -/
theorem lc_on {α : Type} {g : TG} {vs : List Nat} {C : Mu → Prop} (hC : C μ) {f h : α → D} : ∀ {l : List α}, (∀ x ∈ l, ∃ ρ1, EvGc K g (f x) vs ρ ρ1 ∧ Ev K te ρ1 μ (.val (h x)) μ) → Lc K g tYes te vs C ρ (l.map f) μ (l.map h) μ
  | [], _ => .nil
  | x :: xs, k => by
    obtain ⟨ρ1, h1, h3⟩ := k x (by simp)
    exact .take h1 eb_yes h3 hC (lc_on hC fun y hy => k y (List.mem_cons_of_mem _ hy))
theorem lc_onIf {α : Type} {g : TG} {tt : TT} {vs : List Nat} {C : Mu → Prop} (hC : C μ) {f h : α → D} {p : α → Bool} : ∀ {l : List α}, (∀ x ∈ l, ∃ ρ1, EvGc K g (f x) vs ρ ρ1 ∧ EvB K tt ρ1 μ (p x) μ ∧ (p x = true → Ev K te ρ1 μ (.val (h x)) μ)) → Lc K g tt te vs C ρ (l.map f) μ ((l.filter p).map h) μ
  | [], _ => .nil
  | x :: xs, k => by
    obtain ⟨ρ1, h1, h2, h3⟩ := k x (by simp)
    have ih : Lc K g tt te vs C ρ (xs.map f) μ ((xs.filter p).map h) μ := lc_onIf hC fun y hy => k y (List.mem_cons_of_mem _ hy)
    cases e : p x with
    | true =>
      rw [List.filter_cons_of_pos e, List.map_cons]
      exact .take h1 (e ▸ h2) (h3 e) hC ih
    | false =>
      rw [List.filter_cons_of_neg (by rw [e]; exact Bool.false_ne_true)]
      exact .skip h1 (e ▸ h2) hC ih
/-- all([e for x in ..]) -/
theorem ev_all {α : Type} {wi : TI} {g : TG} {vs : List Nat} {C : Mu → Prop} {f : α → D} {p : α → Bool} {l : List α} (hi : EvI K wi ρ μ (l.map f) μ1 C) (h : ∀ x ∈ l, ∃ ρ1, EvGc K g (f x) vs (wipeE ρ vs) ρ1 ∧ Ev K te ρ1 μ1 (.val (.bl (p x))) μ1) (hz : l.length ≤ LB) :
    Ev K (tCB (rAll K) (tCons (tLc wi g tYes te vs) tNil)) ρ μ (.val (.bl (l.all p))) μ1 := by
  have h1 := ev_lc hi (lc_on (h := fun x => D.bl (p x)) hi.1 h) (by rw [List.length_map]; exact hz)
  have e : l.map (fun x => D.bl (p x)) = (l.map p).map D.bl := by rw [List.map_map]; rfl
  rw [e] at h1
  refine ev_to (ev_cb (ed_cons h1 ed_nil) c_all) ?_
  rw [List.all_map]
  rfl
theorem ev_allI {wi : TI} {g : TG} {vs : List Nat} {C : Mu → Prop} {p : D → Bool} {l : List D} (hi : EvI K wi ρ μ l μ1 C) (h : ∀ x ∈ l, ∃ ρ1, EvGc K g x vs (wipeE ρ vs) ρ1 ∧ Ev K te ρ1 μ1 (.val (.bl (p x))) μ1) (hz : l.length ≤ LB) :
    Ev K (tCB (rAll K) (tCons (tLc wi g tYes te vs) tNil)) ρ μ (.val (.bl (l.all p))) μ1 := ev_all (f := fun x => x) (by rw [List.map_id']; exact hi) h hz
/-- lists of texts: depth, pyOk -/
theorem pyOkL_strs : ∀ {ns : List Str}, pyOkL (ns.map D.str) = true
  | [] => rfl
  | _ :: ns => pyOkL_strs (ns := ns)
theorem depthAll_strs : ∀ (ns : List Str), PyData.depthAll (toPyL (ns.map D.str)) ≤ 2
  | [] => by decide
  | n :: ns => by
    show max (PyData.depth (.str n)) (PyData.depthAll (toPyL (ns.map D.str))) ≤ 2
    exact Nat.max_le.mpr ⟨by simp [PyData.depth], depthAll_strs ns⟩
theorem depth_strs {ns : List Str} : (toPy (.lst (ns.map D.str))).depth ≤ 64 := by
  have h := depthAll_strs ns
  show PyData.depthAll (toPyL (ns.map D.str)) + 1 ≤ 64
  omega
theorem depth_strsT {ns : List Str} : (toPy (.tup (ns.map D.str))).depth ≤ 64 := by
  have h := depthAll_strs ns
  show PyData.depthAll (toPyL (ns.map D.str)) + 1 ≤ 64
  omega
theorem eqvAll_strs : ∀ (a b : List Str), PyData.eqvAll (toPyL (a.map D.str)) (toPyL (b.map D.str)) = decide (a = b)
  | [], [] => rfl
  | [], _ :: _ => rfl
  | _ :: _, [] => rfl
  | x :: a, y :: b => by
    show (PyData.eqv (.str x) (.str y) && PyData.eqvAll (toPyL (a.map D.str)) (toPyL (b.map D.str))) = _
    rw [eqvAll_strs a b]
    show ((x == y) && decide (a = b)) = _
    by_cases h : x = y
    · subst h; simp
    · simp [h]
theorem eqP_strsL {a b : List Str} : eqP (.lst (a.map D.str)) (.lst (b.map D.str)) = decide (a = b) := eqvAll_strs a b
theorem eqP_strsT {a b : List Str} : eqP (.tup (a.map D.str)) (.tup (b.map D.str)) = decide (a = b) := eqvAll_strs a b
theorem o_eqSL {a b : List Str} : Op2 K (rEqq K) (.lst (a.map D.str)) (.lst (b.map D.str)) (.bl (decide (a = b))) := by
  have := o_eqP (K := K) (a := .lst (a.map D.str)) (b := .lst (b.map D.str)) pyOkL_strs pyOkL_strs depth_strs depth_strs
  rw [eqP_strsL] at this
  exact this
mutual
theorem eqv_refl : ∀ d : D, PyData.eqv (toPy d) (toPy d) = true
  | .non => rfl
  | .bl b => by cases b <;> rfl
  | .int i => by show (i == i) = true; simp
  | .str s => by show (s == s) = true; simp
  | .tup xs => eqv_reflL xs
  | .lst xs => eqv_reflL xs
  | .obj _ _ _ => rfl
  | .ty _ => rfl
  | .cls _ => rfl
  | .scr _ => rfl
theorem eqv_reflL : ∀ l : List D, PyData.eqvAll (toPyL l) (toPyL l) = true
  | [] => rfl
  | x :: xs => Bool.and_eq_true_iff.mpr ⟨eqv_refl x, eqv_reflL xs⟩
end
theorem eqP_refl (d : D) : eqP d d = true := eqv_refl d
theorem ev_ifS {p : Prop} [Decidable p] {a b : Str} (hc : EvB K t ρ μ (decide p) μ1) (ha : sOk a := by exact ⟨by decide +kernel, by decide +kernel⟩) (hb : sOk b := by exact ⟨by decide +kernel, by decide +kernel⟩) : Ev K (tIf t (tC (.str a)) (tC (.str b))) ρ μ (.val (.str (if p then a else b))) μ1 := by
  refine ev_to (ev_ifD hc (fun _ => ev_str ha) fun _ => ev_str hb) ?_
  by_cases q : p <;> simp [q]
/-- subscripts of lists of texts -/
theorem at_map {α : Type} {f : α → D} {l : List α} {n : Int} {x : α} (h : atI l n = some x) : atI (l.map f) n = some (f x) := by
  unfold atI at h ⊢
  rw [List.length_map]
  cases e : ixN l.length n with
  | none => rw [e] at h; cases h
  | some j => rw [e] at h; simp only [Option.bind] at h ⊢; rw [List.getElem?_map, h]; rfl
theorem o_ixLm {α : Type} {f : α → D} {l : List α} {n : Int} {x : α} (h : atI l n = some x) : Op2 K (rIx K) (.lst (l.map f)) (.int n) (f x) := o_ixL (at_map h)
theorem o_ixTm {α : Type} {f : α → D} {l : List α} {n : Int} {x : α} (h : atI l n = some x) : Op2 K (rIx K) (.tup (l.map f)) (.int n) (f x) := o_ixT (at_map h)
/-! ### split -/
theorem spl_ne (S : List Nat) : ∀ (k : Nat) (acc l : List Nat), TL.spl S k acc l ≠ []
  | k, acc, [] => by rw [TL.spl_nil]; simp
  | 0, acc, c :: r => by
    cases e : TL.pre S (c :: r) with
    | true => rw [TL.spl_hit e]; simp
    | false => rw [TL.spl_miss e]; exact spl_ne S 0 _ r
  | k + 1, acc, c :: r => spl_ne S k acc r
/-- the words of a text -/
def wds (s : Str) : List Str := Txt.split s " "
theorem sp_ne : TL.tl (" " : Str) ≠ [] := by decide +kernel
theorem sp_k : (" " : Str).cps.all (· < 256) = true := by decide +kernel
theorem wds_ne (s : Str) : wds s ≠ [] := fun e => by
  have h := TL.split_spl s " " sp_ne (TL.kind_ok sp_k)
  rw [show Txt.split s " " = [] from e] at h
  exact spl_ne _ _ _ _ h.symm
theorem wds_ok {s : Str} (h : sOk s) : ∀ p ∈ wds s, sOk p := (split_ok sp_ne sp_k h).1
theorem ev_wds {s : Str} (ho : Ev K te ρ μ (.val (.str s)) μ1) : Ev K (tM1 rSplit te (tC (.str " "))) ρ μ (.val (.lst ((wds s).map D.str))) μ1 := ev_split ho ev_str sp_ne sp_k
/-- the first word, the last word -/
def fst (l : List Str) : Str := l.headD ""
def lst (l : List Str) : Str := l.getLastD ""
theorem atI_nat {α : Type} {l : List α} {k : Nat} {x : α} (h : l[k]? = some x) : atI l (k : Int) = some x := by
  have hl := (List.getElem?_eq_some_iff.mp h).1
  unfold atI
  have e : ixN l.length (k : Int) = some k := by
    unfold ixN
    rw [if_pos (by omega), if_pos (by omega)]
    rfl
  rw [e]
  exact h
theorem at_fst {l : List Str} (h : l ≠ []) : atI l 0 = some (fst l) := by
  cases l with
  | nil => exact absurd rfl h
  | cons x r => exact atI_nat (k := 0) rfl
theorem at_lst {l : List Str} (h : l ≠ []) : atI l (-1) = some (lst l) := by
  unfold atI
  have hl : 0 < l.length := List.length_pos_iff.mpr h
  have e : ixN l.length (-1) = some (l.length - 1) := by
    unfold ixN
    simp
    omega
  rw [e]
  show l[l.length - 1]? = some (lst l)
  unfold lst
  rw [List.getLastD_eq_getLast?, List.getLast?_eq_getElem?]
  rw [List.getElem?_eq_getElem (by omega)]
  rfl
end
/-! ### loops -/
section
variable {K : PySem.W.Frag} {ρ : Env'} {μ : Mu}
/-- a loop that returns at the first x with p x -/
theorem lp_find {α : Type} {g : TG} {tb : TS} {C : Mu → Prop} (hC : C μ) {f : α → D} {p : α → Bool} {w : α → W} {Inv : Env' → Prop} : ∀ {l : List α} {ρ : Env'}, (∀ x ρ, x ∈ l → Inv ρ → ∃ ρ1, EvG K g (.val (f x)) ρ ρ1 ∧ (p x = true → Ex K tb ρ1 μ (.rt (w x) μ)) ∧ (p x = false → ∃ ρ2, Inv ρ2 ∧ Ex K tb ρ1 μ (.nx ρ2 μ))) → Inv ρ →
    (∀ x, l.find? p = some x → Lp K g tb C (l.map f) ρ μ (.rt (w x) μ)) ∧ (l.find? p = none → ∃ ρ', Inv ρ' ∧ Lp K g tb C (l.map f) ρ μ (.nx ρ' μ))
  | [], ρ, _, hi => ⟨(fun x h => by cases h), fun _ => ⟨ρ, hi, .nil⟩⟩
  | y :: l, ρ, hb, hi => by
    obtain ⟨ρ1, h1, h2, h3⟩ := hb y ρ (by simp) hi
    cases e : p y with
    | true => exact ⟨fun x h => by rw [List.find?_cons_of_pos e] at h; cases h; exact .ret h1 (h2 e), fun h => by rw [List.find?_cons_of_pos e] at h; cases h⟩
    | false =>
      obtain ⟨ρ2, i2, h4⟩ := h3 e
      obtain ⟨k1, k2⟩ := lp_find hC (l := l) (ρ := ρ2) (fun x ρ hx => hb x ρ (List.mem_cons_of_mem _ hx)) i2
      refine ⟨fun x h => ?_, fun h => ?_⟩
      · rw [List.find?_cons_of_neg (by rw [e]; exact Bool.false_ne_true)] at h
        exact .next h1 h4 hC (k1 x h)
      · rw [List.find?_cons_of_neg (by rw [e]; exact Bool.false_ne_true)] at h
        obtain ⟨ρ', i', h'⟩ := k2 h
        exact ⟨ρ', i', .next h1 h4 hC h'⟩
/-- a loop that folds -/
theorem lp_fold {α β : Type} {g : TG} {tb : TS} {C : Mu → Prop} {f : α → D} {m : β → Mu} {step : β → α → β} {Inv : Env' → Prop} : ∀ {l : List α} {I : Nat → β → Prop} {ρ : Env'} {s : β}, (∀ n x ρ s, l[n]? = some x → Inv ρ → I n s → ∃ ρ1 ρ2, EvG K g (.val (f x)) ρ ρ1 ∧ Ex K tb ρ1 (m s) (.nx ρ2 (m (step s x))) ∧ Inv ρ2 ∧ C (m (step s x)) ∧ I (n + 1) (step s x)) → Inv ρ → I 0 s →
    ∃ ρ', Inv ρ' ∧ Lp K g tb C (l.map f) ρ (m s) (.nx ρ' (m (l.foldl step s))) ∧ I l.length (l.foldl step s)
  | [], I, ρ, s, _, hi, h0 => ⟨ρ, hi, .nil, h0⟩
  | y :: l, I, ρ, s, hb, hi, h0 => by
    obtain ⟨ρ1, ρ2, h1, h2, h3, h4, h5⟩ := hb 0 y ρ s rfl hi h0
    obtain ⟨ρ', k1, k2, k3⟩ := lp_fold (l := l) (I := fun n => I (n + 1)) (ρ := ρ2) (s := step s y) (fun n x ρ s hx => hb (n + 1) x ρ s hx) h3 h5
    exact ⟨ρ', k1, .next h1 h2 h4 k2, k3⟩
/-- a loop that keeps something -/
theorem lp_inv {α : Type} {g : TG} {tb : TS} {C : Mu → Prop} {f : α → D} : ∀ {l : List α} {I : Nat → Env' → Mu → Prop} {ρ : Env'} {μ : Mu}, (∀ n x ρ μ, l[n]? = some x → I n ρ μ → ∃ ρ1 ρ2 μ2, EvG K g (.val (f x)) ρ ρ1 ∧ Ex K tb ρ1 μ (.nx ρ2 μ2) ∧ C μ2 ∧ I (n + 1) ρ2 μ2) → I 0 ρ μ →
    ∃ ρ' μ', Lp K g tb C (l.map f) ρ μ (.nx ρ' μ') ∧ I l.length ρ' μ'
  | [], I, ρ, μ, _, h0 => ⟨ρ, μ, .nil, h0⟩
  | y :: l, I, ρ, μ, hb, h0 => by
    obtain ⟨ρ1, ρ2, μ2, h1, h2, h4, h5⟩ := hb 0 y ρ μ rfl h0
    obtain ⟨ρ', μ', k2, k3⟩ := lp_inv (l := l) (I := fun n => I (n + 1)) (ρ := ρ2) (μ := μ2) (fun n x ρ μ hx => hb (n + 1) x ρ μ hx) h5
    exact ⟨ρ', μ', .next h1 h2 h4 k2, k3⟩
/-- a statement that goes on, in a state of I -/
def ExI (K : PySem.W.Frag) (ts : TS) (ρ : Env') (μ : Mu) (I : Env' → Mu → Prop) : Prop := ∃ ρ2 μ2, Ex K ts ρ μ (.nx ρ2 μ2) ∧ I ρ2 μ2
theorem exi_of {ts : TS} {ρ2 : Env'} {μ2 : Mu} {I : Env' → Mu → Prop} (h : Ex K ts ρ μ (.nx ρ2 μ2)) (k : I ρ2 μ2) : ExI K ts ρ μ I := ⟨ρ2, μ2, h, k⟩
theorem exi_seq {ts us : TS} {ρ1 : Env'} {μ1 : Mu} {I : Env' → Mu → Prop} (h : Ex K ts ρ μ (.nx ρ1 μ1)) (k : ExI K us ρ1 μ1 I) : ExI K (tSeq ts us) ρ μ I := by
  obtain ⟨ρ2, μ2, k, i⟩ := k
  exact ⟨ρ2, μ2, ex_seq h k, i⟩
theorem exi_seqI {ts us : TS} {I J : Env' → Mu → Prop} (h : ExI K ts ρ μ J) (k : ∀ ρ1 μ1, J ρ1 μ1 → ExI K us ρ1 μ1 I) : ExI K (tSeq ts us) ρ μ I := by
  obtain ⟨ρ1, μ1, h, j⟩ := h
  exact exi_seq h (k ρ1 μ1 j)
theorem exi_pass {t : TT} {ts us : TS} {k : Bool} {μ1 : Mu} {I : Env' → Mu → Prop} (hc : EvB K t ρ μ k μ1) (hk : k = false) (hb : ExI K us ρ μ1 I) : ExI K (tSeq (tIfS t ts tNext) us) ρ μ I := by
  obtain ⟨ρ', μ', hb, i⟩ := hb
  exact ⟨ρ', μ', ex_pass hc hk hb, i⟩
theorem exi_pass1 {t : TT} {ts : TS} {k : Bool} {μ1 : Mu} {I : Env' → Mu → Prop} (hc : EvB K t ρ μ k μ1) (hk : k = false) (i : I ρ μ1) : ExI K (tIfS t ts tNext) ρ μ I := ⟨ρ, μ1, ex_pass1 hc hk, i⟩
theorem exi_if {t : TT} {ts us : TS} {k : Bool} {μ1 : Mu} {I : Env' → Mu → Prop} (hc : EvB K t ρ μ k μ1) (ha : k = true → ExI K ts ρ μ1 I) (hb : k = false → ExI K us ρ μ1 I) : ExI K (tIfS t ts us) ρ μ I := by
  cases k with
  | true =>
    obtain ⟨ρ', μ', h, i⟩ := ha rfl
    exact ⟨ρ', μ', ex_if hc (fun _ => h) (fun z => by cases z), i⟩
  | false =>
    obtain ⟨ρ', μ', h, i⟩ := hb rfl
    exact ⟨ρ', μ', ex_if hc (fun z => by cases z) (fun _ => h), i⟩
theorem exi_to {ts : TS} {I J : Env' → Mu → Prop} (h : ExI K ts ρ μ J) (k : ∀ ρ1 μ1, J ρ1 μ1 → I ρ1 μ1) : ExI K ts ρ μ I := by
  obtain ⟨ρ1, μ1, h, j⟩ := h
  exact ⟨ρ1, μ1, h, k _ _ j⟩
theorem exi_for {α : Type} {wi : TI} {g : TG} {tb : TS} {C : Mu → Prop} {f : α → D} {l : List α} {μ1 : Mu} (I : Nat → Env' → Mu → Prop) (hi : EvI K wi ρ μ (l.map f) μ1 C) (hb : ∀ n x ρ μ, l[n]? = some x → I n ρ μ → C μ → ∃ ρ1, EvG K g (.val (f x)) ρ ρ1 ∧ ExI K tb ρ1 μ fun ρ2 μ2 => C μ2 ∧ I (n + 1) ρ2 μ2) (h0 : I 0 ρ μ1) : ExI K (tFor wi g tb) ρ μ (I l.length) := by
  obtain ⟨ρ', μ', h, i⟩ := lp_inv (K := K) (g := g) (tb := tb) (C := C) (f := f) (l := l) (I := fun n ρ μ => I n ρ μ ∧ C μ) (ρ := ρ) (μ := μ1) (fun n x ρ μ hx hI => by
    obtain ⟨ρ1, h1, ρ2, μ2, h2, h3, h4⟩ := hb n x ρ μ hx hI.1 hI.2
    exact ⟨ρ1, ρ2, μ2, h1, h2, h3, h4, h3⟩) ⟨h0, hi.1⟩
  exact ⟨ρ', μ', ex_for hi h, i.1⟩
/-- a loop whose state stands in the environment and the store -/
theorem lp_foldS {α β : Type} {g : TG} {tb : TS} {C : Mu → Prop} {f : α → D} {m : β → Mu} {step : β → α → β} : ∀ {l : List α} {I : Nat → β → Env' → Prop} {ρ : Env'} {s : β}, (∀ n x ρ s, l[n]? = some x → I n s ρ → ∃ ρ1 ρ2, EvG K g (.val (f x)) ρ ρ1 ∧ Ex K tb ρ1 (m s) (.nx ρ2 (m (step s x))) ∧ C (m (step s x)) ∧ I (n + 1) (step s x) ρ2) → I 0 s ρ →
    ∃ ρ', Lp K g tb C (l.map f) ρ (m s) (.nx ρ' (m (l.foldl step s))) ∧ I l.length (l.foldl step s) ρ'
  | [], I, ρ, s, _, h0 => ⟨ρ, .nil, h0⟩
  | y :: l, I, ρ, s, hb, h0 => by
    obtain ⟨ρ1, ρ2, h1, h2, h4, h5⟩ := hb 0 y ρ s rfl h0
    obtain ⟨ρ', k2, k3⟩ := lp_foldS (l := l) (I := fun n => I (n + 1)) (ρ := ρ2) (s := step s y) (fun n x ρ s hx => hb (n + 1) x ρ s hx) h5
    exact ⟨ρ', .next h1 h2 h4 k2, k3⟩
end
/-! ### __init__ -/
section
variable {K : PySem.W.Frag} {ρ : Env'} {μ μ0 : Mu} {ta tb te tc : TE} {w : W} {us : TS} {o : Out}
def ExN (K : PySem.W.Frag) (ts : TS) (ρ : Env') (μ μ' : Mu) : Prop := ∃ ρ', Ex K ts ρ μ (.nx ρ' μ')
theorem exn_seq {ts : TS} {ρ1 : Env'} {μ1 μ' : Mu} (h : Ex K ts ρ μ (.nx ρ1 μ1)) (k : ExN K us ρ1 μ1 μ') : ExN K (tSeq ts us) ρ μ μ' := by
  obtain ⟨ρ', k⟩ := k
  exact ⟨ρ', ex_seq h k⟩
theorem exn_of {ρ1 : Env'} {μ1 μ' : Mu} (h : Ex K us ρ μ (.nx ρ1 μ1)) (e : μ1 = μ') : ExN K us ρ μ μ' := ⟨ρ1, e ▸ h⟩
theorem exn_pass {t : TT} {ts : TS} {k : Bool} {μ1 μ' : Mu} (hc : EvB K t ρ μ k μ1) (hk : k = false) (hb : ExN K us ρ μ1 μ') : ExN K (tSeq (tIfS t ts tNext) us) ρ μ μ' := by
  obtain ⟨ρ', hb⟩ := hb
  exact ⟨ρ', ex_pass hc hk hb⟩
theorem fn_I {t : TS} {n : Nat} {c : Str} {r : List D → List Str → List D → Prop} (h : ∀ ds ns fs μ0, r ds ns fs → ∃ tail, ExN K t (some (.loc μ0.length) :: ds.map (fun d => some (W.val d)) ++ List.replicate (n - (ds.length + 1)) none) (μ0 ++ [.ins c []]) (μ0 ++ [.ins c (ns.zip (fs.map W.val))] ++ tail)) : FnD K t n (PhiInit c r) :=
  ⟨fun ws μ w μ' ⟨μ0, ds, ns, fs, e1, e2, hr, hl, e3, e4⟩ wf => by
    obtain ⟨tail, ρ', hx⟩ := h ds ns fs μ0 hr
    subst e1 e2 e3 e4
    refine ⟨tail, by simp, rfl, fun m hm => ?_, .inr ⟨rfl, ρ', ?_⟩⟩
    · rcases List.mem_append.mp hm with q | q
      · have := wf m (List.mem_append_left _ q)
        simpa using this
      · rw [List.mem_singleton.mp q]
        refine List.all_eq_true.mpr fun p hp => ?_
        obtain ⟨x, _, e⟩ := List.mem_map.mp (List.of_mem_zip (show (p.1, p.2) ∈ _ from hp)).2
        rw [← e]
        rfl
    · rw [List.map_cons, List.map_map, List.length_cons, List.length_map]
      exact hx⟩
theorem set_last {α : Type} {l : List α} {a b : α} : (l ++ [a]).set l.length b = l ++ [b] := by
  rw [List.set_append_right _ _ (Nat.le_refl _)]
  simp
theorem ex_fldL {c f : Str} {fs : List (Str × W)} (hv : Ev K tb ρ (μ0 ++ [.ins c fs]) w (μ0 ++ [.ins c fs])) (h0 : ρ[0]? = some (some (.loc μ0.length))) (hc : Cls K (He.ga K c)) (hn : NoAttr K (He.ga K c) f) (hz : fs.length < 100) (hw : w.below (μ0.length + 1) = true := by rfl) :
    Ex K (sFld K (tVar 0) tb f) ρ (μ0 ++ [.ins c fs]) (.nx ρ (μ0 ++ [.ins c (putW f w fs)])) := by
  have := ex_fld (K := K) (ρ := ρ) hv (ev_var h0) (j := μ0.length) (c := c) (fs := fs) (by simp) hc hn hz (by simpa using hw)
  rwa [set_last] at this
theorem putW_new {f : Str} : ∀ {fs : List (Str × W)}, (fs.map Prod.fst).contains f = false → putW f w fs = fs ++ [(f, w)]
  | [], _ => rfl
  | (g, x) :: fs, h => by
    rw [List.map_cons, List.contains_cons, Bool.or_eq_false_iff] at h
    unfold putW
    rw [if_neg (fun e => by rw [e] at h; simp at h), putW_new h.2]
    rfl
/-- a field that is new -/
theorem ex_fldN {c f : Str} {fs : List (Str × W)} (h0 : ρ[0]? = some (some (.loc μ0.length))) (hv : Ev K tb ρ (μ0 ++ [.ins c fs]) w (μ0 ++ [.ins c fs])) (hc : Cls K (He.ga K c)) (hn : NoAttr K (He.ga K c) f) (hf : (fs.map Prod.fst).contains f = false := by rfl) (hz : Nat.ble (fs.length + 1) 100 = true := by rfl) (hw : w.below (μ0.length + 1) = true := by rfl) :
    Ex K (sFld K (tVar 0) tb f) ρ (μ0 ++ [.ins c fs]) (.nx ρ (μ0 ++ [.ins c (fs ++ [(f, w)])])) := by
  have := ex_fldL hv h0 hc hn (Nat.le_of_ble_eq_true hz) hw
  rwa [putW_new hf] at this
theorem ev_fldL {c f : Str} {fs : List (Str × W)} (h0 : ρ[0]? = some (some (.loc μ0.length))) (hc : Cls K (He.ga K c)) (hn : NoAttr K (He.ga K c) f) (hf : fs.lookup f = some w) : Ev K (tFld K (tVar 0) f) ρ (μ0 ++ [.ins c fs]) w (μ0 ++ [.ins c fs]) :=
  ev_fldM (ev_var h0) (j := μ0.length) (by simp) hc hn hf
end
/-! ### wrappers for printed derivations -/
section
variable {X : Cx}
/-- d = {k: v for ..}: the swapped form, of a dict -/
theorem sw_trueD {kx vx : Expr} {gs : List Comprehension} {sc : Scope} {pos py : Pos} {y : Str} {l : Nat} {env : Env} (h1 : env.scope.kind = .function) (h2 : env.scope.names.lookup y = some .local) (h3 : (py.line == pos.line) = true)
    (h4 : (sc.names.any fun (n, k) => n == y && (k == .local || k == .cell)) = false) : swapsWith (.DictComp kx vx gs sc pos) (some (.Name y py)) l env = pure true := by
  have k1 : env.kindOf y = some .local := h2
  have k2 : env.blockKind = .function := (by unfold Env.blockKind; rw [h1]; rfl)
  unfold swapsWith; simp only [k2, k1, h4, Expr.pos, h3]; rfl
theorem ps_setDc {i : Nat} {y : Str} {py : Pos} {kx vx tg it : Expr} {ifs : List Expr} {sc : Scope} {own : List (Str × Nat)} {pos sp : Pos} {wi : TI} {g : TG} {tt : TT} {tk tv : TE} (c : X.calm = true) (nd : X.N.Nodup) (hy : X.N[i]? = some y) (hl : X.env.scope.names.lookup y = some .local)
    (sw : swapsWith (.DictComp kx vx [⟨tg, it, ifs, 0⟩] sc pos) (some (.Name y py)) sp.line X.env = pure true) (hi : PI X tg it wi) (ok : BlkOk X.N X.env.scope sc own)
    (hg : ∀ (s : Shared) (H : Hp) (C : Addr) (cl : List (Str × Addr)) (fp : List Addr), PG (X.blk s H sc (compEnvC sc cl C X.env) fp) tg g)
    (ht : ∀ (s : Shared) (H : Hp) (C : Addr) (cl : List (Str × Addr)) (fp : List Addr), PTs (X.blk s H sc (compEnvC sc cl C X.env) fp) ifs tt)
    (hk : ∀ (s : Shared) (H : Hp) (C : Addr) (cl : List (Str × Addr)) (fp : List Addr), PE (X.blk s H sc (compEnvC sc cl C X.env) fp) kx tk)
    (hv : ∀ (s : Shared) (H : Hp) (C : Addr) (cl : List (Str × Addr)) (fp : List Addr), PE (X.blk s H sc (compEnvC sc cl C X.env) fp) vx tv) (hs : ∀ x, foldedSetIterable it X.env x = pure x := by intro _; rfl) :
    PS X (.Assign [.Name y py] (.DictComp kx vx [⟨tg, it, ifs, 0⟩] sc pos) sp) (tAsg (tDc wi g tt tk tv (own.map (·.2))) (gName i)) := ⟨fun pins s σ H D I h => by
  rw [exec_Assign_Name_used _ _ _ _ sw]; refine wpAny_bind (wpAny_standAt (wpAny_bind ?_))
  show wpAny _ X.A (do let _ ← comprehension (.DictComp kx vx [⟨tg, it, ifs, 0⟩] sc pos) sc X.env (firstIterPos [⟨tg, it, ifs, 0⟩] pos) newDict false (eval it X.env) (some (assign (.Name y py) X.env))) _ _ s
  refine wpAny_bind (thn (dc_core (Qf := fun _ s' => SP X pins D .next s') (Q := fun x H1 => gName i x σ H1 D.nx) c nd I hi ok hg ht hk hv hs h fun L C s' m H' I' q hn f => ?_) fun _ s' hq => wpAny_pure (wpAny_pure hq))
  show wpAny _ _ (assign (.Name y py) X.env (.ref L)) _ _ _; refine wpAny_assign_Name (store_ok2 (v := V.ref L) I' nd hy (.inl hl) rfl (fun s2 I2 ⟨a, sb, ha⟩ => ?_) (.inr hl))
  obtain ⟨p0, p1, p2, p3, p4, p5⟩ := f; have hne : C ≠ a := ha.elim (fun z => z ▸ p1) fun z e => p4 y a z e.symm
  exact ⟨m, hn.sameBut sb hne, fun h3 sb3 => ⟨_, H', I2.turned (t' := s2.toks) (fun b o hb e => (sb3.2 b hb).trans e) p0 p1 p3 p4 p5, q⟩⟩⟩
theorem pg_n (i : Nat) {x : Str} {pos : Pos} (hN : X.N.Nodup) (hi : X.N[i]? = some x := by rfl) (hx : Loc X.env.scope x := by first | exact .inl rfl | exact .inr rfl) (hf : X.fn x = true ∨ X.env.scope.names.lookup x = some .local := by first | exact .inl rfl | exact .inr rfl) : PG X (.Name x pos) (gName i) := pg_name hN hi hx hf
theorem ps_a (i : Nat) {x : Str} {e : Expr} {te : TE} {pos pos' : Pos} (hN : X.N.Nodup) (he : PE X e te) (hi : X.N[i]? = some x := by rfl) (hx : Loc X.env.scope x := by first | exact .inl rfl | exact .inr rfl) (hs : swapsWith e (some (.Name x pos')) pos.line X.env = pure false := by rfl) (hf : X.fn x = true ∨ X.env.scope.names.lookup x = some .local := by first | exact .inl rfl | exact .inr rfl) :
    PS X (.Assign [.Name x pos'] e pos) (tAsg te (gName i)) := ps_set hN hi hx he hs hf
theorem ps_au (i : Nat) {x : Str} {e : Expr} {te : TE} {pos pos' : Pos} (hN : X.N.Nodup) (he : PE X e te) (hi : X.N[i]? = some x := by rfl) (hx : Loc X.env.scope x := by first | exact .inl rfl | exact .inr rfl) (hf : X.fn x = true ∨ X.env.scope.names.lookup x = some .local := by first | exact .inl rfl | exact .inr rfl) :
    PS X (.AugAssign (.Name x pos') .Add e pos) (tAug i te rAug) := ps_aug hN hi hx he ip_add hf
end
section
variable {K : PySem.W.Frag}
theorem ln_D {Φ : Phi} {n : Nat} (h : ∀ ws μ w μ', Φ ws μ w μ' → ws.length = n) {vs : List V} {H : Hp} {Q : VK} {E : XK} (k : spD K Φ vs H Q E) : vs.length = n := by
  obtain ⟨P, as, G, ws, μ, w, μ', hΦ, R, _⟩ := k
  have e : ws.length = vs.length := by simpa using R.sz
  rw [← e]
  exact h ws μ w μ' hΦ
theorem ln_R {r : List D → D → Prop} {n : Nat} (h : ∀ ds d, r ds d → ds.length = n) {vs : List V} {H : Hp} {Q : VK} {E : XK} (k : spD K (PhiR r) vs H Q E) : vs.length = n :=
  ln_D (fun ws μ w μ' ⟨ds, d, e, hr, _, _⟩ => by rw [e, List.length_map]; exact h ds d hr) k
theorem ln_I {c : Str} {r : List D → List Str → List D → Prop} {n : Nat} (h : ∀ ds ns fs, r ds ns fs → ds.length = n) {vs : List V} {H : Hp} {Q : VK} {E : XK} (k : spD K (PhiInit c r) vs H Q E) : vs.length = n + 1 :=
  ln_D (fun ws μ w μ' ⟨μ0, ds, ns, fs, e, _, hr, _⟩ => by rw [e, List.length_cons, List.length_map, h ds ns fs hr]) k
end
end DK

/-! DKR: words and rows: what the defs answer (mirrors), and that they do. -/
namespace DK
open PySem PySem.Spec PyProof.Rows L2

/-! ### mirrors -/
def wordsC : List Str := ["same", "next", "near", "far", "last", "elder", "house"]
def barredC : List Str := ["and", "do", "if", "mark", "not", "open", "shut", "then"]
def lettersC : Str := "abcdefghijklmnopqrstuvwxyz"
def learningC : List Str := ["next", "near", "far", "house"]
def isNameM (s : Str) : Bool := (decide (1 ≤ (s.length : Int)) && decide ((s.length : Int) ≤ 4)) && ((s.cps.toList.all fun c => decide (c ∈ lettersC.cps.toList)) && !decide (s ∈ barredC))
def tailNot (l : List Str) : List Str := if fst l = "not" then l.drop 1 else l
def isTestM (s : Str) : Bool := let l := tailNot (wds s); decide (l.length = 2) && (decide (fst l = "marked") && isNameM (l.getD 1 ""))
def isDeedM (s : Str) : Bool := let l := wds s; decide (l = (["learn"] : List Str)) || (decide (l.length = 2) && (decide (fst l ∈ (["mark", "clear"] : List Str)) && isNameM (l.getD 1 "")))
def onStr (f : Str → Bool) : D → Bool
  | .str s => f s
  | _ => false
def seqD : D → Option (List D)
  | .tup xs => some xs
  | .lst xs => some xs
  | _ => none
def areTestsM (d : D) : Bool := match seqD d with
  | some xs => xs.all (onStr isTestM)
  | none => false

/-- what of the text is wanted: the constants -/
class KWords (K : PySem.W.Frag) : Prop where
  words : ∀ H, SqT K H (He.ga K "WORDS") (wordsC.map V.str)
  barred : ∀ H, SqT K H (He.ga K "BARRED") (barredC.map V.str)
  learning : ∀ H, SqT K H (He.ga K "LEARNING") (learningC.map V.str)
section
variable {K : PySem.W.Frag} {ρ : Env'} {μ μ1 : Mu} {te : TE} {t : TA} {d : D}
theorem constOk {ss : List Str} (h : (ss.all fun s => decide (s.length ≤ SB) && s.cps.all (· < 0x110000)) = true) : ∀ s ∈ ss, sOk s := fun s hs => by
  have := List.all_eq_true.mp h s hs
  rw [Bool.and_eq_true] at this
  exact ⟨of_decide_eq_true this.1, this.2⟩
variable [KWords K]
theorem ev_words : Ev K (tC (.ref (He.ga K "WORDS"))) ρ μ (.val (.tup (wordsC.map D.str))) μ := ev_strs KWords.words (constOk (by decide +kernel)) (by decide)
theorem ev_barred : Ev K (tC (.ref (He.ga K "BARRED"))) ρ μ (.val (.tup (barredC.map D.str))) μ := ev_strs KWords.barred (constOk (by decide +kernel)) (by decide)
theorem ev_learning : Ev K (tC (.ref (He.ga K "LEARNING"))) ρ μ (.val (.tup (learningC.map D.str))) μ := ev_strs KWords.learning (constOk (by decide +kernel)) (by decide)

/-! ### is_integer, is_sequence, is_name -/
def t_is_integer (K : PySem.W.Frag) : TS :=
  (tRet (tAndV (tCB (rIsi K) (tCons (tVar 0) (tCons (tC (.ty "int")) tNil))) (tNotV (tCB (rIsi K) (tCons (tVar 0) (tCons (tC (.ty "bool")) tNil))))))
def isIntM (d : D) : Bool := isT "int" d && !isT "bool" d
def r_is_integer : List D → D → Prop := fun ds d => ∃ x, ds = [x] ∧ isData x = true ∧ d = .bl (isIntM x)
abbrev sp_is_integer (K : PySem.W.Frag) : Sp := spR K r_is_integer
theorem ln_is_integer {vs : List V} {H : Hp} {Q : VK} {E : XK} : sp_is_integer K vs H Q E → vs.length = 1 := ln_R fun _ _ ⟨_, e, _⟩ => by rw [e]; rfl
theorem fn_is_integer : FnD K (t_is_integer K) 1 (PhiR r_is_integer) := fn_R fun ds d μ ⟨x, e1, hx, e2⟩ => by
  subst e1 e2
  refine ⟨[], ?_⟩
  rw [List.append_nil]
  exact ex_ret (ev_andB (ev_cb (ed_cons (ev_var rfl) (ed_cons ev_ty ed_nil)) (c_isT hx)) fun _ => ev_not (ev_cb (ed_cons (ev_var rfl) (ed_cons ev_ty ed_nil)) (c_isT hx)))
theorem c_is_integer {E : XK} (h : EvD K t ρ μ [d] μ1) (hd : isData d = true) : Ev K (tCall (sp_is_integer K) [] E t) ρ μ (.val (.bl (isIntM d))) μ1 := ev_call0 h ⟨d, rfl, hd, rfl⟩
def t_is_sequence (K : PySem.W.Frag) : TS :=
  (tRet (tIsSeq K (tVar 0)))
/-- data, or a list of the store -/
def r_is_sequence : List D → D → Prop := fun ds d => ∃ x, ds = [x] ∧ isData x = true ∧ d = .bl (isSeqD x)
abbrev sp_is_sequence (K : PySem.W.Frag) : Sp := spR K r_is_sequence
theorem ln_is_sequence {vs : List V} {H : Hp} {Q : VK} {E : XK} : sp_is_sequence K vs H Q E → vs.length = 1 := ln_R fun _ _ ⟨_, e, _⟩ => by rw [e]; rfl
theorem fn_is_sequence : FnD K (t_is_sequence K) 1 (PhiR r_is_sequence) := fn_R fun ds d μ ⟨x, e1, hx, e2⟩ => by
  subst e1 e2
  refine ⟨[], ?_⟩
  rw [List.append_nil]
  exact ex_ret (ev_isSeq (ev_var rfl) hx)
theorem c_is_sequence {E : XK} (h : EvD K t ρ μ [d] μ1) (hd : isData d = true) : Ev K (tCall (sp_is_sequence K) [] E t) ρ μ (.val (.bl (isSeqD d))) μ1 := ev_call0 h ⟨d, rfl, hd, rfl⟩
theorem isT_str {d : D} (h : isT "str" d = true) : ∃ s, d = .str s := by
  cases d with
  | str s => exact ⟨s, rfl⟩
  | _ => first | cases h | (revert h; simp [isT])
theorem onStr_no {f : Str → Bool} {d : D} (h : isT "str" d = false) : onStr f d = false := by
  cases d with
  | str s => cases h
  | _ => rfl
def t_is_name (K : PySem.W.Frag) : TS :=
  (tSeq (tIfS (tOr (tNot (tB (tCB (rIsi K) (tCons (tVar 0) (tCons (tC (.ty "str")) tNil))))) (tNot (tTest (tChain (rLe') (rLe') (tC (.int 1)) (tCB (rLenA K) (tCons (tVar 0) tNil)) (tC (.int 4)))))) (tRet (tC (.bl false))) tNext)
      (tRet (tAndV (tCB (rAll K) (tCons (tLc (iStr (tVar 0)) (gName 1) tYes (tOp (rInn K) (tVar 1) (tC (.str "abcdefghijklmnopqrstuvwxyz"))) [1]) tNil)) (tOp (rNin K) (tVar 0) (tC (.ref (He.ga K "BARRED")))))))
def r_is_name : List D → D → Prop := fun ds d => ∃ x, ds = [x] ∧ isData x = true ∧ d = .bl (onStr isNameM x)
abbrev sp_is_name (K : PySem.W.Frag) : Sp := spR K r_is_name
theorem ln_is_name {vs : List V} {H : Hp} {Q : VK} {E : XK} : sp_is_name K vs H Q E → vs.length = 1 := ln_R fun _ _ ⟨_, e, _⟩ => by rw [e]; rfl
theorem fn_is_name : FnD K (t_is_name K) 2 (PhiR r_is_name) := fn_R fun ds d μ ⟨x, e1, hx, e2⟩ => by
  subst e1 e2
  refine ⟨[], ?_⟩
  rw [List.append_nil]
  cases hs : isT "str" x with
  | false =>
    rw [onStr_no hs]
    exact ex_guard (eb_or (l := true) (eb_not (eb_B (ev_cb (ed_cons (ev_var rfl) (ed_cons ev_ty ed_nil)) (c_isT hx)))) (by rw [hs]; intro h; cases h)) (fun _ => ex_ret ev_bl) (by rw [hs]; intro h; cases h)
  | true =>
    obtain ⟨s, rfl⟩ := isT_str hs
    refine ex_guard (eb_or (eb_not (eb_B (ev_cb (ed_cons (ev_var rfl) (ed_cons ev_ty ed_nil)) (c_isT hx)))) fun _ => eb_not (eb_test (ev_chain ev_int (ev_cb (ed_cons (ev_var rfl) ed_nil) c_lenS) o_le (fun _ => ev_int) fun _ => o_le)))
      (fun h => ex_retv ev_bl ?_) (fun h => ?_)
    · rw [hs] at h
      have h' : (decide (1 ≤ (s.length : Int)) && decide ((s.length : Int) ≤ 4)) = false := by
        revert h
        cases (decide (1 ≤ (s.length : Int)) && decide ((s.length : Int) ≤ 4)) <;> decide
      show W.val (.bl false) = .val (.bl (isNameM s))
      unfold isNameM
      rw [h']
      rfl
    · rw [hs] at h
      have h' : (decide (1 ≤ (s.length : Int)) && decide ((s.length : Int) ≤ 4)) = true := by
        revert h
        cases (decide (1 ≤ (s.length : Int)) && decide ((s.length : Int) ≤ 4)) <;> decide
      have e : isNameM s = ((s.cps.toList.all fun c => decide (c ∈ lettersC.cps.toList)) && !decide (s ∈ barredC)) := by
        unfold isNameM
        rw [h']
        rfl
      show Ex K _ _ _ (.rt (.val (.bl (isNameM s))) μ)
      rw [e]
      refine ex_ret (ev_andB (ev_all (l := s.cps.toList) (f := fun c => D.str ⟨#[c]⟩) (ei_str (ev_var rfl)) (fun c hc => ⟨_, egc_name, ev_op (ev_var rfl) (ev_str (constOk (ss := [lettersC]) (by decide +kernel) _ (by simp [lettersC]))) o_inC⟩) ?_) fun _ => ev_op (ev_var rfl) ev_barred o_ninST)
      have := (Bool.and_eq_true_iff.mp h').2
      have := of_decide_eq_true this
      have e : s.cps.toList.length = s.length := by rfl
      rw [e]
      have : LB ≥ 4 := by decide
      omega
theorem c_is_name {E : XK} (h : EvD K t ρ μ [d] μ1) (hd : isData d = true) : Ev K (tCall (sp_is_name K) [] E t) ρ μ (.val (.bl (onStr isNameM d))) μ1 := ev_call0 h ⟨d, rfl, hd, rfl⟩

/-! ### is_test, is_deed -/
theorem cut1 {l : List Str} : cutD (l.map D.str) (some 1) none = (l.drop 1).map D.str := by
  have e : HT.sIx (l.map D.str).length 0 (some 1) = min 1 l.length := by
    have := HT.sIx_nat (l.map D.str).length 0 1
    rw [List.length_map] at this ⊢
    exact this
  unfold cutD
  rw [e, HT.sIx_none, List.length_map]
  rw [List.take_of_length_le (by rw [List.length_drop, List.length_map]; exact Nat.le_refl _)]
  cases l with
  | nil => rfl
  | cons x r => rw [show min 1 (x :: r).length = 1 by simp]; rfl
theorem c_is_nameS {s : Str} {E : XK} (h : EvD K t ρ μ [.str s] μ1) : Ev K (tCall (sp_is_name K) [] E t) ρ μ (.val (.bl (isNameM s))) μ1 := c_is_name h rfl
theorem o_ixW {l : List Str} {n : Int} {x : Str} (h : atI l n = some x) : Op2 K (rIx K) (.lst (l.map D.str)) (.int n) (.str x) := o_ixLm h
def t_is_test (K : PySem.W.Frag) : TS :=
  (tSeq (tIfS (tNot (tB (tCB (rIsi K) (tCons (tVar 0) (tCons (tC (.ty "str")) tNil))))) (tRet (tC (.bl false))) tNext)
      (tSeq (tAsg (tM1 rSplit (tVar 0) (tC (.str " "))) (gName 1))
      (tSeq (tIfS (tTest (tOp (rEqq K) (tOp (rIx K) (tVar 1) (tC (.int 0))) (tC (.str "not")))) (tAsg (tSl (rSlc K) (tVar 1) (tPart (tC (.int 1))) tNoPart) (gName 1)) tNext)
      (tRet (tAndV (tOp (rEqq K) (tCB (rLenA K) (tCons (tVar 1) tNil)) (tC (.int 2))) (tAndV (tOp (rEqq K) (tOp (rIx K) (tVar 1) (tC (.int 0))) (tC (.str "marked"))) (tCall (sp_is_name K) [] E0 (tCons (tOp (rIx K) (tVar 1) (tC (.int 1))) tNil))))))))
def r_is_test : List D → D → Prop := fun ds d => ∃ x, ds = [x] ∧ isData x = true ∧ d = .bl (onStr isTestM x)
abbrev sp_is_test (K : PySem.W.Frag) : Sp := spR K r_is_test
theorem ln_is_test {vs : List V} {H : Hp} {Q : VK} {E : XK} : sp_is_test K vs H Q E → vs.length = 1 := ln_R fun _ _ ⟨_, e, _⟩ => by rw [e]; rfl
theorem two_at {l : List Str} (h : l.length = 2) : l ≠ [] ∧ atI l 1 = some (l.getD 1 "") := by
  match l, h with
  | [a, b], _ => exact ⟨by simp, atI_nat (k := 1) rfl⟩
theorem o_len2 {l : List Str} : Op2 K (rEqq K) (.int ((l.map D.str).length : Nat)) (.int 2) (.bl (decide (l.length = 2))) := by
  have h := o_eqI (K := K) (i := ((l.map D.str).length : Nat)) (j := 2)
  rw [List.length_map] at h ⊢
  rwa [dec_congr (show ((l.length : Int) = 2) ↔ l.length = 2 by omega)] at h
theorem fn_is_test : FnD K (t_is_test K) 2 (PhiR r_is_test) := fn_R fun ds d μ ⟨x, e1, hx, e2⟩ => by
  subst e1 e2
  refine ⟨[], ?_⟩
  rw [List.append_nil]
  cases hs : isT "str" x with
  | false =>
    rw [onStr_no hs]
    exact ex_guard (eb_not (eb_B (ev_cb (ed_cons (ev_var rfl) (ed_cons ev_ty ed_nil)) (c_isT hx)))) (fun _ => ex_ret ev_bl) (by rw [hs]; intro h; cases h)
  | true =>
    obtain ⟨s, rfl⟩ := isT_str hs
    refine ex_pass (eb_not (eb_B (ev_cb (ed_cons (ev_var rfl) (ed_cons ev_ty ed_nil)) (c_isT hx)))) (by rw [hs]; rfl) ?_
    refine ex_seq (ex_set (ev_wds (ev_var rfl))) ?_
    have fin : ∀ l : List Str, Ex K (tRet (tAndV (tOp (rEqq K) (tCB (rLenA K) (tCons (tVar 1) tNil)) (tC (.int 2))) (tAndV (tOp (rEqq K) (tOp (rIx K) (tVar 1) (tC (.int 0))) (tC (.str "marked"))) (tCall (sp_is_name K) [] E0 (tCons (tOp (rIx K) (tVar 1) (tC (.int 1))) tNil)))))
        [some (.val (.str s)), some (.val (.lst (l.map D.str)))] μ (.rt (.val (.bl (decide (l.length = 2) && (decide (fst l = "marked") && isNameM (l.getD 1 ""))))) μ) := fun l =>
      ex_ret (ev_andB (ev_op (ev_cbW (ea_cons (ev_var rfl) ea_nil) (c_lenSeq .lst)) ev_int o_len2) fun h => ev_andB (ev_op (ev_op (ev_var rfl) ev_int (o_ixW (at_fst (two_at (of_decide_eq_true h)).1))) ev_str o_eqS) fun _ =>
        c_is_nameS (ed_cons (ev_op (ev_var rfl) ev_int (o_ixW (two_at (of_decide_eq_true h)).2)) ed_nil))
    refine ex_ifSeq (eb_test (ev_op (ev_op (ev_var rfl) ev_int (o_ixW (at_fst (wds_ne s)))) ev_str o_eqS)) (fun h => ?_) fun h => ?_
    · have e : tailNot (wds s) = (wds s).drop 1 := if_pos (of_decide_eq_true h)
      refine ex_seq (ex_set (ev_slL (ev_var rfl) (eo_some ev_int) eo_none)) ?_
      rw [cut1]
      have := fin ((wds s).drop 1)
      rw [← e] at this
      show Ex K _ _ _ (.rt (.val (.bl (isTestM s))) μ)
      rw [← e]
      exact this
    · have e : tailNot (wds s) = wds s := if_neg (of_decide_eq_false h)
      have := fin (wds s)
      show Ex K _ _ _ (.rt (.val (.bl (isTestM s))) μ)
      unfold isTestM
      rw [e]
      exact ex_nextSeq this
theorem c_is_test {E : XK} (h : EvD K t ρ μ [d] μ1) (hd : isData d = true) : Ev K (tCall (sp_is_test K) [] E t) ρ μ (.val (.bl (onStr isTestM d))) μ1 := ev_call0 h ⟨d, rfl, hd, rfl⟩
def t_is_deed (K : PySem.W.Frag) : TS :=
  (tSeq (tIfS (tNot (tB (tCB (rIsi K) (tCons (tVar 0) (tCons (tC (.ty "str")) tNil))))) (tRet (tC (.bl false))) tNext)
      (tSeq (tAsg (tM1 rSplit (tVar 0) (tC (.str " "))) (gName 1))
      (tRet (tOrV (tOp (rEqq K) (tVar 1) (tLst (tCons (tC (.str "learn")) tNil))) (tAndV (tOp (rEqq K) (tCB (rLenA K) (tCons (tVar 1) tNil)) (tC (.int 2))) (tAndV (tOp (rInn K) (tOp (rIx K) (tVar 1) (tC (.int 0))) (tTup (tCons (tC (.str "mark")) (tCons (tC (.str "clear")) tNil)))) (tCall (sp_is_name K) [] E0 (tCons (tOp (rIx K) (tVar 1) (tC (.int 1))) tNil))))))))
def r_is_deed : List D → D → Prop := fun ds d => ∃ x, ds = [x] ∧ isData x = true ∧ d = .bl (onStr isDeedM x)
abbrev sp_is_deed (K : PySem.W.Frag) : Sp := spR K r_is_deed
theorem ln_is_deed {vs : List V} {H : Hp} {Q : VK} {E : XK} : sp_is_deed K vs H Q E → vs.length = 1 := ln_R fun _ _ ⟨_, e, _⟩ => by rw [e]; rfl
theorem fn_is_deed : FnD K (t_is_deed K) 2 (PhiR r_is_deed) := fn_R fun ds d μ ⟨x, e1, hx, e2⟩ => by
  subst e1 e2
  refine ⟨[], ?_⟩
  rw [List.append_nil]
  cases hs : isT "str" x with
  | false =>
    rw [onStr_no hs]
    exact ex_guard (eb_not (eb_B (ev_cb (ed_cons (ev_var rfl) (ed_cons ev_ty ed_nil)) (c_isT hx)))) (fun _ => ex_ret ev_bl) (by rw [hs]; intro h; cases h)
  | true =>
    obtain ⟨s, rfl⟩ := isT_str hs
    refine ex_pass (eb_not (eb_B (ev_cb (ed_cons (ev_var rfl) (ed_cons ev_ty ed_nil)) (c_isT hx)))) (by rw [hs]; rfl) ?_
    refine ex_seq (ex_set (ev_wds (ev_var rfl))) ?_
    exact ex_ret (ev_orB (ev_op (ev_var rfl) (ev_lst (ed_cons ev_str ed_nil) (by show (1 : Nat) ≤ LB; decide)) (o_eqSL (a := wds s) (b := ["learn"]))) fun _ =>
      ev_andB (ev_op (ev_cbW (ea_cons (ev_var rfl) ea_nil) (c_lenSeq .lst)) ev_int o_len2) fun h => ev_andB (ev_op (ev_op (ev_var rfl) ev_int (o_ixW (at_fst (two_at (of_decide_eq_true h)).1))) (ev_tup (ed_cons ev_str (ed_cons ev_str ed_nil)) (by show (2 : Nat) ≤ LB; decide)) (o_inST (ss := ["mark", "clear"]))) fun _ =>
        c_is_nameS (ed_cons (ev_op (ev_var rfl) ev_int (o_ixW (two_at (of_decide_eq_true h)).2)) ed_nil))
theorem c_is_deed {E : XK} (h : EvD K t ρ μ [d] μ1) (hd : isData d = true) : Ev K (tCall (sp_is_deed K) [] E t) ρ μ (.val (.bl (onStr isDeedM d))) μ1 := ev_call0 h ⟨d, rfl, hd, rfl⟩

/-! ### are_tests, are_deeds, wrong_in -/
def okSeq (d : D) : Bool := isData d && match seqD d with
  | some xs => decide (xs.length ≤ LB) && xs.all isData
  | none => true
theorem okSeq_d {d : D} (h : okSeq d = true) : isData d = true := (Bool.and_eq_true_iff.mp h).1
theorem okSeq_s {d : D} {xs : List D} (h : okSeq d = true) (e : seqD d = some xs) : xs.length ≤ LB ∧ ∀ x ∈ xs, isData x = true := by
  have := (Bool.and_eq_true_iff.mp h).2
  rw [e] at this
  have := Bool.and_eq_true_iff.mp this
  exact ⟨of_decide_eq_true this.1, List.all_eq_true.mp this.2⟩
theorem seqD_of {d : D} (h : isSeqD d = true) : ∃ xs, seqD d = some xs := by
  cases d <;> first | exact ⟨_, rfl⟩ | cases h
theorem seqD_no {d : D} (h : isSeqD d = false) : seqD d = none := by
  cases d <;> first | rfl | cases h
theorem seqW_of {d : D} {xs : List D} (h : seqD d = some xs) : SeqW μ (.val d) xs := by
  cases d with
  | tup ys => cases h; exact .tup
  | lst ys => cases h; exact .lst
  | _ => cases h
def t_are_tests (K : PySem.W.Frag) : TS :=
  (tRet (tAndV (tCall (sp_is_sequence K) [] E0 (tCons (tVar 0) tNil)) (tCB (rAll K) (tCons (tLc (iSeq K (tVar 0)) (gName 1) tYes (tCall (sp_is_test K) [] E0 (tCons (tVar 1) tNil)) [1]) tNil))))
def r_are_tests : List D → D → Prop := fun ds d => ∃ x, ds = [x] ∧ okSeq x = true ∧ d = .bl (areTestsM x)
abbrev sp_are_tests (K : PySem.W.Frag) : Sp := spR K r_are_tests
theorem ln_are_tests {vs : List V} {H : Hp} {Q : VK} {E : XK} : sp_are_tests K vs H Q E → vs.length = 1 := ln_R fun _ _ ⟨_, e, _⟩ => by rw [e]; rfl
theorem fn_are_tests : FnD K (t_are_tests K) 2 (PhiR r_are_tests) := fn_R fun ds d μ ⟨x, e1, hx, e2⟩ => by
  subst e1 e2
  refine ⟨[], ?_⟩
  rw [List.append_nil]
  cases hs : isSeqD x with
  | false =>
    refine ex_retv (ev_andB (l := false) (c_is_sequence (ed_cons (ev_var rfl) ed_nil) (okSeq_d hx)) (by rw [hs]; intro h; cases h)) ?_
    unfold areTestsM
    rw [hs, seqD_no hs]
    rfl
  | true =>
    obtain ⟨xs, e⟩ := seqD_of hs
    obtain ⟨hz, hk⟩ := okSeq_s hx e
    refine ex_retv (ev_andB (c_is_sequence (ed_cons (ev_var rfl) ed_nil) (okSeq_d hx)) fun _ => ev_allI (ei_seq (ev_var rfl) (seqW_of e)) (fun y hy => ⟨_, egc_name, c_is_test (ed_cons (ev_var rfl) ed_nil) (hk y hy)⟩) hz) ?_
    unfold areTestsM
    rw [hs, e]
    rfl
theorem c_are_tests {E : XK} (h : EvD K t ρ μ [d] μ1) (hd : okSeq d = true) : Ev K (tCall (sp_are_tests K) [] E t) ρ μ (.val (.bl (areTestsM d))) μ1 := ev_call0 h ⟨d, rfl, hd, rfl⟩
def hasLearn (xs : List D) : Bool := xs.any (onStr fun s => decide (s = "learn"))
def areDeedsM (d : D) (w : Str) : Bool := match seqD d with
  | some xs => xs.all (onStr isDeedM) && (decide (xs.length = 0) || (decide (w ∈ learningC) && hasLearn xs))
  | none => false
theorem allStr {f : Str → Bool} : ∀ {xs : List D}, xs.all (onStr f) = true → ∃ ss : List Str, xs = ss.map D.str ∧ ss.all f = true
  | [], _ => ⟨[], rfl, rfl⟩
  | x :: xs, h => by
    rw [List.all_cons, Bool.and_eq_true] at h
    obtain ⟨ss, e, hh⟩ := allStr h.2
    cases x with
    | str s => exact ⟨s :: ss, by rw [e]; rfl, by rw [List.all_cons, Bool.and_eq_true]; exact ⟨h.1, hh⟩⟩
    | _ => cases h.1
theorem hasLearn_strs : ∀ {ss : List Str}, hasLearn (ss.map D.str) = decide (("learn" : Str) ∈ ss)
  | [] => rfl
  | s :: ss => by
    show (decide (s = "learn") || hasLearn (ss.map D.str)) = _
    rw [hasLearn_strs]
    by_cases h : s = "learn"
    · subst h; simp
    · have h' : ¬ ("learn" : Str) = s := fun e => h e.symm
      simp [h, h']
theorem o_inSeqS {s : Str} {d : D} {ss : List Str} (h : seqD d = some (ss.map D.str)) : Op2 K (rInn K) (.str s) d (.bl (decide (s ∈ ss))) := by
  cases d with
  | tup ys => cases h; exact o_inST
  | lst ys => cases h; exact o_inSL
  | _ => cases h
def t_are_deeds (K : PySem.W.Frag) : TS :=
  (tSeq (tIfS (tOr (tNot (tB (tCall (sp_is_sequence K) [] E0 (tCons (tVar 0) tNil)))) (tNot (tB (tCB (rAll K) (tCons (tLc (iSeq K (tVar 0)) (gName 2) tYes (tCall (sp_is_deed K) [] E0 (tCons (tVar 2) tNil)) [2]) tNil))))) (tRet (tC (.bl false))) tNext)
      (tRet (tOrV (tOp (rEqq K) (tCB (rLenA K) (tCons (tVar 0) tNil)) (tC (.int 0))) (tAndV (tOp (rInn K) (tVar 1) (tC (.ref (He.ga K "LEARNING")))) (tOp (rInn K) (tC (.str "learn")) (tVar 0))))))
def r_are_deeds : List D → D → Prop := fun ds d => ∃ x w, ds = [x, .str w] ∧ okSeq x = true ∧ d = .bl (areDeedsM x w)
abbrev sp_are_deeds (K : PySem.W.Frag) : Sp := spR K r_are_deeds
theorem ln_are_deeds {vs : List V} {H : Hp} {Q : VK} {E : XK} : sp_are_deeds K vs H Q E → vs.length = 2 := ln_R fun _ _ ⟨_, _, e, _⟩ => by rw [e]; rfl
theorem o_len0 {l : List D} : Op2 K (rEqq K) (.int (l.length : Nat)) (.int 0) (.bl (decide (l.length = 0))) := by
  have h := o_eqI (K := K) (i := (l.length : Nat)) (j := 0)
  rwa [dec_congr (show ((l.length : Int) = 0) ↔ l.length = 0 by omega)] at h
theorem fn_are_deeds : FnD K (t_are_deeds K) 3 (PhiR r_are_deeds) := fn_R fun ds d μ ⟨x, w, e1, hx, e2⟩ => by
  subst e1 e2
  refine ⟨[], ?_⟩
  rw [List.append_nil]
  have hseq : Ev K (tCall (sp_is_sequence K) [] E0 (tCons (tVar 0) tNil)) [some (.val x), some (.val (.str w)), none] μ (.val (.bl (isSeqD x))) μ := c_is_sequence (ed_cons (ev_var rfl) ed_nil) (okSeq_d hx)
  cases hs : isSeqD x with
  | false =>
    rw [hs] at hseq
    refine ex_guard (k := true) (eb_or (l := true) (k := true) (eb_not (eb_B hseq)) (by intro h; cases h)) (fun _ => ex_retv ev_bl ?_) (by intro h; cases h)
    unfold areDeedsM
    rw [seqD_no hs]
  | true =>
    rw [hs] at hseq
    obtain ⟨xs, e⟩ := seqD_of hs
    obtain ⟨hz, hk⟩ := okSeq_s hx e
    have ha : EvB K _ _ _ _ _ := eb_or (k := false) (eb_not (eb_B hseq)) fun _ => eb_not (eb_B (ev_allI (g := gName 2) (vs := [2]) (te := tCall (sp_is_deed K) [] E0 (tCons (tVar 2) tNil)) (ei_seq (ev_var (i := 0) rfl) (seqW_of e)) (fun y hy => ⟨_, egc_name, c_is_deed (ed_cons (ev_var rfl) ed_nil) (hk y hy)⟩) hz))
    refine ex_guard ha (fun h => ex_retv ev_bl ?_) fun h => ?_
    · unfold areDeedsM
      rw [e]
      have h' : xs.all (onStr isDeedM) = false := by revert h; cases xs.all (onStr isDeedM) <;> decide
      show W.val (.bl false) = .val (.bl (xs.all (onStr isDeedM) && _))
      rw [h']
      rfl
    · have h' : xs.all (onStr isDeedM) = true := by revert h; cases xs.all (onStr isDeedM) <;> decide
      obtain ⟨ss, e2, _⟩ := allStr h'
      subst e2
      refine ex_retv (ev_orB (ev_op (ev_cbW (ea_cons (ev_var rfl) ea_nil) (c_lenSeq (seqW_of e))) ev_int o_len0) fun _ => ev_andB (ev_op (ev_var rfl) ev_learning o_inST) fun _ => ev_op ev_str (ev_var rfl) (o_inSeqS e)) ?_
      unfold areDeedsM
      rw [e]
      show _ = W.val (.bl ((ss.map D.str).all (onStr isDeedM) && _))
      rw [h', hasLearn_strs]
      rfl
theorem c_are_deeds {w : Str} {E : XK} (h : EvD K t ρ μ [d, .str w] μ1) (hd : okSeq d = true) : Ev K (tCall (sp_are_deeds K) [] E t) ρ μ (.val (.bl (areDeedsM d w))) μ1 := ev_call0 h ⟨d, w, rfl, hd, rfl⟩

/-! ### wrong_in, Row -/
def opensS (w : Str) : D → D
  | .bl b => if b = true ∨ w ≠ "house" then .non else .str "opens"
  | _ => .str "opens"
def wrongS (w : Str) (tests deeds opens : D) : D := if w ∈ wordsC then (if areTestsM tests = true then (if areDeedsM deeds w = true then opensS w opens else .str "deeds") else .str "tests") else .str "word"
def wrongM (word tests deeds opens : D) : D := match word with
  | .str w => wrongS w tests deeds opens
  | _ => .str "word"
def t_wrong_in (K : PySem.W.Frag) : TS :=
  (tSeq (tIfS (tOr (tNot (tB (tCB (rIsi K) (tCons (tVar 0) (tCons (tC (.ty "str")) tNil))))) (tTest (tOp (rNin K) (tVar 0) (tC (.ref (He.ga K "WORDS")))))) (tRet (tC (.str "word"))) tNext)
      (tSeq (tIfS (tNot (tB (tCall (sp_are_tests K) [] E0 (tCons (tVar 1) tNil)))) (tRet (tC (.str "tests"))) tNext)
      (tSeq (tIfS (tNot (tB (tCall (sp_are_deeds K) [] E0 (tCons (tVar 2) (tCons (tVar 0) tNil))))) (tRet (tC (.str "deeds"))) tNext)
      (tRet (tIf (tAnd (tB (tCB (rIsi K) (tCons (tVar 3) (tCons (tC (.ty "bool")) tNil)))) (tOr (tB (tVar 3)) (tTest (tOp (rNee K) (tVar 0) (tC (.str "house")))))) (tC .non) (tC (.str "opens")))))))
def r_wrong_in : List D → D → Prop := fun ds d => ∃ word tests deeds opens, ds = [word, tests, deeds, opens] ∧ isData word = true ∧ okSeq tests = true ∧ okSeq deeds = true ∧ isData opens = true ∧ d = wrongM word tests deeds opens
abbrev sp_wrong_in (K : PySem.W.Frag) : Sp := spR K r_wrong_in
theorem ln_wrong_in {vs : List V} {H : Hp} {Q : VK} {E : XK} : sp_wrong_in K vs H Q E → vs.length = 4 := ln_R fun _ _ ⟨_, _, _, _, e, _⟩ => by rw [e]; rfl
theorem isT_bool {d : D} (h : isT "bool" d = true) : ∃ s, d = .bl s := by
  cases d with
  | bl s => exact ⟨s, rfl⟩
  | _ => first | cases h | (revert h; simp [isT])
theorem fn_wrong_in : FnD K (t_wrong_in K) 4 (PhiR r_wrong_in) := fn_R fun ds d μ ⟨word, tests, deeds, opens, e1, h1, h2, h3, h4, e2⟩ => by
  subst e1 e2
  refine ⟨[], ?_⟩
  rw [List.append_nil]
  cases hs : isT "str" word with
  | false =>
    have e : wrongM word tests deeds opens = .str "word" := by
      cases word with
      | str s => cases hs
      | _ => rfl
    rw [e]
    exact ex_guard (eb_or (l := true) (eb_not (eb_B (ev_cb (ed_cons (ev_var rfl) (ed_cons ev_ty ed_nil)) (c_isT h1)))) (by rw [hs]; intro h; cases h)) (fun _ => ex_ret ev_str) (by rw [hs]; intro h; cases h)
  | true =>
    obtain ⟨w, rfl⟩ := isT_str hs
    refine ex_guard (eb_or (eb_not (eb_B (ev_cb (ed_cons (ev_var rfl) (ed_cons ev_ty ed_nil)) (c_isT h1)))) fun _ => eb_test (ev_op (ev_var rfl) ev_words o_ninST)) (fun h => ex_retv ev_str ?_) fun h => ?_
    · have hw : ¬ w ∈ wordsC := by
        rw [hs] at h
        simpa using h
      show _ = W.val (wrongS w tests deeds opens)
      unfold wrongS
      rw [if_neg hw]
    · have hw : w ∈ wordsC := by
        rw [hs] at h
        simpa using h
      refine ex_guard (eb_not (eb_B (c_are_tests (ed_cons (ev_var rfl) ed_nil) h2))) (fun h => ex_retv ev_str ?_) fun h => ?_
      · have ht : ¬ areTestsM tests = true := by simpa using h
        show _ = W.val (wrongS w tests deeds opens)
        unfold wrongS
        rw [if_pos hw, if_neg ht]
      · have ht : areTestsM tests = true := by simpa using h
        refine ex_guard (eb_not (eb_B (c_are_deeds (ed_cons (ev_var rfl) (ed_cons (ev_var rfl) ed_nil)) h3))) (fun h => ex_retv ev_str ?_) fun h => ?_
        · have hd : ¬ areDeedsM deeds w = true := by simpa using h
          show _ = W.val (wrongS w tests deeds opens)
          unfold wrongS
          rw [if_pos hw, if_pos ht, if_neg hd]
        · have hd : areDeedsM deeds w = true := by simpa using h
          have e : wrongM (.str w) tests deeds opens = opensS w opens := by
            show wrongS w tests deeds opens = _
            unfold wrongS
            rw [if_pos hw, if_pos ht, if_pos hd]
          rw [e]
          cases ho : isT "bool" opens with
          | false =>
            have e : opensS w opens = .str "opens" := by
              cases opens with
              | bl s => cases ho
              | _ => rfl
            rw [e]
            exact ex_ret (ev_if (eb_and (l := false) (eb_B (ev_cb (ed_cons (ev_var rfl) (ed_cons ev_ty ed_nil)) (c_isT h4))) (by rw [ho]; intro h; cases h)) (by rw [ho]; intro h; cases h) fun _ => ev_str)
          | true =>
            obtain ⟨b, rfl⟩ := isT_bool ho
            refine ex_retv (ev_ifD (eb_and (eb_B (ev_cb (ed_cons (ev_var rfl) (ed_cons ev_ty ed_nil)) (c_isT h4))) fun _ => eb_or (eb_B (ev_var rfl)) fun _ => eb_test (ev_op (ev_var rfl) ev_str o_neS)) (fun _ => ev_non) fun _ => ev_str) ?_
            rw [ho]
            show W.val (if (true && (b || !decide (w = "house"))) = true then D.non else .str "opens") = .val (if b = true ∨ w ≠ "house" then .non else .str "opens")
            cases b <;> simp
theorem c_wrong_in {word tests deeds opens : D} {E : XK} (h : EvD K t ρ μ [word, tests, deeds, opens] μ1) (h1 : isData word = true) (h2 : okSeq tests = true) (h3 : okSeq deeds = true) (h4 : isData opens = true) : Ev K (tCall (sp_wrong_in K) [] E t) ρ μ (.val (wrongM word tests deeds opens)) μ1 :=
  ev_call0 h ⟨word, tests, deeds, opens, rfl, h1, h2, h3, h4, rfl⟩
end
class KRow (K : PySem.W.Frag) : Prop where
  ok : ClsOk K (He.ga K "Row")
  noat : ∀ f : Str, f ∈ (["word", "tests", "deeds", "opens"] : List Str) → NoAttr K (He.ga K "Row") f
  isRow : PySem.W.kitOne K (.ref (He.ga K "Row")) (.ref (He.ga K "Row")) = some true
structure RowM where
  word : Str
  tests : List Str
  deeds : List Str
  opens : Bool
def rowNs : List Str := ["word", "tests", "deeds", "opens"]
def RowM.d (r : RowM) : D := .obj "Row" rowNs [.str r.word, .tup (r.tests.map D.str), .tup (r.deeds.map D.str), .bl r.opens]
/-- a row as Row(..) makes it -/
def RowM.ok (r : RowM) : Bool := decide (r.word ∈ wordsC) && (r.tests.all isTestM && (r.deeds.all isDeedM && ((decide (r.deeds.length = 0) || (decide (r.word ∈ learningC) && decide (("learn" : Str) ∈ r.deeds))) && (r.opens || !decide (r.word = "house")))))
section
variable {K : PySem.W.Frag} {ρ : Env'} {μ μ1 : Mu} {te : TE} {t : TA} {d : D} [KWords K] [KRow K]
def t_Row_init (K : PySem.W.Frag) : TS :=
  (tSeq (tAsg (tCall (sp_wrong_in K) [] E0 (tCons (tVar 1) (tCons (tVar 2) (tCons (tVar 3) (tCons (tVar 4) tNil))))) (gName 5))
      (tSeq (tIfS (tTest (tOp (rNotN) (tVar 5) (tC .non))) tNever tNext)
      (tSeq (sFld K (tVar 0) (tVar 1) "word")
      (tSeq (sFld K (tVar 0) (tCB (rTupOf K) (tCons (tVar 2) tNil)) "tests")
      (tSeq (sFld K (tVar 0) (tCB (rTupOf K) (tCons (tVar 3) tNil)) "deeds")
      (sFld K (tVar 0) (tVar 4) "opens"))))))
/-- the arguments of Row(..): texts in a list or a tuple -/
structure RowArgs (word tests deeds opens : D) (r : RowM) : Prop where
  w : word = .str r.word
  t : seqD tests = some (r.tests.map D.str)
  d : seqD deeds = some (r.deeds.map D.str)
  o : opens = .bl r.opens
  ok : r.ok = true
  zt : r.tests.length ≤ LB
  zd : r.deeds.length ≤ LB
def r_Row_init : List D → List Str → List D → Prop := fun ds ns fs => ∃ word tests deeds opens r, ds = [word, tests, deeds, opens] ∧ RowArgs word tests deeds opens r ∧ ns = rowNs ∧ fs = [.str r.word, .tup (r.tests.map D.str), .tup (r.deeds.map D.str), .bl r.opens]
abbrev sp_Row_init (K : PySem.W.Frag) : Sp := spD K (PhiInit "Row" r_Row_init)
theorem ln_Row_init {vs : List V} {H : Hp} {Q : VK} {E : XK} : sp_Row_init K vs H Q E → vs.length = 5 := ln_I fun _ _ _ ⟨_, _, _, _, _, e, _⟩ => by rw [e]; rfl
theorem isData_seq {d : D} {xs : List D} (h : seqD d = some xs) : isData d = true := by
  cases d <;> first | rfl | cases h
theorem okSeq_strs {d : D} {ss : List Str} (h : seqD d = some (ss.map D.str)) (hz : ss.length ≤ LB) : okSeq d = true := by
  unfold okSeq
  rw [isData_seq h, h]
  refine Bool.and_eq_true_iff.mpr ⟨rfl, Bool.and_eq_true_iff.mpr ⟨decide_eq_true (by rw [List.length_map]; exact hz), ?_⟩⟩
  rw [List.all_map]
  exact List.all_eq_true.mpr fun _ _ => rfl
theorem onStr_all {f : Str → Bool} {ss : List Str} : (ss.map D.str).all (onStr f) = ss.all f := by
  rw [List.all_map]
  rfl
theorem RowArgs.wrong {word tests deeds opens : D} {r : RowM} (h : RowArgs word tests deeds opens r) : wrongM word tests deeds opens = .non := by
  have hk := h.ok
  unfold RowM.ok at hk
  simp only [Bool.and_eq_true] at hk
  obtain ⟨k1, k2, k3, k4, k5⟩ := hk
  rw [h.w, h.o]
  show wrongS r.word tests deeds (.bl r.opens) = .non
  unfold wrongS
  have e1 : areTestsM tests = true := by
    unfold areTestsM
    rw [h.t]
    exact onStr_all.trans k2
  have e2 : areDeedsM deeds r.word = true := by
    unfold areDeedsM
    rw [h.d]
    show ((r.deeds.map D.str).all (onStr isDeedM) && _) = true
    rw [onStr_all, k3, hasLearn_strs, List.length_map]
    simpa using k4
  rw [if_pos (of_decide_eq_true k1), if_pos e1, if_pos e2]
  refine if_pos ?_
  rcases Bool.or_eq_true_iff.mp k5 with q | q
  · exact .inl q
  · exact .inr (by simpa using q)
theorem fn_Row_init : FnD K (t_Row_init K) 6 (PhiInit "Row" r_Row_init) := fn_I fun ds ns fs μ0 ⟨word, tests, deeds, opens, r, e1, ha, e2, e3⟩ => by
  subst e1 e2 e3
  obtain ⟨ew, et, ed, eo, _, _, _⟩ := id ha
  subst ew eo
  refine ⟨[], ?_⟩
  rw [List.append_nil]
  have hw := ha.wrong
  refine exn_seq (ex_set (c_wrong_in (ed_cons (ev_var rfl) (ed_cons (ev_var rfl) (ed_cons (ev_var rfl) (ed_cons (ev_var rfl) ed_nil)))) rfl (okSeq_strs ha.t ha.zt) (okSeq_strs ha.d ha.zd) rfl)) ?_
  refine exn_pass (eb_test (ev_notNd (ev_var rfl))) (by rw [hw]; rfl) ?_
  have hc := (KRow.ok (K := K)).cl
  refine exn_seq (ex_fldN rfl (ev_var rfl) hc (KRow.noat _ (by decide))) ?_
  refine exn_seq (ex_fldN rfl (ev_cbW (ea_cons (ev_var rfl) ea_nil) (c_tup (seqW_of ha.t))) hc (KRow.noat _ (by decide))) ?_
  refine exn_seq (ex_fldN rfl (ev_cbW (ea_cons (ev_var rfl) ea_nil) (c_tup (seqW_of ha.d))) hc (KRow.noat _ (by decide))) ?_
  exact exn_of (ex_fldN rfl (ev_var rfl) hc (KRow.noat _ (by decide))) rfl
theorem c_Row {word tests deeds opens : D} {r : RowM} {E : XK} (h : EvD K t ρ μ [word, tests, deeds, opens] μ1) (ha : RowArgs word tests deeds opens r) : Ev K (tMake (He.ga K "Row") (sp_Row_init K) [] E t) ρ μ (.val r.d) μ1 :=
  ev_make0 h ⟨word, tests, deeds, opens, r, rfl, ha, rfl, rfl⟩ rfl KRow.ok

/-! ### Row.fits -/
def fits1 (marks : List Str) (test : Str) : Bool := decide (decide (lst (wds test) ∈ marks) = decide (fst (wds test) = "not"))
def fitsM (tests marks : List Str) : Bool := !tests.any (fits1 marks)
theorem rowFld {r : RowM} {f : Str} {v : D} (h : Ev K te ρ μ (.val r.d) μ1) (hn : f ∈ (["word", "tests", "deeds", "opens"] : List Str)) (hf : [D.str r.word, .tup (r.tests.map D.str), .tup (r.deeds.map D.str), .bl r.opens][fpos f rowNs]? = some v) : Ev K (tFld K te f) ρ μ (.val v) μ1 :=
  ev_fld h (KRow.noat f hn) hf
def t_Row_fits (K : PySem.W.Frag) : TS :=
  (tSeq (tFor (iSeq K (tFld K (tVar 0) "tests")) (gName 2) (tSeq (tAsg (tM1 rSplit (tVar 2) (tC (.str " "))) (gName 3))
      (tIfS (tTest (tOp (rEqq K) (tOp (rInn K) (tOp (rIx K) (tVar 3) (tUn (rU fun i => .int (-i)) (tC (.int 1)))) (tVar 1)) (tOp (rEqq K) (tOp (rIx K) (tVar 3) (tC (.int 0))) (tC (.str "not"))))) (tRet (tC (.bl false))) tNext)))
      (tRet (tC (.bl true))))
def r_Row_fits : List D → D → Prop := fun ds d => ∃ r m marks, ds = [RowM.d r, m] ∧ seqD m = some (marks.map D.str) ∧ d = .bl (fitsM r.tests marks)
abbrev sp_Row_fits (K : PySem.W.Frag) : Sp := spR K r_Row_fits
theorem ln_Row_fits {vs : List V} {H : Hp} {Q : VK} {E : XK} : sp_Row_fits K vs H Q E → vs.length = 2 := ln_R fun _ _ ⟨_, _, _, e, _⟩ => by rw [e]; rfl
theorem fn_Row_fits : FnD K (t_Row_fits K) 4 (PhiR r_Row_fits) := fn_R fun ds d μ ⟨r, m, marks, e1, hm, e2⟩ => by
  subst e1 e2
  refine ⟨[], ?_⟩
  rw [List.append_nil]
  have hl := lp_find (K := K) (μ := μ) (C := CT) (g := gName 2) (tb := tSeq (tAsg (tM1 rSplit (tVar 2) (tC (.str " "))) (gName 3))
      (tIfS (tTest (tOp (rEqq K) (tOp (rInn K) (tOp (rIx K) (tVar 3) (tUn (rU fun i => .int (-i)) (tC (.int 1)))) (tVar 1)) (tOp (rEqq K) (tOp (rIx K) (tVar 3) (tC (.int 0))) (tC (.str "not"))))) (tRet (tC (.bl false))) tNext)) trivial
    (f := D.str) (p := fits1 marks) (w := fun _ => .val (.bl false)) (Inv := fun ρ => ∃ a b, ρ = [some (.val r.d), some (.val m), a, b]) (l := r.tests) (ρ := [some (.val r.d), some (.val m), none, none]) (fun x ρ hx ⟨a, b, e⟩ => by
      subst e
      have hc : EvB K _ _ μ (fits1 marks x) μ := eb_test (ev_op (ev_op (ev_op (ev_var (i := 3) (ρ := [some (.val r.d), some (.val m), some (.val (.str x)), some (.val (.lst ((wds x).map D.str)))]) rfl) (ev_neg ev_int) (o_ixW (at_lst (wds_ne x)))) (ev_var (i := 1) rfl) (o_inSeqS hm)) (ev_op (ev_op (ev_var (i := 3) rfl) ev_int (o_ixW (at_fst (wds_ne x)))) ev_str o_eqS) o_eqB)
      refine ⟨_, eg_name, fun h => ex_seq (ex_set (ev_wds (ev_var rfl))) (ex_if hc (fun _ => ex_ret ev_bl) fun h' => by rw [h] at h'; cases h'), fun h => ⟨_, ⟨_, _, rfl⟩, ex_seq (ex_set (ev_wds (ev_var rfl))) (ex_if hc (fun h' => by rw [h] at h'; cases h') fun _ => ex_next)⟩⟩) ⟨none, none, rfl⟩
  have hi : EvI K (iSeq K (tFld K (tVar 0) "tests")) [some (.val r.d), some (.val m), none, none] μ (r.tests.map D.str) μ CT := ei_seq (rowFld (ev_var rfl) (by decide) rfl) .tup
  cases e : r.tests.find? (fits1 marks) with
  | some x =>
    refine ex_seqR (ex_to (ex_for hi (hl.1 x e)) ?_)
    have : r.tests.any (fits1 marks) = true := List.any_eq_true.mpr ⟨x, List.mem_of_find?_eq_some e, List.find?_some e⟩
    unfold fitsM
    rw [this]
    rfl
  | none =>
    obtain ⟨ρ', _, h⟩ := hl.2 e
    refine ex_seq (ex_for hi h) (ex_retv ev_bl ?_)
    have : r.tests.any (fits1 marks) = false := by
      rw [List.any_eq_false]
      exact List.find?_eq_none.mp e
    unfold fitsM
    rw [this]
    rfl
theorem c_Row_fits {ta : TE} {μ2 : Mu} {r : RowM} {m : D} {marks : List Str} {E : XK} (h0 : Ev K ta ρ μ (.val r.d) μ1) (h : EvD K t ρ μ1 [m] μ2) (hm : seqD m = some (marks.map D.str)) : Ev K (tMeth (He.ga K "Row") "fits" (sp_Row_fits K) [] E ta t) ρ μ (.val (.bl (fitsM r.tests marks))) μ2 :=
  ev_meth0 h0 (by decide +kernel) h ⟨r, m, marks, rfl, hm, rfl⟩

/-! ### Row.marks_behind -/
def addK (ks : List Str) (s : Str) : List Str := if s ∈ ks then ks else ks ++ [s]
def delK (ks : List Str) (s : Str) : List Str := ks.filter fun k => !decide (k = s)
def deedM (ks : List Str) (deed : Str) : List Str := if fst (wds deed) = "mark" then addK ks ((wds deed).getD 1 "") else if fst (wds deed) = "clear" then delK ks ((wds deed).getD 1 "") else ks
def behindM (deeds marks : List Str) : List Str := srt (deeds.foldl deedM (marks.foldl addK []))
def kvM (ks : List Str) : List (Key × D) := ks.map fun s => ((.inr s : Key), D.bl true)
theorem kvM_put {s : Str} : ∀ {ks : List Str}, putD (kvM ks) (.inr s) (.bl true) = kvM (addK ks s) := by
  intro ks
  have hany : ((kvM ks).any fun kv => decide (kv.1 = (.inr s : Key))) = decide (s ∈ ks) := by
    unfold kvM
    rw [List.any_map]
    induction ks with
    | nil => rfl
    | cons k ks ih =>
      rw [List.any_cons, ih]
      by_cases h : k = s
      · subst h; simp
      · have h' : ¬ s = k := fun e => h e.symm
        have h2 : ¬ (Sum.inr k : Key) = .inr s := fun e => h (by injection e)
        simp [h', h2]
  unfold putD
  rw [hany]
  unfold addK
  by_cases h : s ∈ ks
  · rw [if_pos (decide_eq_true h), if_pos h]
    unfold kvM
    rw [List.map_map]
    refine List.map_congr_left fun k _ => ?_
    show (if (Sum.inr k : Key) = .inr s then ((Sum.inr k : Key), D.bl true) else _) = _
    split <;> rfl
  · rw [if_neg (by simpa using h), if_neg h]
    unfold kvM
    rw [List.map_append]
    rfl
theorem kvM_drop {s : Str} {ks : List Str} : dropD (kvM ks) (.inr s) = kvM (delK ks s) := by
  unfold dropD kvM delK
  rw [List.filter_map]
  congr 1
  refine List.filter_congr fun k _ => ?_
  show decide ((Sum.inr k : Key) ≠ .inr s) = !decide (k = s)
  by_cases h : k = s
  · subst h; simp
  · have h2 : ¬ (Sum.inr k : Key) = .inr s := fun e => h (by injection e)
    simp [h, h2]
theorem addK_len {ks : List Str} {s : Str} : (addK ks s).length ≤ ks.length + 1 := by
  unfold addK
  split
  · omega
  · simp
theorem delK_len {ks : List Str} {s : Str} : (delK ks s).length ≤ ks.length := List.length_filter_le _ _
theorem deedM_len {ks : List Str} {s : Str} : (deedM ks s).length ≤ ks.length + 1 := by
  unfold deedM
  split
  · exact addK_len
  · split
    · exact Nat.le_succ_of_le delK_len
    · omega
theorem addK_mem {ks : List Str} {s x : Str} (h : x ∈ addK ks s) : x ∈ ks ∨ x = s := by
  unfold addK at h
  split at h
  · exact .inl h
  · simpa using h
theorem name_ok {s : Str} (h : isNameM s = true) : sOk s := by
  unfold isNameM at h
  simp only [Bool.and_eq_true, decide_eq_true_eq] at h
  obtain ⟨⟨_, h1⟩, h2, _⟩ := h
  refine sOk_iff.mpr ⟨?_, fun c hc => ?_⟩
  · rw [← TL.len_tl]
    have : (4 : Nat) ≤ SB := by decide
    omega
  · have hm := of_decide_eq_true (List.all_eq_true.mp h2 c hc)
    have : ∀ c ∈ lettersC.cps.toList, c < 0x110000 := by decide +kernel
    exact this c hm
/-- a deed's words -/
theorem deed_cases {s : Str} (h : isDeedM s = true) : wds s = (["learn"] : List Str) ∨ ((wds s).length = 2 ∧ (fst (wds s) = "mark" ∨ fst (wds s) = "clear") ∧ isNameM ((wds s).getD 1 "") = true) := by
  unfold isDeedM at h
  simp only [Bool.or_eq_true, Bool.and_eq_true, decide_eq_true_eq] at h
  rcases h with h | ⟨h1, h2, h3⟩
  · exact .inl h
  · refine .inr ⟨h1, ?_, h3⟩
    simpa using h2
theorem deedM_ok {ks : List Str} {s : Str} (hk : ∀ k ∈ ks, sOk k) (h : isDeedM s = true) : ∀ k ∈ deedM ks s, sOk k := by
  intro k hm
  unfold deedM at hm
  split at hm
  · rename_i e
    rcases addK_mem hm with q | q
    · exact hk k q
    · rcases deed_cases h with z | ⟨_, _, z⟩
      · rw [z] at e
        exact absurd e (by decide +kernel)
      · rw [q]; exact name_ok z
  · split at hm
    · exact hk k ((List.mem_filter.mp hm).1)
    · exact hk k hm
def t_Row_marks_behind (K : PySem.W.Frag) : TS :=
  (tSeq (tAsg (tDc (iSeq K (tVar 1)) (gName 2) tYes (tVar 2) (tC (.bl true)) [2]) (gName 3))
      (tSeq (tFor (iSeq K (tFld K (tVar 0) "deeds")) (gName 4) (tSeq (tAsg (tM1 rSplit (tVar 4) (tC (.str " "))) (gName 5))
      (tIfS (tTest (tOp (rEqq K) (tOp (rIx K) (tVar 5) (tC (.int 0))) (tC (.str "mark")))) (sDPut (tVar 3) (tOp (rIx K) (tVar 5) (tC (.int 1))) (tC (.bl true))) (tIfS (tTest (tOp (rEqq K) (tOp (rIx K) (tVar 5) (tC (.int 0))) (tC (.str "clear")))) (tDrop (tDPop2 (tVar 3) (tOp (rIx K) (tVar 5) (tC (.int 1))) (tC .non))) tNext))))
      (tRet (tCB (rTupOf K) (tCons (tCB (rSortedS K) (tCons (tLockE (tLc (iKeys (tVar 3)) (gName 2) tYes (tCB (rStrS) (tCons (tVar 2) tNil)) [2])) tNil)) tNil)))))
def r_Row_marks_behind : List D → D → Prop := fun ds d => ∃ r m marks, ds = [RowM.d r, m] ∧ seqD m = some (marks.map D.str) ∧ (∀ s ∈ marks, sOk s) ∧ (∀ s ∈ r.deeds, isDeedM s = true) ∧ marks.length + r.deeds.length < 64 ∧ d = .tup ((behindM r.deeds marks).map D.str)
abbrev sp_Row_marks_behind (K : PySem.W.Frag) : Sp := spR K r_Row_marks_behind
theorem ln_Row_marks_behind {vs : List V} {H : Hp} {Q : VK} {E : XK} : sp_Row_marks_behind K vs H Q E → vs.length = 2 := ln_R fun _ _ ⟨_, _, _, e, _⟩ => by rw [e]; rfl
theorem foldl_len {β : Type} {f : List Str → β → List Str} (h : ∀ ks x, (f ks x).length ≤ ks.length + 1) : ∀ (l : List β) (ks : List Str), (l.foldl f ks).length ≤ ks.length + l.length
  | [], _ => Nat.le_refl _
  | x :: l, ks => by
    have h1 := foldl_len h l (f ks x)
    have h2 := h ks x
    rw [List.foldl_cons, List.length_cons]
    omega
theorem foldl_ok {β : Type} {f : List Str → β → List Str} : ∀ (l : List β) (ks : List Str), (∀ ks, ∀ x ∈ l, (∀ k ∈ ks, sOk k) → ∀ k ∈ f ks x, sOk k) → (∀ k ∈ ks, sOk k) → ∀ k ∈ l.foldl f ks, sOk k
  | [], _, _, h => h
  | x :: l, ks, hf, h => foldl_ok l (f ks x) (fun ks y hy => hf ks y (List.mem_cons_of_mem _ hy)) (hf ks x (by simp) h)
theorem fn_Row_marks_behind : FnD K (t_Row_marks_behind K) 6 (PhiR r_Row_marks_behind) := fn_R fun ds d μ ⟨r, m, marks, e1, hm, hk, hd, hz, e2⟩ => by
  subst e1 e2
  refine ⟨[.dK (kvM (r.deeds.foldl deedM (marks.foldl addK [])))], ?_⟩
  have z64 : (64 : Nat) ≤ LB := by decide
  have hdc : ∀ (l : List Str) (acc : List Str), Dc K (gName 2) tYes (tVar 2) (tC (.bl true)) [2] (seqC (.val m) (marks.map D.str)) (wipeE [some (.val r.d), some (.val m), none, none, none, none] [2]) (l.map D.str) μ (kvM acc) μ (kvM (l.foldl addK acc)) := by
    intro l
    induction l with
    | nil => intro acc; exact .nil
    | cons x l ih =>
      intro acc
      refine .take (k := .inr x) (y := .bl true) egc_name eb_yes (ev_var (w := .val (.str x)) rfl) ev_bl (seqC_of (seqW_of hm)) ?_
      rw [kvM_put]
      exact ih (addK acc x)
  have h1 := ev_dc (K := K) (ei_seq (ev_var (i := 1) (ρ := [some (.val r.d), some (.val m), none, none, none, none]) rfl) (seqW_of hm)) (hdc marks []) (by rw [List.length_map]; omega)
  refine ex_seq (ex_set h1) ?_
  obtain ⟨ρ', ⟨a, b, c, e⟩, hl, _⟩ := lp_fold (K := K) (C := CT) (g := gName 4) (tb := tSeq (tAsg (tM1 rSplit (tVar 4) (tC (.str " "))) (gName 5))
      (tIfS (tTest (tOp (rEqq K) (tOp (rIx K) (tVar 5) (tC (.int 0))) (tC (.str "mark")))) (sDPut (tVar 3) (tOp (rIx K) (tVar 5) (tC (.int 1))) (tC (.bl true))) (tIfS (tTest (tOp (rEqq K) (tOp (rIx K) (tVar 5) (tC (.int 0))) (tC (.str "clear")))) (tDrop (tDPop2 (tVar 3) (tOp (rIx K) (tVar 5) (tC (.int 1))) (tC .non))) tNext)))
    (f := D.str) (m := fun ks => μ ++ [MO.dK (kvM ks)]) (step := deedM) (Inv := fun ρ => ∃ a b c, ρ = [some (.val r.d), some (.val m), a, some (.loc μ.length), b, c]) (l := r.deeds) (I := fun n ks => ks.length ≤ marks.length + n) (ρ := [some (.val r.d), some (.val m), none, some (.loc μ.length), none, none]) (s := marks.foldl addK [])
    (fun n x ρ ks hx ⟨a, b, c, e⟩ hI => by
      subst e
      have hdx := hd x (List.mem_of_getElem? hx)
      have hn : n < r.deeds.length := (List.getElem?_eq_some_iff.mp hx).1
      have hj : (μ ++ [MO.dK (kvM ks)])[μ.length]? = some (.dK (kvM ks)) := by simp
      have ht : ∀ s : Str, sOk s → EvB K (tTest (tOp (rEqq K) (tOp (rIx K) (tVar 5) (tC (.int 0))) (tC (.str s)))) [some (.val r.d), some (.val m), a, some (.loc μ.length), some (.val (.str x)), some (.val (.lst ((wds x).map D.str)))] (μ ++ [MO.dK (kvM ks)]) (decide (fst (wds x) = s)) (μ ++ [MO.dK (kvM ks)]) := fun s hs =>
        eb_test (ev_op (ev_op (ev_var rfl) ev_int (o_ixW (at_fst (wds_ne x)))) (ev_str hs) o_eqS)
      have h1 : (wds x).length = 2 → Ev K (tOp (rIx K) (tVar 5) (tC (.int 1))) [some (.val r.d), some (.val m), a, some (.loc μ.length), some (.val (.str x)), some (.val (.lst ((wds x).map D.str)))] (μ ++ [MO.dK (kvM ks)]) (.val (keyD (.inr ((wds x).getD 1 "")))) (μ ++ [MO.dK (kvM ks)]) := fun h =>
        ev_op (ev_var rfl) ev_int (o_ixW (two_at h).2)
      refine ⟨_, _, eg_name, ex_seq (ex_set (ev_wds (ev_var rfl))) (ρ1 := [some (.val r.d), some (.val m), a, some (.loc μ.length), some (.val (.str x)), some (.val (.lst ((wds x).map D.str)))]) (ex_if (o := .nx [some (.val r.d), some (.val m), a, some (.loc μ.length), some (.val (.str x)), some (.val (.lst ((wds x).map D.str)))] (μ ++ [MO.dK (kvM (deedM ks x))])) (ht "mark" ⟨by decide +kernel, by decide +kernel⟩) (fun h => ?_) fun h => ?_), ⟨_, _, _, rfl⟩, trivial, Nat.le_trans deedM_len (by omega)⟩
      · have e := of_decide_eq_true h
        have e2 : deedM ks x = addK ks ((wds x).getD 1 "") := if_pos e
        have hl : (wds x).length = 2 := by
          rcases deed_cases hdx with z | ⟨z, _⟩
          · rw [z] at e
            exact absurd e (by decide +kernel)
          · exact z
        have := ex_dput (K := K) (k := .inr ((wds x).getD 1 "")) (ev_bl (n := true)) (ev_var (i := 3) (w := .loc μ.length) rfl) (h1 hl) hj (by unfold kvM; rw [List.length_map]; omega)
        rw [set_last, kvM_put, ← e2] at this
        exact this
      · have e := of_decide_eq_false h
        refine ex_if (ht "clear" ⟨by decide +kernel, by decide +kernel⟩) (fun h => ?_) fun h => ?_
        · have e' := of_decide_eq_true h
          have e2 : deedM ks x = delK ks ((wds x).getD 1 "") := by
            unfold deedM
            rw [if_neg e, if_pos e']
          have hl : (wds x).length = 2 := by
            rcases deed_cases hdx with z | ⟨z, _⟩
            · rw [z] at e'
              exact absurd e' (by decide +kernel)
            · exact z
          have := ex_drop (ev_dpop2 (K := K) (ev_var (i := 3) (w := .loc μ.length) rfl) (h1 hl) ev_non hj)
          rw [set_last, kvM_drop, ← e2] at this
          exact this
        · have e' := of_decide_eq_false h
          have e2 : deedM ks x = ks := by
            unfold deedM
            rw [if_neg e, if_neg e']
          rw [e2]
          exact ex_next) ⟨none, none, none, rfl⟩ (by have := foldl_len (fun ks x => addK_len (ks := ks) (s := x)) marks []; simpa using this)
  refine ex_seq (ex_for (ei_seq (rowFld (ev_var rfl) (by decide) rfl) .tup) hl) ?_
  subst e
  have hlen : (r.deeds.foldl deedM (marks.foldl addK [])).length < 64 := by
    have h1 := foldl_len (fun ks x => addK_len (ks := ks) (s := x)) marks []
    have h2 := foldl_len (fun ks x => deedM_len (ks := ks) (s := x)) r.deeds (marks.foldl addK [])
    simp only [List.length_nil] at h1
    omega
  have hok : ∀ k ∈ r.deeds.foldl deedM (marks.foldl addK []), sOk k := foldl_ok r.deeds _ (fun ks x hx h => deedM_ok h (hd x hx)) (foldl_ok marks [] (fun ks x hx h k hk' => (addK_mem hk').elim (h k) fun q => q ▸ hk x hx) (by simp))
  have hkeys := ev_lcKeys (K := K) (ρ := [some (.val r.d), some (.val m), a, some (.loc μ.length), b, c]) (ta := tVar 3) (te := tCB rStrS (tCons (tVar 2) tNil)) (g := gName 2) (tt := tYes) (vs := [2]) (j := μ.length) (μ := μ ++ [MO.dK (kvM (r.deeds.foldl deedM (marks.foldl addK [])))]) (kvs := kvM (r.deeds.foldl deedM (marks.foldl addK []))) (ys := (r.deeds.foldl deedM (marks.foldl addK [])).map D.str)
    (fun μ0 => ev_var rfl) (by simp) (fun k hk' s e => by
      obtain ⟨x, hx, ex⟩ := List.mem_map.mp hk'
      rw [← ex] at e
      injection e with e
      rw [← e]
      exact hok x hx) (fun o C hC => by
      have e : (kvM (r.deeds.foldl deedM (marks.foldl addK []))).map (fun kv => keyD kv.1) = (r.deeds.foldl deedM (marks.foldl addK [])).map D.str := by
        unfold kvM
        rw [List.map_map]
        rfl
      rw [e]
      exact lc_on hC fun x hx => ⟨_, egc_name, ev_cb (ed_cons (ev_var rfl) ed_nil) c_strS⟩) (by unfold kvM; rw [List.length_map]; omega)
  exact ex_ret (ev_cbW (ea_cons (ev_cb (ed_cons hkeys ed_nil) (c_sortS hlen)) ea_nil) (c_tup .lst))
theorem c_marks_behind {ta : TE} {μ2 : Mu} {r : RowM} {m : D} {marks : List Str} {E : XK} (h0 : Ev K ta ρ μ (.val r.d) μ1) (h : EvD K t ρ μ1 [m] μ2) (hm : seqD m = some (marks.map D.str)) (h1 : ∀ s ∈ marks, sOk s) (h2 : ∀ s ∈ r.deeds, isDeedM s = true) (h3 : marks.length + r.deeds.length < 64) :
    Ev K (tMeth (He.ga K "Row") "marks_behind" (sp_Row_marks_behind K) [] E ta t) ρ μ (.val (.tup ((behindM r.deeds marks).map D.str))) μ2 :=
  ev_meth0 h0 (by decide +kernel) h ⟨r, m, marks, rfl, hm, h1, h2, h3, rfl⟩
end
end DK

/-! DKL: tools. -/
namespace DK
open PySem PySem.Spec PyProof.Rows L2

class KTool (K : PySem.W.Frag) : Prop where
  ok : ClsOk K (He.ga K "Tool")
  noat : ∀ f : Str, f ∈ (["window", "rows", "marks"] : List Str) → NoAttr K (He.ga K "Tool") f
  isTool : PySem.W.kitOne K (.ref (He.ga K "Tool")) (.ref (He.ga K "Tool")) = some true
section
variable {K : PySem.W.Frag} {ρ : Env'} {μ μ1 μ2 : Mu} {te ta : TE} {t : TA} [KWords K] [KRow K]
/-! ### names_in -/
def hasSp (s : Str) : Bool := decide (32 ∈ s.cps.toList)
def textsM (rs : List RowM) : List Str := rs.flatMap fun r => (r.tests ++ r.deeds).filter hasSp
def namesM (rs : List RowM) : List Str := srtU ((textsM rs).map fun t => lst (wds t))
def t_names_in (K : PySem.W.Frag) (wd : World) : TS :=
  (tSeq (tAsg (tLc2 (iSeq K (tVar 0)) (gName 1) tYes (iSeq K (tTup (StX.tStar K (tFld K (tVar 1) "tests") (StX.tStar K (tFld K (tVar 1) "deeds") tNil)))) (gName 2) (tTest (tOp (rInn K) (tC (.str " ")) (tVar 2))) (tVar 2) [1, 2] [2]) (gName 3))
      (tRet (tCB (rTupOf K) (tCons (tCB (rSetSorted wd) (tCons (tScS wd (iSeq K (tVar 3)) (gName 2) tYes (tOp (rIx K) (tM1 rSplit (tVar 2) (tC (.str " "))) (tUn (rU fun i => .int (-i)) (tC (.int 1)))) [2]) tNil)) tNil))))
def r_names_in : List D → D → Prop := fun ds d => ∃ x rs, ds = [x] ∧ seqD x = some (rs.map RowM.d) ∧ (textsM rs).length < 64 ∧ rs.length ≤ LB ∧ (∀ r ∈ rs, r.tests.length + r.deeds.length < 64) ∧ d = .tup ((namesM rs).map D.str)
abbrev sp_names_in (K : PySem.W.Frag) : Sp := spR K r_names_in
theorem ln_names_in {vs : List V} {H : Hp} {Q : VK} {E : XK} : sp_names_in K vs H Q E → vs.length = 1 := ln_R fun _ _ ⟨_, _, e, _⟩ => by rw [e]; rfl
theorem o_spIn {s : Str} : Op2 K (rInn K) (.str " ") (.str s) (.bl (hasSp s)) := o_inC (c := 32)
theorem fn_names_in {wd : World} : FnD K (t_names_in K wd) 4 (PhiR r_names_in) := fn_R fun ds d μ ⟨x, rs, e1, hx, hz, hzr, hrs, e2⟩ => by
  subst e1 e2
  refine ⟨[], ?_⟩
  rw [List.append_nil]
  have z64 : (64 : Nat) ≤ LB := by decide
  have h2 : ∀ (l : List RowM), (∀ r ∈ l, r.tests.length + r.deeds.length < 64) → Lc2 K (gName 1) tYes (iSeq K (tTup (StX.tStar K (tFld K (tVar 1) "tests") (StX.tStar K (tFld K (tVar 1) "deeds") tNil)))) (gName 2) (tTest (tOp (rInn K) (tC (.str " ")) (tVar 2))) (tVar 2) [1, 2] [2] (wipeE [some (.val x), none, none, none] [1, 2]) μ (l.map RowM.d) ((textsM l).map D.str) := by
    intro l hl
    induction l with
    | nil => exact .nil
    | cons r l ih =>
      have e : (textsM (r :: l)).map D.str = ((r.tests ++ r.deeds).filter hasSp).map D.str ++ (textsM l).map D.str := by
        unfold textsM
        rw [List.flatMap_cons, List.map_append]
      rw [e, List.map_cons]
      refine .take (us := (r.tests ++ r.deeds).map D.str) egc_name eb_yes ?_ (lc_onIf trivial fun s hs => ⟨_, egc_name, eb_test (ev_op ev_str (ev_var rfl) o_spIn), fun _ => ev_var rfl⟩) (ih fun r hr => hl r (List.mem_cons_of_mem _ hr))
      have h3 : EvD K (StX.tStar K (tFld K (tVar 1) "tests") (StX.tStar K (tFld K (tVar 1) "deeds") tNil)) ((wipeE [some (.val x), none, none, none] [1, 2]).set 1 (some (.val r.d))) μ (r.tests.map D.str ++ (r.deeds.map D.str ++ [])) μ :=
        ea_star (rowFld (ev_var rfl) (by decide) rfl) .tup (ea_star (rowFld (ev_var rfl) (by decide) rfl) .tup ed_nil)
      rw [List.append_nil, ← List.map_append] at h3
      exact ei_seq (ev_tup h3 (by rw [List.length_map, List.length_append]; have := hl r (by simp); omega)) .tup
  have hi : EvI K (iSeq K (tVar 0)) [some (.val x), none, none, none] μ (rs.map RowM.d) μ (seqC (.val x) (rs.map RowM.d)) := ei_seq (ev_var rfl) (seqW_of hx)
  refine ex_seq (ex_set (ev_lc2 ⟨trivial, hi.2⟩ (h2 rs hrs) (by rw [List.length_map]; omega))) ?_
  refine ex_ret (ev_cbW (ea_cons (ev_setSorted (ss := (textsM rs).map fun t => lst (wds t)) (ei_seq (ev_var rfl) .lst) ?_ (by rw [List.length_map]; exact hz)) ea_nil) (c_tup .lst))
  rw [List.map_map]
  exact lc_on trivial fun s hs => ⟨_, egc_name, ev_op (ev_wds (ev_var rfl)) (ev_neg ev_int) (o_ixW (at_lst (wds_ne s)))⟩
theorem c_names_in {x : D} {rs : List RowM} {E : XK} (h : EvD K t ρ μ [x] μ1) (hx : seqD x = some (rs.map RowM.d)) (hz : (textsM rs).length < 64) (hl : rs.length ≤ LB) (hr : ∀ r ∈ rs, r.tests.length + r.deeds.length < 64) : Ev K (tCall (sp_names_in K) [] E t) ρ μ (.val (.tup ((namesM rs).map D.str))) μ1 :=
  ev_call0 h ⟨x, rs, rfl, hx, hz, hl, hr, rfl⟩

/-! ### Tool -/
structure ToolM where
  window : Int
  rows : List RowM
def toolNs : List Str := ["window", "rows", "marks"]
def ToolM.fs (T : ToolM) : List D := [.int T.window, .tup (T.rows.map RowM.d), .tup ((namesM T.rows).map D.str)]
def ToolM.d (T : ToolM) : D := .obj "Tool" toolNs T.fs
/-- sizes, and rows as Row(..) makes them -/
structure ToolM.Ok (T : ToolM) : Prop where
  win : 1 ≤ T.window
  txt : (textsM T.rows).length < 64
  len : T.rows.length ≤ LB
  row : ∀ r ∈ T.rows, r.tests.length + r.deeds.length < 64
  ok : ∀ r ∈ T.rows, r.ok = true
variable [KTool K]
def t_Tool_init (K : PySem.W.Frag) : TS :=
  (tSeq (tIfS (tOr (tNot (tB (tCall (sp_is_integer K) [] E0 (tCons (tVar 1) tNil)))) (tTest (tOp (rLt') (tVar 1) (tC (.int 1))))) tNever tNext)
      (tSeq (tIfS (tOr (tNot (tB (tCall (sp_is_sequence K) [] E0 (tCons (tVar 2) tNil)))) (tNot (tB (tCB (rAll K) (tCons (tLc (iSeq K (tVar 2)) (gName 3) tYes (tCB (rIsi K) (tCons (tVar 3) (tCons (tC (.ref (He.ga K "Row"))) tNil))) [3]) tNil))))) tNever tNext)
      (tSeq (sFld K (tVar 0) (tVar 1) "window")
      (tSeq (sFld K (tVar 0) (tCB (rTupOf K) (tCons (tVar 2) tNil)) "rows")
      (sFld K (tVar 0) (tCall (sp_names_in K) [] E0 (tCons (tFld K (tVar 0) "rows") tNil)) "marks")))))
def r_Tool_init : List D → List Str → List D → Prop := fun ds ns fs => ∃ x T, ds = [.int (ToolM.window T), x] ∧ seqD x = some (T.rows.map RowM.d) ∧ T.Ok ∧ ns = toolNs ∧ fs = T.fs
abbrev sp_Tool_init (K : PySem.W.Frag) : Sp := spD K (PhiInit "Tool" r_Tool_init)
theorem ln_Tool_init {vs : List V} {H : Hp} {Q : VK} {E : XK} : sp_Tool_init K vs H Q E → vs.length = 3 := ln_I fun _ _ _ ⟨_, _, e, _⟩ => by rw [e]; rfl
theorem isSeqD_of {d : D} {xs : List D} (h : seqD d = some xs) : isSeqD d = true := by
  cases d <;> first | rfl | cases h
theorem fn_Tool_init : FnD K (t_Tool_init K) 4 (PhiInit "Tool" r_Tool_init) := fn_I fun ds ns fs μ0 ⟨x, T, e1, hx, hT, e2, e3⟩ => by
  subst e1 e2 e3
  refine ⟨[], ?_⟩
  rw [List.append_nil]
  have hc := (KTool.ok (K := K)).cl
  refine exn_pass (eb_or (eb_not (eb_B (c_is_integer (ed_cons (ev_var rfl) ed_nil) rfl))) fun _ => eb_test (ev_op (ev_var rfl) ev_int o_lt)) ?_ ?_
  · have h : decide (T.window < 1) = false := decide_eq_false (by have := hT.win; omega)
    rw [h]
    rfl
  have ha : (T.rows.all fun _ => true) = true := List.all_eq_true.mpr fun _ _ => rfl
  refine exn_pass (eb_or (eb_not (eb_B (c_is_sequence (ed_cons (ev_var rfl) ed_nil) (isData_seq hx)))) fun _ => eb_not (eb_B (ev_all (p := fun _ => true) (ei_seq (ev_var rfl) (seqW_of hx)) (fun r hr => ⟨_, egc_name, ev_cb (ed_cons (ev_var rfl) (ed_cons ev_cls ed_nil)) (c_isC (d := RowM.d r) rfl KRow.isRow)⟩) hT.len))) ?_ ?_
  · rw [ha, isSeqD_of hx]
    rfl
  refine exn_seq (ex_fldN rfl (ev_var rfl) hc (KTool.noat _ (by decide))) ?_
  refine exn_seq (ex_fldN rfl (ev_cbW (ea_cons (ev_var rfl) ea_nil) (c_tup (seqW_of hx))) hc (KTool.noat _ (by decide))) ?_
  refine exn_of (ex_fldN rfl (c_names_in (ed_cons (ev_fldL rfl hc (KTool.noat _ (by decide)) rfl) ed_nil) rfl hT.txt hT.len hT.row) hc (KTool.noat _ (by decide))) rfl
theorem c_Tool {x : D} {T : ToolM} {E : XK} (h : EvD K t ρ μ [.int T.window, x] μ1) (hx : seqD x = some (T.rows.map RowM.d)) (hT : T.Ok) : Ev K (tMake (He.ga K "Tool") (sp_Tool_init K) [] E t) ρ μ (.val T.d) μ1 :=
  ev_make0 h ⟨x, T, rfl, hx, hT, rfl, rfl⟩ rfl KTool.ok
theorem toolFld {T : ToolM} {f : Str} {v : D} (h : Ev K te ρ μ (.val T.d) μ1) (hn : f ∈ (["window", "rows", "marks"] : List Str)) (hf : T.fs[fpos f toolNs]? = some v) : Ev K (tFld K te f) ρ μ (.val v) μ1 :=
  ev_fld h (KTool.noat f hn) hf
def t_Tool_at_window (K : PySem.W.Frag) : TS :=
  (tRet (tMake (He.ga K "Tool") (sp_Tool_init K) [] E0 (tCons (tVar 1) (tCons (tFld K (tVar 0) "rows") tNil))))
def r_Tool_at_window : List D → D → Prop := fun ds d => ∃ (T : ToolM) (w : Int), ds = [T.d, .int w] ∧ T.Ok ∧ 1 ≤ w ∧ d = ToolM.d ⟨w, T.rows⟩
abbrev sp_Tool_at_window (K : PySem.W.Frag) : Sp := spR K r_Tool_at_window
theorem ln_Tool_at_window {vs : List V} {H : Hp} {Q : VK} {E : XK} : sp_Tool_at_window K vs H Q E → vs.length = 2 := ln_R fun _ _ ⟨_, _, e, _⟩ => by rw [e]; rfl
theorem fn_Tool_at_window : FnD K (t_Tool_at_window K) 2 (PhiR r_Tool_at_window) := fn_R fun ds d μ ⟨T, w, e1, hT, hw, e2⟩ => by
  subst e1 e2
  refine ⟨[], ?_⟩
  rw [List.append_nil]
  exact ex_ret (c_Tool (T := ⟨w, T.rows⟩) (ed_cons (ev_var rfl) (ed_cons (toolFld (ev_var rfl) (by decide) rfl) ed_nil)) rfl ⟨hw, hT.txt, hT.len, hT.row, hT.ok⟩)
theorem c_at_window {T : ToolM} {w : Int} {E : XK} (h0 : Ev K ta ρ μ (.val T.d) μ1) (h : EvD K t ρ μ1 [.int w] μ2) (hT : T.Ok) (hw : 1 ≤ w) : Ev K (tMeth (He.ga K "Tool") "at_window" (sp_Tool_at_window K) [] E ta t) ρ μ (.val (ToolM.d ⟨w, T.rows⟩)) μ2 :=
  ev_meth0 h0 (by decide +kernel) h ⟨T, w, rfl, hT, hw, rfl⟩
def t_Tool_word_of (K : PySem.W.Frag) : TS :=
  (tSeq (tAsg (tOp (rMinus) (tVar 2) (tVar 1)) (gName 3))
      (tSeq (tIfS (tTest (tOp (rLt') (tVar 3) (tC (.int 0)))) (tRet (tIf (tTest (tOp (rEqq K) (tVar 3) (tUn (rU fun i => .int (-i)) (tC (.int 1))))) (tC (.str "last")) (tC (.str "elder")))) tNext)
      (tSeq (tIfS (tTest (tOp (rLt') (tVar 3) (tC (.int 2)))) (tRet (tIf (tTest (tOp (rEqq K) (tVar 3) (tC (.int 0)))) (tC (.str "same")) (tC (.str "next")))) tNext)
      (tRet (tIf (tTest (tOp (rLe') (tVar 3) (tFld K (tVar 0) "window"))) (tC (.str "near")) (tC (.str "far")))))))
def wordM (window ahead : Int) : Str := if ahead < 0 then (if ahead = -1 then "last" else "elder") else if ahead < 2 then (if ahead = 0 then "same" else "next") else if ahead ≤ window then "near" else "far"
def r_Tool_word_of : List D → D → Prop := fun ds d => ∃ (T : ToolM) (n c : Int), ds = [T.d, .int n, .int c] ∧ d = .str (wordM T.window (c - n))
abbrev sp_Tool_word_of (K : PySem.W.Frag) : Sp := spR K r_Tool_word_of
theorem ln_Tool_word_of {vs : List V} {H : Hp} {Q : VK} {E : XK} : sp_Tool_word_of K vs H Q E → vs.length = 3 := ln_R fun _ _ ⟨_, _, _, e, _⟩ => by rw [e]; rfl
theorem val_if {k : Bool} {p : Prop} [Decidable p] (h : k = decide p) {a b : Str} : W.val (if k = true then D.str a else .str b) = .val (.str (if p then a else b)) := by
  subst h
  by_cases q : p <;> simp [q]
theorem fn_Tool_word_of : FnD K (t_Tool_word_of K) 4 (PhiR r_Tool_word_of) := fn_R fun ds d μ ⟨T, n, c, e1, e2⟩ => by
  subst e1 e2
  refine ⟨[], ?_⟩
  rw [List.append_nil]
  refine ex_seq (ex_set (ev_op (ev_var rfl) (ev_var rfl) o_sub)) ?_
  refine ex_guard (eb_test (ev_op (ev_var rfl) ev_int o_lt)) (fun h => ex_retv (ev_ifD (eb_test (ev_op (ev_var rfl) (ev_neg ev_int) o_eqI)) (fun _ => ev_str) fun _ => ev_str) ?_) fun h => ?_
  · rw [val_if rfl]
    unfold wordM
    rw [if_pos (of_decide_eq_true h)]
  refine ex_guard (eb_test (ev_op (ev_var rfl) ev_int o_lt)) (fun h2 => ex_retv (ev_ifD (eb_test (ev_op (ev_var rfl) ev_int o_eqI)) (fun _ => ev_str) fun _ => ev_str) ?_) fun h2 => ?_
  · rw [val_if rfl]
    unfold wordM
    rw [if_neg (of_decide_eq_false h), if_pos (of_decide_eq_true h2)]
  refine ex_retv (ev_ifD (eb_test (ev_op (ev_var rfl) (toolFld (ev_var rfl) (by decide) rfl) o_le)) (fun _ => ev_str) fun _ => ev_str) ?_
  rw [val_if rfl]
  unfold wordM
  rw [if_neg (of_decide_eq_false h), if_neg (of_decide_eq_false h2)]
theorem c_word_of {T : ToolM} {n c : Int} {E : XK} (h0 : Ev K ta ρ μ (.val T.d) μ1) (h : EvD K t ρ μ1 [.int n, .int c] μ2) : Ev K (tMeth (He.ga K "Tool") "word_of" (sp_Tool_word_of K) [] E ta t) ρ μ (.val (.str (wordM T.window (c - n)))) μ2 :=
  ev_meth0 h0 (by decide +kernel) h ⟨T, n, c, rfl, rfl⟩
/-! ### row_for -/
def enumR : Nat → List RowM → List (Nat × RowM)
  | _, [] => []
  | n, x :: xs => (n, x) :: enumR (n + 1) xs
theorem enumR_d : ∀ (n : Nat) (rs : List RowM), enumD n (rs.map RowM.d) = (enumR n rs).map fun p => D.tup [.int (p.1 : Nat), p.2.d]
  | _, [] => rfl
  | n, x :: xs => by
    rw [List.map_cons, enumD, enumR, List.map_cons, enumR_d]
theorem enumR_at : ∀ {n : Nat} {rs : List RowM} {p : Nat × RowM}, p ∈ enumR n rs → n ≤ p.1 ∧ rs[p.1 - n]? = some p.2
  | _, [], _, h => by cases h
  | n, x :: xs, p, h => by
    rcases List.mem_cons.mp h with e | h
    · subst e
      simp
    · obtain ⟨h1, h2⟩ := enumR_at h
      refine ⟨by omega, ?_⟩
      rw [show p.1 - n = (p.1 - (n + 1)) + 1 by omega]
      simpa using h2
def fitP (word : Str) (marks : List Str) (p : Nat × RowM) : Bool := decide (p.2.word = word) && fitsM p.2.tests marks
def rowForM (rs : List RowM) (word : Str) (marks : List Str) : Option (Nat × RowM) := (enumR 0 rs).find? (fitP word marks)
def atD : Option (Nat × RowM) → D
  | some p => .int (p.1 : Nat)
  | none => .non
def t_Tool_row_for (K : PySem.W.Frag) : TS :=
  (tSeq (tFor (iEnumA K (tCons (tFld K (tVar 0) "rows") tNil)) (gTup K 2 (gCons (gName 3) (gCons (gName 4) gNil))) (tIfS (tAnd (tTest (tOp (rEqq K) (tFld K (tVar 4) "word") (tVar 1))) (tB (tMeth (He.ga K "Row") "fits" (sp_Row_fits K) [] E0 (tVar 4) (tCons (tVar 2) tNil)))) (tRet (tVar 3)) tNext))
      (tRet (tC .non)))
def r_Tool_row_for : List D → D → Prop := fun ds d => ∃ (T : ToolM) (w : Str) (m : D) (marks : List Str), ds = [T.d, .str w, m] ∧ seqD m = some (marks.map D.str) ∧ d = atD (rowForM T.rows w marks)
abbrev sp_Tool_row_for (K : PySem.W.Frag) : Sp := spR K r_Tool_row_for
theorem ln_Tool_row_for {vs : List V} {H : Hp} {Q : VK} {E : XK} : sp_Tool_row_for K vs H Q E → vs.length = 3 := ln_R fun _ _ ⟨_, _, _, _, e, _⟩ => by rw [e]; rfl
theorem fn_Tool_row_for : FnD K (t_Tool_row_for K) 5 (PhiR r_Tool_row_for) := fn_R fun ds d μ ⟨T, w, m, marks, e1, hm, e2⟩ => by
  subst e1 e2
  refine ⟨[], ?_⟩
  rw [List.append_nil]
  have hi : EvI K (iEnumA K (tCons (tFld K (tVar 0) "rows") tNil)) [some (.val T.d), some (.val (.str w)), some (.val m), none, none] μ ((enumR 0 T.rows).map fun p => D.tup [.int (p.1 : Nat), p.2.d]) μ CT := by
    rw [← enumR_d]
    exact ei_enum (ea_cons (toolFld (ev_var rfl) (by decide) rfl) ea_nil) .tup
  have hl := lp_find (K := K) (μ := μ) (C := CT) (g := gTup K 2 (gCons (gName 3) (gCons (gName 4) gNil))) (tb := tIfS (tAnd (tTest (tOp (rEqq K) (tFld K (tVar 4) "word") (tVar 1))) (tB (tMeth (He.ga K "Row") "fits" (sp_Row_fits K) [] E0 (tVar 4) (tCons (tVar 2) tNil)))) (tRet (tVar 3)) tNext) trivial
    (f := fun p : Nat × RowM => D.tup [.int (p.1 : Nat), p.2.d]) (p := fitP w marks) (w := fun p => .val (.int (p.1 : Nat))) (Inv := fun ρ => ∃ a b, ρ = [some (.val T.d), some (.val (.str w)), some (.val m), a, b]) (l := enumR 0 T.rows) (ρ := [some (.val T.d), some (.val (.str w)), some (.val m), none, none]) (fun x ρ hx ⟨a, b, e⟩ => by
      subst e
      have hc : EvB K _ [some (.val T.d), some (.val (.str w)), some (.val m), some (.val (.int (x.1 : Nat))), some (.val x.2.d)] μ (fitP w marks x) μ := eb_and (eb_test (ev_op (rowFld (te := tVar 4) (f := "word") (ev_var rfl) (by decide) rfl) (ev_var (i := 1) rfl) o_eqS)) fun _ => eb_B (c_Row_fits (E := E0) (ev_var (i := 4) rfl) (ed_cons (ev_var (i := 2) rfl) ed_nil) hm)
      have hg : EvG K (gTup K 2 (gCons (gName 3) (gCons (gName 4) gNil))) (.val (.tup [.int (x.1 : Nat), x.2.d])) [some (.val T.d), some (.val (.str w)), some (.val m), a, b] [some (.val T.d), some (.val (.str w)), some (.val m), some (.val (.int (x.1 : Nat))), some (.val x.2.d)] := eg_tup rfl (egs_cons eg_name (egs_cons eg_name egs_nil))
      exact ⟨_, hg, fun h => ex_if hc (fun _ => ex_ret (ev_var rfl)) (fun h' => by rw [h] at h'; cases h'), fun h => ⟨_, ⟨_, _, rfl⟩, ex_if hc (fun h' => by rw [h] at h'; cases h') fun _ => ex_next⟩⟩) ⟨none, none, rfl⟩
  cases e : (enumR 0 T.rows).find? (fitP w marks) with
  | some x =>
    refine ex_seqR (ex_to (ex_for hi (hl.1 x e)) ?_)
    unfold rowForM
    rw [e]
    rfl
  | none =>
    obtain ⟨ρ', _, h⟩ := hl.2 e
    refine ex_seq (ex_for hi h) (ex_retv ev_non ?_)
    unfold rowForM
    rw [e]
    rfl
theorem c_row_for {T : ToolM} {w : Str} {m : D} {marks : List Str} {E : XK} (h0 : Ev K ta ρ μ (.val T.d) μ1) (h : EvD K t ρ μ1 [.str w, m] μ2) (hm : seqD m = some (marks.map D.str)) : Ev K (tMeth (He.ga K "Tool") "row_for" (sp_Tool_row_for K) [] E ta t) ρ μ (.val (atD (rowForM T.rows w marks))) μ2 :=
  ev_meth0 h0 (by decide +kernel) h ⟨T, w, m, marks, rfl, hm, rfl⟩
/-! ### answer -/
def answerM (T : ToolM) (number : Int) (marks : List Str) (card : Int) : D := match rowForM T.rows (wordM T.window (card - number)) (srt marks) with
  | none => .tup [.bl false, .int number, .tup ((srt marks).map D.str), .non]
  | some p => .tup [.bl p.2.opens, .int (if ("learn" : Str) ∈ p.2.deeds then card else number), .tup ((behindM p.2.deeds (srt marks)).map D.str), .int (p.1 : Nat)]
def t_Tool_answer (K : PySem.W.Frag) : TS :=
  (tSeq (tAsg (tCB (rTupOf K) (tCons (tCB (rSortedS K) (tCons (tLc (iSeq K (tVar 2)) (gName 4) tYes (tCB (rStrS) (tCons (tVar 4) tNil)) [4]) tNil)) tNil)) (gName 5))
      (tSeq (tAsg (tMeth (He.ga K "Tool") "row_for" (sp_Tool_row_for K) [] E0 (tVar 0) (tCons (tMeth (He.ga K "Tool") "word_of" (sp_Tool_word_of K) [] E0 (tVar 0) (tCons (tVar 1) (tCons (tVar 3) tNil))) (tCons (tVar 5) tNil))) (gName 6))
      (tSeq (tIfS (tTest (tOp (rIsN) (tVar 6) (tC .non))) (tRet (tTup (tCons (tC (.bl false)) (tCons (tVar 1) (tCons (tVar 5) (tCons (tC .non) tNil)))))) tNext)
      (tSeq (tAsg (tOp (rIx K) (tFld K (tVar 0) "rows") (tVar 6)) (gName 7))
      (tRet (tTup (tCons (tFld K (tVar 7) "opens") (tCons (tIf (tTest (tOp (rInn K) (tC (.str "learn")) (tFld K (tVar 7) "deeds"))) (tVar 3) (tVar 1)) (tCons (tMeth (He.ga K "Row") "marks_behind" (sp_Row_marks_behind K) [] E0 (tVar 7) (tCons (tVar 5) tNil)) (tCons (tVar 6) tNil))))))))))
def r_Tool_answer : List D → D → Prop := fun ds d => ∃ (T : ToolM) (n c : Int) (m : D) (marks : List Str), ds = [T.d, .int n, m, .int c] ∧ seqD m = some (marks.map D.str) ∧ T.Ok ∧ (∀ s ∈ marks, sOk s) ∧ (∀ r ∈ T.rows, marks.length + r.deeds.length < 64) ∧ marks.length < 64 ∧ d = answerM T n marks c
abbrev sp_Tool_answer (K : PySem.W.Frag) : Sp := spR K r_Tool_answer
theorem ln_Tool_answer {vs : List V} {H : Hp} {Q : VK} {E : XK} : sp_Tool_answer K vs H Q E → vs.length = 4 := ln_R fun _ _ ⟨_, _, _, _, _, e, _⟩ => by rw [e]; rfl
theorem RowM.ok_deeds {r : RowM} (h : r.ok = true) : ∀ s ∈ r.deeds, isDeedM s = true := by
  unfold RowM.ok at h
  simp only [Bool.and_eq_true] at h
  exact List.all_eq_true.mp h.2.2.1
theorem fn_Tool_answer : FnD K (t_Tool_answer K) 8 (PhiR r_Tool_answer) := fn_R fun ds d μ ⟨T, n, c, m, marks, e1, hm, hT, hk, hr, hz, e2⟩ => by
  subst e1 e2
  refine ⟨[], ?_⟩
  rw [List.append_nil]
  have z64 : (64 : Nat) ≤ LB := by decide
  refine ex_seq (ex_set (ev_cbW (ea_cons (ev_cb (ed_cons (ev_lc (ei_seq (ev_var rfl) (seqW_of hm)) (lc_on (h := D.str) (seqC_of (seqW_of hm)) fun s hs => ⟨_, egc_name, ev_cb (ed_cons (ev_var rfl) ed_nil) c_strS⟩) (by rw [List.length_map]; omega)) ed_nil) (c_sortS hz)) ea_nil) (c_tup .lst))) ?_
  refine ex_seq (ex_set (c_row_for (ev_var rfl) (ed_cons (c_word_of (ev_var rfl) (ed_cons (ev_var rfl) (ed_cons (ev_var rfl) ed_nil))) (ed_cons (ev_var rfl) ed_nil)) (marks := srt marks) rfl)) ?_
  cases e : rowForM T.rows (wordM T.window (c - n)) (srt marks) with
  | none =>
    refine ex_guard (k := true) (eb_test (ev_isNd (d := .non) (ev_var rfl))) (fun _ => ex_retv (ev_tup (ed_cons ev_bl (ed_cons (ev_var rfl) (ed_cons (ev_var rfl) (ed_cons ev_non ed_nil)))) (by show (4 : Nat) ≤ LB; decide)) ?_) (by intro h; cases h)
    unfold answerM
    rw [e]
  | some p =>
    have hp : p ∈ enumR 0 T.rows := List.mem_of_find?_eq_some e
    obtain ⟨_, hat⟩ := enumR_at hp
    have hmem : p.2 ∈ T.rows := List.mem_of_getElem? hat
    refine ex_pass (eb_test (ev_isNd (d := .int (p.1 : Nat)) (ev_var rfl))) rfl ?_
    refine ex_seq (ex_set (ev_op (toolFld (ev_var rfl) (by decide) rfl) (ev_var rfl) (o_ixTm (f := RowM.d) (atI_nat hat)))) ?_
    refine ex_retv (ev_tup (ed_cons (rowFld (ev_var rfl) (by decide) rfl) (ed_cons (ev_ifD (eb_test (ev_op ev_str (rowFld (ev_var rfl) (by decide) rfl) o_inST)) (fun _ => ev_var rfl) fun _ => ev_var rfl) (ed_cons (c_marks_behind (ev_var rfl) (ed_cons (ev_var rfl) ed_nil) (marks := srt marks) rfl (fun s hs => hk s ((srt_perm marks).mem_iff.mp hs)) (RowM.ok_deeds (hT.ok _ hmem)) (by rw [srt_len]; exact hr _ hmem)) (ed_cons (ev_var rfl) ed_nil)))) (by show (4 : Nat) ≤ LB; decide)) ?_
    unfold answerM
    rw [e]
    show _ = W.val (D.tup [D.bl p.2.opens, .int (if ("learn" : Str) ∈ p.2.deeds then c else n), .tup ((behindM p.2.deeds (srt marks)).map D.str), .int (p.1 : Nat)])
    by_cases q : ("learn" : Str) ∈ p.2.deeds
    · rw [decide_eq_true q, if_pos q]
      rfl
    · rw [decide_eq_false q, if_neg q]
      rfl
theorem c_answer {T : ToolM} {n c : Int} {m : D} {marks : List Str} {E : XK} (h0 : Ev K ta ρ μ (.val T.d) μ1) (h : EvD K t ρ μ1 [.int n, m, .int c] μ2) (hm : seqD m = some (marks.map D.str)) (hT : T.Ok) (hk : ∀ s ∈ marks, sOk s) (hr : ∀ r ∈ T.rows, marks.length + r.deeds.length < 64) (hz : marks.length < 64) :
    Ev K (tMeth (He.ga K "Tool") "answer" (sp_Tool_answer K) [] E ta t) ρ μ (.val (answerM T n marks c)) μ2 :=
  ev_meth0 h0 (by decide +kernel) h ⟨T, n, c, m, marks, rfl, hm, hT, hk, hr, hz, rfl⟩
end
end DK

/-! DKD: the laws' own draws. -/
namespace DK
open PySem PySem.Spec PyProof.Rows L2

abbrev Dl := List Int × Int
def absI (n : Int) : Int := if n < 0 then -n else n
def cutI {α : Type} (xs : List α) (lo hi : Option Int) : List α := (xs.drop (HT.sIx xs.length 0 lo)).take (HT.sIx xs.length xs.length hi - HT.sIx xs.length 0 lo)
theorem cutD_map {α : Type} {f : α → D} {xs : List α} {lo hi : Option Int} : cutD (xs.map f) lo hi = (cutI xs lo hi).map f := by
  unfold cutD cutI
  rw [List.length_map, ← List.map_drop, ← List.map_take]
theorem cutI_len {α : Type} {xs : List α} {lo hi : Option Int} : (cutI xs lo hi).length ≤ xs.length := by
  unfold cutI
  rw [List.length_take, List.length_drop]
  omega
def cellsM (base : Int) (ns : List Int) : List Int := (cutI ns (some base) (some 60)).map absI
def dealM (a b p q base : Int) (ns : List Int) : Dl := (((cellsM base ns).filter fun c => decide (10 ^ 18 ≤ c)).reverse, (cellsM base ns).foldl (fun m c => (m * 16807 + c % p) % q) (a + b * base))
section
variable {K : PySem.W.Frag} {ρ : Env'} {μ μ1 μ2 : Mu} {te ta : TE} {t : TA}
def t_law_deal (K : PySem.W.Frag) (a b p q : Int) : TS :=
  (tSeq (tAsg (tLc (iSeq K (tSl (rSlc K) (tVar 0) (tPart (tVar 1)) (tPart (tC (.int 60))))) (gName 2) tYes (tCB (rAbs) (tCons (tVar 2) tNil)) [2]) (gName 3))
      (tSeq (tAsg (tOp (rPlus K) (tC (.int a)) (tOp (rTimes K) (tC (.int b)) (tVar 1))) (gName 4))
      (tSeq (tFor (iSeq K (tVar 3)) (gName 2) (tAsg (tOp (rMd) (tCB (rInt1) (tCons (tOp (rPlus K) (tOp (rTimes K) (tVar 4) (tC (.int 16807))) (tOp (rMd) (tCB (rInt1) (tCons (tVar 2) tNil)) (tC (.int p)))) tNil)) (tC (.int q))) (gName 4)))
      (tRet (tLst (tCons (tRevL K (tLc (iSeq K (tVar 3)) (gName 2) (tTest (tOp (rGe') (tVar 2) (tOp (rPw) (tC (.int 10)) (tC (.int 18))))) (tVar 2) [2])) (tCons (tVar 4) tNil)))))))
/-- the deal of the store -/
def dealMO (k : Nat) (d : Dl) : MO := .lsW [.loc k, .val (.int d.2)]
def bigMO (d : Dl) : MO := .lst (d.1.map D.int)
def Phi_deal (a b p q : Int) : Phi := fun ws μ w μ' => ∃ (base : Int) (ns : List Int), ws = [.val (.scr ns), .val (.int base)] ∧ ns.length ≤ LB ∧ w = .loc (μ.length + 1) ∧ μ' = μ ++ [bigMO (dealM a b p q base ns), dealMO μ.length (dealM a b p q base ns)]
abbrev sp_deal (K : PySem.W.Frag) (a b p q : Int) : Sp := spD K (Phi_deal a b p q)
theorem ln_deal {a b p q : Int} {vs : List V} {H : Hp} {Q : VK} {E : XK} : sp_deal K a b p q vs H Q E → vs.length = 2 := ln_D fun _ _ _ _ ⟨_, _, e, _⟩ => by rw [e]; rfl
theorem fn_deal {a b p q : Int} (hb : -(2 ^ 64) < b ∧ b < 2 ^ 64) (hp : 0 < p) (hq : 0 < q) : FnD K (t_law_deal K a b p q) 5 (Phi_deal a b p q) := ⟨fun ws μ w μ' ⟨base, ns, e1, hz, e2, e3⟩ wf => by
  subst e1 e2 e3
  refine ⟨[], by simp, decide_eq_true (by simp), fun m hm => ?_, .inl ?_⟩
  · rcases List.mem_append.mp hm with h | h
    · exact below_mono (by simp) (wf m h)
    · rcases List.mem_cons.mp h with h | h
      · rw [h]; rfl
      · rw [List.mem_singleton.mp h]
        refine List.all_eq_true.mpr fun x hx => ?_
        rcases List.mem_cons.mp hx with h | h
        · rw [h]
          exact decide_eq_true (by simp)
        · rw [List.mem_singleton.mp h]; rfl
  rw [List.append_nil]
  have hcl : (cutI ns (some base) (some 60)).length ≤ LB := Nat.le_trans cutI_len hz
  have hlc : Ev K (tLc (iSeq K (tSl (rSlc K) (tVar 0) (tPart (tVar 1)) (tPart (tC (.int 60))))) (gName 2) tYes (tCB rAbs (tCons (tVar 2) tNil)) [2]) [some (.val (.scr ns)), some (.val (.int base)), none, none, none] μ (.val (.lst ((cellsM base ns).map D.int))) μ := by
    have h1 : Ev K (tSl (rSlc K) (tVar 0) (tPart (tVar 1)) (tPart (tC (.int 60)))) [some (.val (.scr ns)), some (.val (.int base)), none, none, none] μ (.val (.lst ((cutI ns (some base) (some 60)).map D.int))) μ := by
      rw [← cutD_map]
      exact ev_slScr (ev_var rfl) hz (eo_some (ev_var rfl)) (eo_some ev_int)
    refine ev_to (ev_lc (ei_seq h1 .lst) (lc_on (h := fun n => D.int (absI n)) trivial fun n hn => ⟨_, egc_name, ev_cb (ed_cons (ev_var rfl) ed_nil) c_abs⟩) (by rw [List.length_map]; exact hcl)) ?_
    unfold cellsM
    rw [List.map_map]
    rfl
  refine ex_seq (ex_set hlc) ?_
  refine ex_seq (ex_set (ev_op ev_int (ev_op ev_int (ev_var rfl) (o_mul (.inl hb))) o_addI)) ?_
  obtain ⟨ρ', hl, ⟨x, e⟩⟩ := lp_foldS (K := K) (C := CT) (g := gName 2) (tb := tAsg (tOp rMd (tCB rInt1 (tCons (tOp (rPlus K) (tOp (rTimes K) (tVar 4) (tC (.int 16807))) (tOp rMd (tCB rInt1 (tCons (tVar 2) tNil)) (tC (.int p)))) tNil)) (tC (.int q))) (gName 4)) (f := D.int) (m := fun _ : Int => μ) (step := fun m c => (m * 16807 + c % p) % q)
    (l := cellsM base ns) (I := fun _ m ρ => ∃ x, ρ = [some (.val (.scr ns)), some (.val (.int base)), x, some (.val (.lst ((cellsM base ns).map D.int))), some (.val (.int m))]) (ρ := [some (.val (.scr ns)), some (.val (.int base)), none, some (.val (.lst ((cellsM base ns).map D.int))), some (.val (.int (a + b * base)))]) (s := a + b * base)
    (fun n c ρ m hc ⟨x, e⟩ => by
      subst e
      exact ⟨_, _, eg_name, ex_set (ev_op (ev_cb (ed_cons (ev_op (ev_op (ev_var rfl) ev_int (o_mul (.inr (by decide)))) (ev_op (ev_cb (ed_cons (ev_var rfl) ed_nil) c_intI) ev_int (o_md hp)) o_addI) ed_nil) c_intI) ev_int (o_md hq)), trivial, ⟨_, rfl⟩⟩) ⟨none, rfl⟩
  refine ex_seq (ex_for (ei_seq (ev_var rfl) .lst) hl) ?_
  subst e
  have hbig := ev_revM (K := K) (μ := μ) (ev_lc (te := tVar 2) (g := gName 2) (vs := [2]) (tt := tTest (tOp rGe' (tVar 2) (tOp rPw (tC (.int 10)) (tC (.int 18))))) (ei_seq (ev_var (i := 3) (ρ := [some (.val (.scr ns)), some (.val (.int base)), x, some (.val (.lst ((cellsM base ns).map D.int))), some (.val (.int (List.foldl (fun m c => (m * 16807 + c % p) % q) (a + b * base) (cellsM base ns))))]) rfl) .lst)
    (lc_onIf (h := D.int) (p := fun c => decide ((10 : Int) ^ 18 ≤ c)) trivial fun c hc => ⟨_, egc_name, eb_test (ev_op (ev_var rfl) (ev_op ev_int ev_int (o_pw ⟨by decide, by decide, by decide⟩)) o_ge), fun _ => ev_var rfl⟩) (by rw [List.length_map]; unfold cellsM; rw [List.length_map]; exact hcl))
  rw [← List.map_reverse] at hbig
  refine ex_to (ex_ret (ev_lsW (ea_cons hbig (ea_cons (ev_var rfl) ea_nil)) (by show (2 : Nat) ≤ LB; decide) fun w hw => ?_)) ?_
  · rcases List.mem_cons.mp hw with h | h
    · rw [h]
      exact decide_eq_true (by simp)
    · rw [List.mem_singleton.mp h]; rfl
  · rw [List.length_append, List.append_assoc]
    rfl⟩
theorem c_deal {a b p q : Int} {base : Int} {ns : List Int} {E : XK} (h : EvA K t ρ μ [.val (.scr ns), .val (.int base)] μ1) (hz : ns.length ≤ LB) : Ev K (tCall (sp_deal K a b p q) [] E t) ρ μ (.loc (μ1.length + 1)) (μ1 ++ [bigMO (dealM a b p q base ns), dealMO μ1.length (dealM a b p q base ns)]) :=
  ev_callW h dfl_nil ⟨base, ns, by simp, hz, rfl, rfl⟩

/-! ### draw -/
/-- the end's zeros away -/
def dropZ (l : List Int) : List Int := (l.reverse.dropWhile (· == 0)).reverse
theorem dropZ_zero {l : List Int} : dropZ (l ++ [0]) = dropZ l := by
  unfold dropZ
  rw [List.reverse_append]
  rfl
theorem dropZ_nz {l : List Int} {x : Int} (h : x ≠ 0) : dropZ (l ++ [x]) = l ++ [x] := by
  unfold dropZ
  rw [List.reverse_append]
  show ((x :: l.reverse).dropWhile (· == 0)).reverse = _
  rw [List.dropWhile_cons_of_neg (by simpa using h)]
  simp
def drawM (many : Int) (d : Dl) : Int × Dl := match (dropZ d.1).getLast? with
  | some rest => (rest % many, ((dropZ d.1).dropLast ++ [rest / many], d.2))
  | none => (((d.2 * 48271 + 11) % 2147483647 / 8) % many, ([], (d.2 * 48271 + 11) % 2147483647))
theorem drawM_lo {many : Int} {d : Dl} (h : 0 < many) : 0 ≤ (drawM many d).1 := by
  unfold drawM
  split
  · exact Int.emod_nonneg _ (by omega)
  · exact Int.emod_nonneg _ (by omega)
theorem drawM_hi {many : Int} {d : Dl} (h : 0 < many) : (drawM many d).1 < many := by
  unfold drawM
  split
  · exact Int.emod_lt_of_pos _ h
  · exact Int.emod_lt_of_pos _ h
theorem dropZ_len {l : List Int} : (dropZ l).length ≤ l.length := by
  unfold dropZ
  rw [List.length_reverse]
  exact Nat.le_trans (List.dropWhile_sublist _).length_le (by simp)
theorem drawM_len {many : Int} {d : Dl} : (drawM many d).2.1.length ≤ d.1.length := by
  have h := dropZ_len (l := d.1)
  unfold drawM
  split
  · rename_i rest e
    have : dropZ d.1 ≠ [] := fun z => by rw [z] at e; cases e
    have := List.length_pos_iff.mpr this
    simp
    omega
  · simp
/-- the deal stands at j, its great numbers at k -/
structure DealAt (μ : Mu) (j k : Nat) (d : Dl) : Prop where
  at_ : μ[j]? = some (dealMO k d)
  b : μ[k]? = some (bigMO d)
  ne : j ≠ k
  len : d.1.length ≤ LB
def putDl (μ : Mu) (j k : Nat) (d : Dl) : Mu := (μ.set k (bigMO d)).set j (dealMO k d)
theorem DealAt.put {j k : Nat} {d : Dl} (h : DealAt μ j k d) (d' : Dl) (hz : d'.1.length ≤ LB) : DealAt (putDl μ j k d') j k d' := by
  have hj := (List.getElem?_eq_some_iff.mp h.at_).1
  have hk := (List.getElem?_eq_some_iff.mp h.b).1
  unfold putDl
  refine ⟨by rw [List.getElem?_set_self (by rw [List.length_set]; exact hj)], ?_, h.ne, hz⟩
  rw [List.getElem?_set_ne h.ne, List.getElem?_set_self hk]
theorem DealAt.draw {j k : Nat} {d : Dl} (h : DealAt μ j k d) (many : Int) : DealAt (putDl μ j k (drawM many d).2) j k (drawM many d).2 := h.put _ (Nat.le_trans drawM_len h.len)
theorem putDl_len {j k : Nat} {d : Dl} : (putDl μ j k d).length = μ.length := by unfold putDl; rw [List.length_set, List.length_set]
theorem DealAt.same {j k : Nat} {d : Dl} (h : DealAt μ j k d) : putDl μ j k d = μ := by
  have hj := (List.getElem?_eq_some_iff.mp h.at_)
  have hk := (List.getElem?_eq_some_iff.mp h.b)
  unfold putDl
  rw [← hk.2, List.set_getElem_self]
  rw [← hj.2, List.set_getElem_self]
theorem putDl_put {j k : Nat} {d d' : Dl} (h : j ≠ k) : putDl (putDl μ j k d) j k d' = putDl μ j k d' := by
  unfold putDl
  rw [List.set_comm _ _ h, List.set_set, List.set_set]
theorem putDl_wf {j k : Nat} {d : Dl} (h : DealAt μ j k d) (wf : ∀ m : MO, m ∈ μ → m.below μ.length = true) (d' : Dl) : ∀ m : MO, m ∈ putDl μ j k d' → m.below (putDl μ j k d').length = true := fun m hm => by
  have hk := (List.getElem?_eq_some_iff.mp h.b).1
  rw [putDl_len]
  rcases List.mem_or_eq_of_mem_set hm with q | q
  · rcases List.mem_or_eq_of_mem_set q with q | q
    · exact wf m q
    · rw [q]; rfl
  · rw [q]
    refine List.all_eq_true.mpr fun x hx => ?_
    rcases List.mem_cons.mp hx with z | z
    · rw [z]
      exact decide_eq_true hk
    · rw [List.mem_singleton.mp z]; rfl
def t_law_draw (K : PySem.W.Frag) : TS :=
  (tSeq (tWhile (tAnd (tTest (tOp (rNee K) (tOp (rIx K) (tVar 0) (tC (.int 0))) (tLst tNil))) (tTest (tOp (rEqq K) (tOp (rIx K) (tOp (rIx K) (tVar 0) (tC (.int 0))) (tUn (rU fun i => .int (-i)) (tC (.int 1)))) (tC (.int 0))))) (tDrop (tBM0 K "list" rPop (tOp (rIx K) (tVar 0) (tC (.int 0))))))
      (tSeq (tIfS (tTest (tOp (rNee K) (tOp (rIx K) (tVar 0) (tC (.int 0))) (tLst tNil))) (tSeq (tAsg (tBM0 K "list" rPop (tOp (rIx K) (tVar 0) (tC (.int 0)))) (gName 2))
      (tSeq (tDrop (tBM K "list" rAppend (tOp (rIx K) (tVar 0) (tC (.int 0))) (tCons (tOp (rFd) (tVar 2) (tVar 1)) tNil)))
      (tRet (tOp (rMd) (tCB (rInt1) (tCons (tVar 2) tNil)) (tVar 1))))) tNext)
      (tSeq (tAsg (tOp (rMd) (tCB (rInt1) (tCons (tOp (rPlus K) (tOp (rTimes K) (tOp (rIx K) (tVar 0) (tC (.int 1))) (tC (.int 48271))) (tC (.int 11))) tNil)) (tC (.int 2147483647))) (gSub (tVar 0) (tC (.int 1)) rSetL))
      (tRet (tOp (rMd) (tCB (rInt1) (tCons (tOp (rFd) (tOp (rIx K) (tVar 0) (tC (.int 1))) (tC (.int 8))) tNil)) (tVar 1))))))
def Phi_draw : Phi := fun ws μ w μ' => ∃ (j k : Nat) (many : Int) (d : Dl), ws = [.loc j, .val (.int many)] ∧ DealAt μ j k d ∧ 0 < many ∧ many < 1073741824 ∧ w = .val (.int (drawM many d).1) ∧ μ' = putDl μ j k (drawM many d).2
abbrev sp_law_draw (K : PySem.W.Frag) : Sp := spD K Phi_draw
theorem ln_law_draw {vs : List V} {H : Hp} {Q : VK} {E : XK} : sp_law_draw K vs H Q E → vs.length = 2 := ln_D fun _ _ _ _ ⟨_, _, _, _, e, _⟩ => by rw [e]; rfl
theorem eqP_nil {ns : List Int} : eqP (.lst (ns.map D.int)) (.lst []) = decide (ns = []) := by
  cases ns <;> rfl
theorem ev_big {j k : Nat} {m : Int} {i : Nat} (hi : ρ[i]? = some (some (.loc j))) (h : μ[j]? = some (.lsW [.loc k, .val (.int m)])) : Ev K (tOp (rIx K) (tVar i) (tC (.int 0))) ρ μ (.loc k) μ := ev_ixW (ev_var hi) ev_int h (atI_nat (k := 0) rfl)
theorem ev_bigNe {j k : Nat} {m : Int} {i : Nat} {big : List Int} (hi : ρ[i]? = some (some (.loc j))) (h : μ[j]? = some (.lsW [.loc k, .val (.int m)])) (hb : μ[k]? = some (.lst (big.map D.int))) : Ev K (tOp (rNee K) (tOp (rIx K) (tVar i) (tC (.int 0))) (tLst tNil)) ρ μ (.val (.bl (!decide (big = [])))) μ :=
  ev_to (ev_neM (ev_big hi h) (ev_lst ed_nil (by show (0 : Nat) ≤ LB; decide)) (.loc hb) pyOkL_ints rfl depth_ints (by decide)) (by rw [eqP_nil])
theorem last_split {l : List Int} (h : l ≠ []) : ∃ r x, l = r ++ [x] := ⟨l.dropLast, l.getLast h, (List.dropLast_concat_getLast h).symm⟩
theorem at_last {α : Type} {l : List α} {x : α} : atI (l ++ [x]) (-1) = some x := by
  unfold atI
  have e : ixN (l ++ [x]).length (-1) = some l.length := by
    unfold ixN
    simp
    omega
  rw [e]
  simp
theorem fn_law_draw : FnD K (t_law_draw K) 3 Phi_draw := ⟨fun ws μ w μ' ⟨j, k, many, d, e1, hd, h0, h1, e2, e3⟩ wf => by
  subst e1 e2 e3
  refine ⟨[], by rw [putDl_len]; exact Nat.le_refl _, rfl, putDl_wf hd wf _, .inl ?_⟩
  rw [List.append_nil]
  have hj := (List.getElem?_eq_some_iff.mp hd.at_).1
  have hk := (List.getElem?_eq_some_iff.mp hd.b).1
  have a1 : ∀ m : MO, (μ.set k m)[j]? = some (.lsW [.loc k, .val (.int d.2)]) := fun m => by rw [List.getElem?_set_ne hd.ne.symm]; exact hd.at_
  have a2 : ∀ m : MO, (μ.set k m)[k]? = some m := fun m => List.getElem?_set_self hk
  have hw : ∀ (n : Nat) (big : List Int), big.length ≤ n → Wh K (tAnd (tTest (tOp (rNee K) (tOp (rIx K) (tVar 0) (tC (.int 0))) (tLst tNil))) (tTest (tOp (rEqq K) (tOp (rIx K) (tOp (rIx K) (tVar 0) (tC (.int 0))) (tUn (rU fun i => .int (-i)) (tC (.int 1)))) (tC (.int 0))))) (tDrop (tBM0 K "list" rPop (tOp (rIx K) (tVar 0) (tC (.int 0))))) n
      [some (.loc j), some (.val (.int many)), none] (μ.set k (.lst (big.map D.int))) (.nx [some (.loc j), some (.val (.int many)), none] (μ.set k (.lst ((dropZ big).map D.int)))) := by
    intro n
    induction n with
    | zero =>
      intro big hb
      have e : big = [] := List.eq_nil_of_length_eq_zero (by omega)
      subst e
      exact .stop (eb_and (k := false) (l := true) (eb_test (ev_bigNe rfl (a1 _) (a2 _))) (by intro h; cases h))
    | succ n ih =>
      intro big hb
      by_cases e : big = []
      · subst e
        exact .stop (eb_and (k := false) (l := true) (eb_test (ev_bigNe rfl (a1 _) (a2 _))) (by intro h; cases h))
      · obtain ⟨r, x, er⟩ := last_split e
        subst er
        have hc : EvB K _ [some (.loc j), some (.val (.int many)), none] (μ.set k (.lst ((r ++ [x]).map D.int))) (!decide (r ++ [x] = []) && decide (x = 0)) (μ.set k (.lst ((r ++ [x]).map D.int))) := eb_and (eb_test (ev_bigNe (i := 0) rfl (a1 _) (a2 _))) fun _ => eb_test (ev_op (o_ixM (r := rIx K) (ev_big (i := 0) rfl (a1 _)) (ev_neg (ev_int (n := 1))) (.inl (a2 _)) (at_map at_last)) (ev_int (n := 0)) o_eqI)
        rw [decide_eq_false e] at hc
        by_cases hx : x = 0
        · rw [decide_eq_true hx] at hc
          subst hx
          have hp := ex_drop (ev_pop (K := K) (ρ := [some (.loc j), some (.val (.int many)), none]) (ev_big (i := 0) rfl (a1 (.lst ((r ++ [0]).map D.int)))) (xs := r.map D.int) (d := .int 0) (by rw [a2, List.map_append]; rfl))
          rw [List.set_set] at hp
          rw [dropZ_zero]
          exact .next hc hp (ih r (by simp at hb; omega))
        · rw [decide_eq_false hx] at hc
          rw [dropZ_nz hx]
          exact .stop hc
  have hw0 := ex_while (hw d.1.length d.1 (Nat.le_refl _))
  have e0 : μ.set k (.lst (d.1.map D.int)) = μ := by
    have h := (List.getElem?_eq_some_iff.mp hd.b).2
    unfold bigMO at h
    rw [← h, List.set_getElem_self]
  rw [e0] at hw0
  refine ex_seq hw0 ?_
  by_cases e : dropZ d.1 = []
  · rw [e]
    have hne : EvB K (tTest (tOp (rNee K) (tOp (rIx K) (tVar 0) (tC (.int 0))) (tLst tNil))) [some (.loc j), some (.val (.int many)), none] (μ.set k (.lst (([] : List Int).map D.int))) (!decide (([] : List Int) = [])) (μ.set k (.lst (([] : List Int).map D.int))) := eb_test (ev_bigNe rfl (a1 _) (a2 _))
    refine ex_pass hne rfl ?_
    have hdr : drawM many d = (((d.2 * 48271 + 11) % 2147483647 / 8) % many, ([], (d.2 * 48271 + 11) % 2147483647)) := by
      unfold drawM
      rw [e]
      rfl
    rw [hdr]
    have hlen : j < (μ.set k (.lst (([] : List Int).map D.int))).length := by rw [List.length_set]; exact hj
    refine ex_seq (ex_setW (w := .val (.int ((d.2 * 48271 + 11) % 2147483647))) (k := 1) (ev_op (ev_cb (ed_cons (ev_op (ev_op (ev_ixW (ev_var rfl) ev_int (a1 _) (atI_nat (k := 1) rfl)) ev_int (o_mul (.inr (by decide)))) ev_int o_addI) ed_nil) c_intI) ev_int (o_md (by decide))) (ev_var rfl) ev_int (a1 _) (by show ixN 2 1 = some 1; decide) rfl) ?_
    exact ex_ret (ev_op (ev_cb (ed_cons (ev_op (ev_ixW (ev_var rfl) ev_int (List.getElem?_set_self hlen) (atI_nat (k := 1) rfl)) ev_int (o_fd ⟨by decide, by decide⟩)) ed_nil) c_intI) (ev_var rfl) (o_md h0))
  · obtain ⟨r, x, er⟩ := last_split e
    rw [er]
    have hne : EvB K (tTest (tOp (rNee K) (tOp (rIx K) (tVar 0) (tC (.int 0))) (tLst tNil))) [some (.loc j), some (.val (.int many)), none] (μ.set k (.lst ((r ++ [x]).map D.int))) (!decide (r ++ [x] = [])) (μ.set k (.lst ((r ++ [x]).map D.int))) := eb_test (ev_bigNe rfl (a1 _) (a2 _))
    have hdr : drawM many d = (x % many, (r ++ [x / many], d.2)) := by
      unfold drawM
      rw [er]
      simp
    rw [hdr]
    refine ex_ifSeq hne (fun _ => ?_) (fun h => by simp at h)
    have hp := ev_pop (K := K) (ρ := [some (.loc j), some (.val (.int many)), none]) (ev_big (i := 0) rfl (a1 (.lst ((r ++ [x]).map D.int)))) (xs := r.map D.int) (d := .int x) (by rw [a2, List.map_append]; rfl)
    rw [List.set_set] at hp
    refine ex_seqR (ex_seq (ex_set hp) ?_)
    have hap := ex_drop (ev_append (K := K) (ρ := [some (.loc j), some (.val (.int many)), some (.val (.int x))]) (ev_big (i := 0) rfl (a1 (.lst (r.map D.int)))) (ed_cons (ev_op (ev_var (i := 2) rfl) (ev_var (i := 1) rfl) (o_fd ⟨h0, h1⟩)) ed_nil) ⟨_, .inl (a2 _)⟩ (a2 _) ?_)
    · rw [List.set_set] at hap
      refine ex_seq hap (ex_to (ex_ret (ev_op (ev_cb (ed_cons (ev_var rfl) ed_nil) c_intI) (ev_var rfl) (o_md h0))) ?_)
      have : putDl μ j k (r ++ [x / many], d.2) = μ.set k (.lst (r.map D.int ++ [.int (x / many)])) := by
        unfold putDl
        have h3 := a1 (bigMO (r ++ [x / many], d.2))
        have h4 := List.getElem?_eq_some_iff.mp h3
        show ((μ.set k (bigMO (r ++ [x / many], d.2))).set j (.lsW [.loc k, .val (.int d.2)])) = _
        rw [← h4.2, List.set_getElem_self]
        unfold bigMO
        rw [List.map_append]
        rfl
      rw [this]
    · have h2 := dropZ_len (l := d.1)
      rw [er] at h2
      have := hd.len
      simp at h2 ⊢
      omega⟩
theorem c_draw {j k : Nat} {many : Int} {d : Dl} {E : XK} (h : EvA K t ρ μ [.loc j, .val (.int many)] μ1) (hd : DealAt μ1 j k d) (h0 : 0 < many) (h1 : many < 1073741824) : Ev K (tCall (sp_law_draw K) [] E t) ρ μ (.val (.int (drawM many d).1)) (putDl μ1 j k (drawM many d).2) :=
  ev_callW h dfl_nil ⟨j, k, many, d, by simp, hd, h0, h1, rfl, rfl⟩

/-! ### mixed -/
theorem DealAt.app {j k : Nat} {d : Dl} (h : DealAt μ j k d) (t : Mu) : DealAt (μ ++ t) j k d := ⟨by rw [List.getElem?_append_left (List.getElem?_eq_some_iff.mp h.at_).1]; exact h.at_, by rw [List.getElem?_append_left (List.getElem?_eq_some_iff.mp h.b).1]; exact h.b, h.ne, h.len⟩
theorem DealAt.putApp {j k : Nat} {d : Dl} (h : DealAt μ j k d) (t : Mu) (d' : Dl) : putDl (μ ++ t) j k d' = putDl μ j k d' ++ t := by
  unfold putDl
  rw [List.set_append_left _ _ (List.getElem?_eq_some_iff.mp h.b).1, List.set_append_left _ _ (by rw [List.length_set]; exact (List.getElem?_eq_some_iff.mp h.at_).1)]
theorem set2_0 {α : Type} {l : List α} {a b c : α} : (l ++ [a, b]).set l.length c = l ++ [c, b] := by
  rw [List.set_append_right _ _ (Nat.le_refl _)]
  simp
theorem set2_1 {α : Type} {l : List α} {a b c : α} : (l ++ [a, b]).set (l.length + 1) c = l ++ [a, c] := by
  rw [List.set_append_right _ _ (Nat.le_succ _), show l.length + 1 - l.length = 1 by omega]
  rfl
def mixStep {α : Type} (s : Dl × List α × List α) : Dl × List α × List α := match s.2.1[(drawM s.2.1.length s.1).1.toNat]? with
  | some x => ((drawM s.2.1.length s.1).2, s.2.1.eraseIdx (drawM s.2.1.length s.1).1.toNat, s.2.2 ++ [x])
  | none => s
def mixAll {α : Type} (n : Nat) (s : Dl × List α × List α) : Dl × List α × List α := (List.range n).foldl (fun s _ => mixStep s) s
/-- the mixed list, and the deal behind it -/
def mixedM {α : Type} (xs : List α) (d : Dl) : List α := (mixAll xs.length (d, xs, [])).2.2
def mixedD {α : Type} (xs : List α) (d : Dl) : Dl := (mixAll xs.length (d, xs, [])).1
theorem mixStep_some {α : Type} {d : Dl} {rest found : List α} (h : rest ≠ []) : ∃ x, rest[(drawM rest.length d).1.toNat]? = some x ∧ mixStep (d, rest, found) = ((drawM rest.length d).2, rest.eraseIdx (drawM rest.length d).1.toNat, found ++ [x]) := by
  have hl : 0 < rest.length := List.length_pos_iff.mpr h
  have h0 := drawM_lo (d := d) (many := (rest.length : Int)) (by omega)
  have h1 := drawM_hi (d := d) (many := (rest.length : Int)) (by omega)
  have hlt : (drawM rest.length d).1.toNat < rest.length := by omega
  refine ⟨_, List.getElem?_eq_getElem hlt, ?_⟩
  show (match rest[(drawM rest.length d).1.toNat]? with | some x => _ | none => _) = _
  rw [List.getElem?_eq_getElem hlt]
def t_law_mixed (K : PySem.W.Frag) : TS :=
  (tSeq (tPar 2 3 (tCons (tCB (rLstOfM K) (tCons (tVar 1) tNil)) (tCons (tLstM tNil) tNil)))
      (tSeq (tFor (iRng1 (tCons (tCB (rLenA K) (tCons (tVar 2) tNil)) tNil)) (gName 4) (tDrop (tBM K "list" rAppend (tVar 3) (tCons (tBM K "list" rPopAt (tVar 2) (tCons (tCall (sp_law_draw K) [] E0 (tCons (tVar 0) (tCons (tCB (rLenA K) (tCons (tVar 2) tNil)) tNil))) tNil)) tNil))))
      (tRet (tVar 3))))
def Phi_mixed : Phi := fun ws μ w μ' => ∃ (j k : Nat) (v : W) (xs : List D) (d : Dl), ws = [.loc j, v] ∧ DealAt μ j k d ∧ SeqW μ v xs ∧ xs.length ≤ LB ∧ w = .val (.lst (mixedM xs d)) ∧ μ' = putDl μ j k (mixedD xs d)
abbrev sp_law_mixed (K : PySem.W.Frag) : Sp := spD K Phi_mixed
theorem ln_law_mixed {vs : List V} {H : Hp} {Q : VK} {E : XK} : sp_law_mixed K vs H Q E → vs.length = 2 := ln_D fun _ _ _ _ ⟨_, _, _, _, _, e, _⟩ => by rw [e]; rfl
theorem SeqW.app {w : W} {xs : List D} (h : SeqW μ w xs) (t : Mu) : SeqW (μ ++ t) w xs := by
  cases h with
  | lst => exact .lst
  | tup => exact .tup
  | loc h => exact .loc (by rw [List.getElem?_append_left (List.getElem?_eq_some_iff.mp h).1]; exact h)
  | frz h => exact .frz (by rw [List.getElem?_append_left (List.getElem?_eq_some_iff.mp h).1]; exact h)
theorem fn_law_mixed : FnD K (t_law_mixed K) 5 Phi_mixed := ⟨fun ws μ w μ' ⟨j, k, v, xs, d, e1, hd, hv, hz, e2, e3⟩ wf => by
  subst e1 e2 e3
  refine ⟨[.lst (mixAll xs.length (d, xs, [])).2.1, .frz (mixedM xs d)], by rw [putDl_len]; exact Nat.le_refl _, rfl, putDl_wf hd wf _, .inl ?_⟩
  have hlb : LB = 100000 := rfl
  have hpar : Ex K (tPar 2 3 (tCons (tCB (rLstOfM K) (tCons (tVar 1) tNil)) (tCons (tLstM tNil) tNil))) [some (.loc j), some v, none, none, none] μ (.nx [some (.loc j), some v, some (.loc μ.length), some (.loc (μ ++ [MO.lst xs]).length), none] (μ ++ [MO.lst xs] ++ [MO.lst []])) :=
    ex_par (ea_cons (ev_cbW (ea_cons (ev_var rfl) ea_nil) (c_lstM hv)) (ea_cons (ev_lstM ed_nil (by show (0 : Nat) ≤ LB; decide)) ea_nil))
  rw [List.append_assoc] at hpar
  rw [show (μ ++ [MO.lst xs]).length = μ.length + 1 by simp] at hpar
  refine ex_seq hpar ?_
  have e0 : μ ++ ([MO.lst xs] ++ [MO.lst []]) = putDl μ j k d ++ [MO.lst xs, MO.lst []] := by rw [hd.same]; rfl
  rw [e0]
  obtain ⟨ρ', hl, ⟨x, e, hn1, hn2, hn3⟩⟩ := lp_foldS (K := K) (C := CT) (g := gName 4) (tb := tDrop (tBM K "list" rAppend (tVar 3) (tCons (tBM K "list" rPopAt (tVar 2) (tCons (tCall (sp_law_draw K) [] E0 (tCons (tVar 0) (tCons (tCB (rLenA K) (tCons (tVar 2) tNil)) tNil))) tNil)) tNil)))
    (f := fun (n : Nat) => D.int (0 + (n : Int))) (m := fun s : Dl × List D × List D => putDl μ j k s.1 ++ [MO.lst s.2.1, MO.lst s.2.2]) (step := fun s _ => mixStep s) (l := List.range xs.length)
    (I := fun n s ρ => ∃ x, ρ = [some (.loc j), some v, some (.loc μ.length), some (.loc (μ.length + 1)), x] ∧ s.2.1.length + n = xs.length ∧ s.2.2.length = n ∧ s.1.1.length ≤ LB) (ρ := [some (.loc j), some v, some (.loc μ.length), some (.loc (μ.length + 1)), none]) (s := (d, xs, []))
    (fun n x ρ s hx ⟨a, e, h1, h2, h3⟩ => by
      subst e
      obtain ⟨dl, rest, found⟩ := s
      simp only at h1 h2 h3
      have hnl : n < xs.length := by
        have := (List.getElem?_eq_some_iff.mp hx).1
        simpa using this
      have hne : rest ≠ [] := fun z => by rw [z] at h1; simp at h1; omega
      have hlr : 0 < rest.length := List.length_pos_iff.mpr hne
      obtain ⟨y, hy, es⟩ := mixStep_some (d := dl) (found := found) hne
      refine ⟨_, _, eg_name, ?_, trivial, some (.val (.int (0 + (x : Int)))), rfl, ?_, ?_, ?_⟩
      · show Ex K _ _ (putDl μ j k dl ++ [MO.lst rest, MO.lst found]) (.nx _ (putDl μ j k (mixStep (dl, rest, found)).1 ++ [MO.lst (mixStep (dl, rest, found)).2.1, MO.lst (mixStep (dl, rest, found)).2.2]))
        rw [es]
        have hA := hd.put dl h3
        have l1 : (putDl μ j k dl).length = μ.length := putDl_len
        have l2 : (putDl μ j k (drawM rest.length dl).2).length = μ.length := putDl_len
        have b1 : (putDl μ j k dl ++ [MO.lst rest, MO.lst found])[μ.length]? = some (.lst rest) := by rw [← l1]; simp
        have b2 : (putDl μ j k dl ++ [MO.lst rest, MO.lst found])[μ.length + 1]? = some (.lst found) := by rw [← l1]; simp
        have hlen : Ev K (tCB (rLenA K) (tCons (tVar 2) tNil)) [some (.loc j), some v, some (.loc μ.length), some (.loc (μ.length + 1)), some (.val (.int (0 + (x : Int))))] (putDl μ j k dl ++ [MO.lst rest, MO.lst found]) (.val (.int rest.length)) (putDl μ j k dl ++ [MO.lst rest, MO.lst found]) := ev_cbW (ea_cons (ev_var rfl) ea_nil) (c_lenSeq (.loc b1))
        have hdraw := c_draw (K := K) (E := E0) (ea_cons (ev_var (i := 0) (ρ := [some (.loc j), some v, some (.loc μ.length), some (.loc (μ.length + 1)), some (.val (.int (0 + (x : Int))))]) rfl) (ea_cons hlen ea_nil)) (hA.app _) (by omega) (by omega)
        rw [hA.putApp, putDl_put hd.ne] at hdraw
        have c1 : (putDl μ j k (drawM rest.length dl).2 ++ [MO.lst rest, MO.lst found])[μ.length]? = some (.lst rest) := by rw [← l2]; simp
        have hlo := drawM_lo (d := dl) (many := (rest.length : Int)) (by omega)
        have hpop := ev_popAt (K := K) (k := (drawM rest.length dl).1.toNat) (ev_var (i := 2) (ρ := [some (.loc j), some v, some (.loc μ.length), some (.loc (μ.length + 1)), some (.val (.int (0 + (x : Int))))]) rfl) (ed_cons hdraw ed_nil) ⟨_, .inl b1⟩ c1 (by omega) hy
        have e5 : (putDl μ j k (drawM rest.length dl).2 ++ [MO.lst rest, MO.lst found]).set μ.length (.lst (rest.eraseIdx (drawM rest.length dl).1.toNat)) = putDl μ j k (drawM rest.length dl).2 ++ [MO.lst (rest.eraseIdx (drawM rest.length dl).1.toNat), MO.lst found] := by
          rw [← l2, set2_0]
        rw [e5] at hpop
        have hap := ex_drop (ev_append (K := K) (ev_var (i := 3) (ρ := [some (.loc j), some v, some (.loc μ.length), some (.loc (μ.length + 1)), some (.val (.int (0 + (x : Int))))]) rfl) (ed_cons hpop ed_nil) ⟨_, .inl b2⟩ (xs := found) (by rw [← l2]; simp) (by omega))
        have e6 : (putDl μ j k (drawM rest.length dl).2 ++ [MO.lst (rest.eraseIdx (drawM rest.length dl).1.toNat), MO.lst found]).set (μ.length + 1) (.lst (found ++ [y])) = putDl μ j k (drawM rest.length dl).2 ++ [MO.lst (rest.eraseIdx (drawM rest.length dl).1.toNat), MO.lst (found ++ [y])] := by
          rw [← l2, set2_1]
        rw [e6] at hap
        exact hap
      · rw [es]
        simp only
        have := List.length_eraseIdx_of_lt (List.getElem?_eq_some_iff.mp hy).1
        rw [this]
        omega
      · rw [es]
        simp [h2]
      · rw [es]
        exact Nat.le_trans drawM_len h3) ⟨none, rfl, by simp, rfl, hd.len⟩
  have l1 : (putDl μ j k d).length = μ.length := putDl_len
  have b1 : (putDl μ j k d ++ [MO.lst xs, MO.lst []])[μ.length]? = some (.lst xs) := by rw [← l1]; simp
  have hr : EvI K (iRng1 (tCons (tCB (rLenA K) (tCons (tVar 2) tNil)) tNil)) [some (.loc j), some v, some (.loc μ.length), some (.loc (μ.length + 1)), none] (putDl μ j k d ++ [MO.lst xs, MO.lst []]) ((List.range xs.length).map fun (n : Nat) => D.int (0 + (n : Int))) (putDl μ j k d ++ [MO.lst xs, MO.lst []]) CT := by
    have h := ei_range1 (K := K) (n := (xs.length : Int)) (ed_cons (ev_cbW (ea_cons (ev_var (i := 2) (ρ := [some (.loc j), some v, some (.loc μ.length), some (.loc (μ.length + 1)), none]) rfl) ea_nil) (c_lenSeq (.loc b1))) ed_nil) (by omega) (by omega)
    exact h
  refine ex_seq (ex_for hr hl) ?_
  subst e
  have l2 : (putDl μ j k (mixAll xs.length (d, xs, [])).1).length = μ.length := putDl_len
  have hfr := ev_frz (K := K) (xs := mixedM xs d) (ev_var (i := 3) (w := .loc (μ.length + 1)) (ρ := [some (.loc j), some v, some (.loc μ.length), some (.loc (μ.length + 1)), x]) (μ := putDl μ j k (mixAll xs.length (d, xs, [])).1 ++ [MO.lst (mixAll xs.length (d, xs, [])).2.1, MO.lst (mixAll xs.length (d, xs, [])).2.2]) rfl) (by rw [← l2]; simp; rfl)
  refine ex_to (ex_ret hfr) ?_
  congr 1
  rw [← l2, set2_1]
  rfl⟩
theorem c_mixed {j k : Nat} {v : W} {xs : List D} {d : Dl} {E : XK} (h : EvA K t ρ μ [.loc j, v] μ1) (hd : DealAt μ1 j k d) (hv : SeqW μ1 v xs) (hz : xs.length ≤ LB) : Ev K (tCall (sp_law_mixed K) [] E t) ρ μ (.val (.lst (mixedM xs d))) (putDl μ1 j k (mixedD xs d)) :=
  ev_callW h dfl_nil ⟨j, k, v, xs, d, by simp, hd, hv, hz, rfl, rfl⟩
/-! what mixed gives -/
theorem erase_map {α β : Type} (f : α → β) : ∀ (l : List α) (i : Nat), (l.map f).eraseIdx i = (l.eraseIdx i).map f
  | [], _ => rfl
  | _ :: _, 0 => rfl
  | x :: l, i + 1 => by
    show f x :: (l.map f).eraseIdx i = f x :: (l.eraseIdx i).map f
    rw [erase_map f l i]
theorem mixStep_map {α β : Type} (f : α → β) (d : Dl) (rest found : List α) : mixStep (d, rest.map f, found.map f) = ((mixStep (d, rest, found)).1, (mixStep (d, rest, found)).2.1.map f, (mixStep (d, rest, found)).2.2.map f) := by
  unfold mixStep
  simp only [List.length_map, List.getElem?_map]
  cases e : rest[(drawM rest.length d).1.toNat]? with
  | none => rfl
  | some x => simp [erase_map]
theorem mixAll_map {α β : Type} (f : α → β) : ∀ (n : Nat) (s : Dl × List α × List α), mixAll n (s.1, s.2.1.map f, s.2.2.map f) = ((mixAll n s).1, (mixAll n s).2.1.map f, (mixAll n s).2.2.map f)
  | 0, s => rfl
  | n + 1, s => by
    have e : ∀ {γ : Type} (u : Dl × List γ × List γ), mixAll (n + 1) u = mixStep (mixAll n u) := fun u => by
      unfold mixAll
      rw [List.range_succ, List.foldl_append]
      rfl
    rw [e, e, mixAll_map f n s]
    exact mixStep_map f _ _ _
theorem mixedM_map {α β : Type} (f : α → β) (xs : List α) (d : Dl) : mixedM (xs.map f) d = (mixedM xs d).map f := by
  unfold mixedM
  have := mixAll_map f xs.length (d, xs, [])
  rw [List.length_map]
  exact congrArg (fun z => z.2.2) this
theorem mixedD_map {α β : Type} (f : α → β) (xs : List α) (d : Dl) : mixedD (xs.map f) d = mixedD xs d := by
  unfold mixedD
  have := mixAll_map f xs.length (d, xs, [])
  rw [List.length_map]
  exact congrArg (fun z => z.1) this
theorem erase_perm {α : Type} : ∀ {l : List α} {i : Nat} {x : α}, l[i]? = some x → l.Perm (x :: l.eraseIdx i)
  | _ :: _, 0, _, h => by
    simp at h
    subst h
    exact .refl _
  | y :: l, i + 1, x, h => by
    have := erase_perm (l := l) (i := i) (x := x) (by simpa using h)
    exact (List.Perm.cons y this).trans (.swap x y _)
theorem mixAll_inv {α : Type} {xs : List α} {d : Dl} : ∀ (n : Nat), n ≤ xs.length → let s := mixAll n (d, xs, []); (s.2.2 ++ s.2.1).Perm xs ∧ s.2.1.length + n = xs.length ∧ s.1.1.length ≤ d.1.length
  | 0, _ => ⟨.refl _, rfl, Nat.le_refl _⟩
  | n + 1, hn => by
    obtain ⟨h1, h2, h3⟩ := mixAll_inv (xs := xs) (d := d) n (by omega)
    have e : mixAll (n + 1) (d, xs, []) = mixStep (mixAll n (d, xs, [])) := by
      unfold mixAll
      rw [List.range_succ, List.foldl_append]
      rfl
    simp only
    rw [e]
    generalize mixAll n (d, xs, []) = s at h1 h2 h3
    obtain ⟨dl, rest, found⟩ := s
    simp only at h1 h2 h3
    have hne : rest ≠ [] := fun z => by rw [z] at h2; simp at h2; omega
    obtain ⟨y, hy, es⟩ := mixStep_some (d := dl) (found := found) hne
    rw [es]
    refine ⟨?_, ?_, Nat.le_trans drawM_len h3⟩
    · simp only [List.append_assoc]
      exact (List.Perm.append_left found (erase_perm hy).symm).trans h1
    · simp only
      have := List.length_eraseIdx_of_lt (List.getElem?_eq_some_iff.mp hy).1
      rw [this]
      have := (List.getElem?_eq_some_iff.mp hy).1
      omega
theorem DealAt.start {a b : Dl} (h : a = b) (hz : b.1.length ≤ LB) : DealAt [bigMO a, dealMO 0 b] 1 0 b := by
  subst h
  exact ⟨rfl, rfl, by decide, hz⟩
theorem dealM_len {a b p q base : Int} {ns : List Int} (h : ns.length ≤ LB) : (dealM a b p q base ns).1.length ≤ LB := by
  unfold dealM cellsM
  simp only [List.length_reverse]
  refine Nat.le_trans (List.length_filter_le _ _) ?_
  rw [List.length_map]
  exact Nat.le_trans cutI_len h
theorem mixedM_perm {α : Type} (xs : List α) (d : Dl) : (mixedM xs d).Perm xs := by
  obtain ⟨h1, h2, _⟩ := mixAll_inv (xs := xs) (d := d) xs.length (Nat.le_refl _)
  have e : (mixAll xs.length (d, xs, [])).2.1 = [] := List.eq_nil_of_length_eq_zero (by omega)
  rw [e, List.append_nil] at h1
  exact h1
theorem mixedD_len {α : Type} (xs : List α) (d : Dl) : (mixedD xs d).1.length ≤ d.1.length := (mixAll_inv (xs := xs) (d := d) xs.length (Nat.le_refl _)).2.2
theorem DealAt.mixed {α : Type} {j k : Nat} {d : Dl} (h : DealAt μ j k d) (xs : List α) : DealAt (putDl μ j k (mixedD xs d)) j k (mixedD xs d) := h.put _ (Nat.le_trans (mixedD_len xs d) h.len)

/-! ### the law itself -/
def Phi_law : Phi := fun ws μ w μ' => ∃ ns : List Int, ws = [.val (.scr ns)] ∧ ns.length ≤ LB ∧ μ = [] ∧ w = .val (.bl true) ∧ μ' = []
abbrev sp_law (K : PySem.W.Frag) : Sp := spD K Phi_law
theorem ln_law {vs : List V} {H : Hp} {Q : VK} {E : XK} : sp_law K vs H Q E → vs.length = 1 := ln_D fun _ _ _ _ ⟨_, e, _⟩ => by rw [e]; rfl
def ExT (K : PySem.W.Frag) (ts : TS) (ρ : Env') (μ : Mu) (w : W) : Prop := ∃ μ2, Ex K ts ρ μ (.rt w μ2)
theorem ext_seq {ts us : TS} {ρ1 : Env'} {w : W} (h : Ex K ts ρ μ (.nx ρ1 μ1)) (k : ExT K us ρ1 μ1 w) : ExT K (tSeq ts us) ρ μ w := by
  obtain ⟨μ2, k⟩ := k
  exact ⟨μ2, ex_seq h k⟩
theorem ext_ret {w : W} (h : Ev K te ρ μ w μ1) : ExT K (tRet te) ρ μ w := ⟨μ1, ex_ret h⟩
theorem ext_seqI {ts us : TS} {w : W} {I : Env' → Mu → Prop} (h : ExI K ts ρ μ I) (k : ∀ ρ1 μ1, I ρ1 μ1 → ExT K us ρ1 μ1 w) : ExT K (tSeq ts us) ρ μ w := by
  obtain ⟨ρ1, μ1, h, i⟩ := h
  exact ext_seq h (k ρ1 μ1 i)
theorem ext_pass {t : TT} {ts us : TS} {k : Bool} {w : W} (hc : EvB K t ρ μ k μ1) (hk : k = false) (hb : ExT K us ρ μ1 w) : ExT K (tSeq (tIfS t ts tNext) us) ρ μ w := by
  obtain ⟨μ', hb⟩ := hb
  exact ⟨μ', ex_pass hc hk hb⟩
theorem fn_L {ts : TS} {n : Nat} (h : ∀ ns : List Int, ns.length ≤ LB → ExT K ts (some (.val (.scr ns)) :: List.replicate n none) [] (.val (.bl true))) : FnD K ts (n + 1) Phi_law := ⟨fun ws μ w μ' ⟨ns, e1, hz, e2, e3, e4⟩ wf => by
  subst e1 e2 e3 e4
  obtain ⟨μ2, h⟩ := h ns hz
  exact ⟨μ2, Nat.le_refl _, rfl, wf, .inl h⟩⟩
/-- the law's promise at the script -/
theorem law_sp {H : Hp} {a : Addr} {ns : List Int} (hz : ns.length ≤ LB) (hs : SqL K H a (ns.map V.int)) : sp_law K [.ref a] H (fun v _ => v = .bl true) fun _ _ _ => False :=
  ⟨fun _ => False, [], H, [.val (.scr ns)], [], .val (.bl true), [], ⟨ns, rfl, hz, rfl, rfl, rfl⟩, ⟨Same.refl _, fun _ h => h.elim, List.nodup_nil, rfl, fun j a m h => by simp at h, fun m hm => by simp at hm, rfl, fun i w h => by
    match i, h with
    | 0, h =>
      simp at h
      subst h
      exact ⟨.ref a, rfl, a, rfl, hs⟩
    | i + 1, h => simp at h⟩, fun v as' G' H' _ _ r => r⟩
end
end DK

/-! DKH: the head's facts, with one more Bool. -/
namespace DK
open PySem PySem.Spec PyProof.Rows L2 He

/-- a class's statements -/
def stmtsOf (c : Stmt) : List Stmt := match c with
  | .ClassDef _ _ _ b _ _ _ _ _ _ _ => b
  | _ => []
abbrev AlX : Type := Bool × AlD
def obsX (n : Nat) (fa : List Fa) (fn : List DefD) (xb : PySem.W.Frag → Bool) (g : Addr → Option Obj) : AlX := let K := frG g (asD g n); (xb K, obsD fa fn K)
def hookX (n : Nat) (fa : List Fa) (fn : List DefD) (xb : PySem.W.Frag → Bool) : PySem.W.Hook where
  α := AlX
  obs := fun s => obsX n fa fn xb s.heap.get?
  val := fun _ => (true, He.valD fn)
  says := fun _ h => ∃ K : PySem.W.Frag, K.In h ∧ SaysD fa fn K ∧ xb K = true
  of := fun _ _ e => ⟨_, frG_in, congrArg (fun z : AlX => z.2) e, congrArg (fun z : AlX => z.1) e⟩
  keeps := fun _ _ _ ⟨K, hK, c⟩ k => ⟨K, PySem.W.Frag.In.keeps hK k, c⟩
theorem obsX_eq {n : Nat} {fa : List Fa} {fn : List DefD} {xb : PySem.W.Frag → Bool} {g : Addr → Option Obj} {s : Shared} (h : ∀ a, g a = s.heap.get? a) : obsX n fa fn xb g = (hookX n fa fn xb).obs s := by
  have e : g = s.heap.get? := funext h
  rw [e] <;> rfl
/-- a class of one's own -/
def clsB (K : PySem.W.Frag) (x : Str) : Bool := (Fa.cls x).ok K && (eqO (PySem.W.findIn K (.ref (ga K x)) "__class__") (some (some (.builtin "object.__class__"))) && (eqO (PySem.W.specialIn K (.builtin "object.__class__") "__get__") (some (some (.builtin "getset_descriptor.__get__"))) &&
  (decide (PySem.W.takesIn K (.builtin "object.__class__") = some true) && (decide (PySem.W.mroIn K (ga K x) (.type "object") = some true) && ["int", "bool", "str", "list", "tuple"].all fun T => decide (PySem.W.kitOne K (.ref (ga K x)) (.type T) = some false)))))
theorem clsB_ok {K : PySem.W.Frag} {x : Str} (h : clsB K x = true) : ClsOk K (ga K x) := by
  obtain ⟨h1, h⟩ := ba h
  obtain ⟨h2, h⟩ := ba h
  obtain ⟨h3, h⟩ := ba h
  obtain ⟨h4, h⟩ := ba h
  obtain ⟨h5, h6⟩ := ba h
  exact ⟨cls_ok h1, eqO_ok h2, eqO_ok h3, of_decide_eq_true h4, of_decide_eq_true h5, fun T hT => of_decide_eq_true (List.all_eq_true.mp h6 T hT)⟩
def noB (K : PySem.W.Frag) (x : Str) (fs : List Str) : Bool := fs.all fun f => eqO (PySem.W.findIn K (.ref (ga K x)) f) (some none)
theorem noB_ok {K : PySem.W.Frag} {x : Str} {fs : List Str} (h : noB K x fs = true) : ∀ f ∈ fs, NoAttr K (ga K x) f := fun f hf => eqO_ok (List.all_eq_true.mp h f hf)
def strsB (K : PySem.W.Frag) (x : Str) (ss : List Str) : Bool := tupB K x (ss.map Dv.str)
theorem strsB_ok {K : PySem.W.Frag} {x : Str} {ss : List Str} (h : strsB K x ss = true) (H : Hp) : SqT K H (ga K x) (ss.map V.str) := by
  have := tupB_ok h H
  rw [List.map_map] at this
  exact this
def wordsB (K : PySem.W.Frag) : Bool := strsB K "WORDS" wordsC && (strsB K "BARRED" barredC && strsB K "LEARNING" learningC)
theorem wordsB_ok {K : PySem.W.Frag} (h : wordsB K = true) : KWords K := by
  obtain ⟨h1, h⟩ := ba h
  obtain ⟨h2, h3⟩ := ba h
  exact ⟨strsB_ok h1, strsB_ok h2, strsB_ok h3⟩
def rowB (K : PySem.W.Frag) : Bool := clsB K "Row" && (noB K "Row" ["word", "tests", "deeds", "opens"] && decide (PySem.W.kitOne K (.ref (ga K "Row")) (.ref (ga K "Row")) = some true))
theorem rowB_ok {K : PySem.W.Frag} (h : rowB K = true) : KRow K := by
  obtain ⟨h1, h⟩ := ba h
  obtain ⟨h2, h3⟩ := ba h
  exact ⟨clsB_ok h1, noB_ok h2, of_decide_eq_true h3⟩
def toolB (K : PySem.W.Frag) : Bool := clsB K "Tool" && (noB K "Tool" ["window", "rows", "marks"] && decide (PySem.W.kitOne K (.ref (ga K "Tool")) (.ref (ga K "Tool")) = some true))
theorem toolB_ok {K : PySem.W.Frag} (h : toolB K = true) : KTool K := by
  obtain ⟨h1, h⟩ := ba h
  obtain ⟨h2, h3⟩ := ba h
  exact ⟨clsB_ok h1, noB_ok h2, of_decide_eq_true h3⟩
end DK

/-! DKP: repr of data. What is being shown (A.guards) is known to be nothing: a def's promise where that stands. -/
namespace DK
open PySem PySem.Spec PyProof.Rows L2

/-- a def's promise, where nothing is being shown -/
structure FnG (P : Program) (w : World) (K : PySem.W.Frag) (mg : Str → Option Value) (base : Heap) (CX : CXT) (k : Nat) (f : Addr) (fd : FuncData) (ps : List Str) (sp : Sp) : Prop where
  len : ∀ vs H Q E, sp vs H Q E → vs.length = ps.length
  go : ∀ (A : Around) (outer : List Env) (s : Shared) (H : Hp) (args : Args) (us : List Value) (vs : List V) (Q : VK) (E : XK), A.guards = some [] → Room k A → Env0 P w K mg base A outer s H → BindsTo s fd args (ps.zip us) → Vals vs us → sp vs H Q E →
    codeAny (model P w) A (.call (.ref f) args) (CR CX outer P w H s Q E) s
section
variable {CX : CXT} {P : Program} {w : World} {K : PySem.W.Frag} {mg mb : Str → Option Value} {base : Heap} {k : Nat} {f : Addr} {fd : FuncData} {x qual : Str} {params : Arguments} {body : List Stmt} {scope : Scope} {dvs : List V} {kws : List (Str × V)} {N ps : List Str} {sp : Sp}
theorem funG (F : FunD K x qual params body scope dvs kws f fd) (S : FnScope N ps scope) (len : ∀ vs H Q E, sp vs H Q E → vs.length = ps.length)
    (hb : ∀ (cdv : Value) (A : Around) (outer : List Env) (s : Shared) (H : Hp) (vs : List V) (Q : VK) (E : XK), A.guards = some [] → Room k (A.deeper (envOfC qual scope s.heap.objs.size f cdv)) → sp vs H Q E →
      ∃ t, PSs (cxOf CX P w K mg base N qual scope f cdv A outer s H E) body t ∧ t { nx := fun _ H' => Q .non H', rt := Q } (start N vs) H) : FnG P w K mg base CX (k + 1) f fd ps sp := by
  obtain ⟨oc, od, dV, kV, doc, pm, an, cdv, ct, osl, rfl, at_, cd, -, -⟩ := F.ex
  refine ⟨len, ?_⟩
  intro A outer s H args us vs Q E gA room env bind vals want
  have old : ∀ b o, base.get? b = some o → s.heap.get? b = some o := fun b o e => (env.bs b o e).1
  have kin : K.In s.heap := env.mod.kin.keeps old
  have kinds : ∀ y ∈ ps.zip us, scope.names.lookup y.1 = some .local ∨ (scope.names.lookup y.1 = some .cell ∧ ((cellsFrom (s.heap.objs.size + 1) scope.names []).lookup y.1).isSome = true) := fun y hy =>
    (S.par y.1 (List.of_mem_zip (show (y.1, y.2) ∈ _ from hy)).1).elim .inl fun q => .inr ⟨q, PySem.W.cellsFrom_some _ _ _ (.inl q)⟩
  apply codeAny_call_function room.depth (kin _ _ at_) rfl S.co S.gen rfl (PySem.W.codeRec_of kin cd) (bind _ _ _ _ ?_)
  apply wpAny_newFunctionEnv_cells S.kind kinds
  rintro env1 rfl s1 fresh
  refine ⟨(env.mod.nolimit.keeps old).keeps fresh.toInCall.keep, codeAny_func ?_⟩
  obtain ⟨t, rd, post⟩ := hb cdv A outer s H vs Q E gA (room.deeper _) want
  have I0 : Inv (cxOf CX P w K mg base N qual scope f cdv A outer s H E) [] (start N vs) H s1 := inv_start S room.hd env (len _ _ _ _ want) vals fresh
  refine wpAny_mono (rd.run [] s1 (start N vs) H _ I0 post) (fun flow s' out => ?_) fun _ _ out => out
  match flow, out with
  | .ret _, ⟨v, _, H', J, rv, q⟩ => exact ⟨v, H', J.os, J.bare, J.base, J.hok, rv, q⟩
  | .next, ⟨_, H', J, q⟩ => exact ⟨.non, H', J.os, J.bare, J.base, J.hok, rfl, q⟩
  | .brk, ⟨_, _, _, q⟩ => exact q.elim
  | .cont, ⟨_, _, _, q⟩ => exact q.elim

/-! ### the law, called where nothing is shown -/
/-- the script, as the heap behind the top has it -/
theorem law_at {H : Hp} {a : Addr} {s₁ : Shared} {vs : List Value} {xn : Str} (inK : K.In s₁.heap) (gl : s₁.heap.Ns mainGlobals mg) (bt : s₁.heap.Ns builtinsNs mb) (boot : ∀ y : Str, y ≠ "__name__" → mb y = bootBuiltins y) (lim : s₁.heap.NoLimit) (gens : s₁.gens = #[])
    (scr : s₁.heap.get? a = some { cls := .type "list", data := .seq vs.toArray }) (room : Room k callerA) (F : ∀ base : Heap, K.In base → base.Ns mainGlobals mg → FnG P w K mg base CX k f fd [xn] sp) (bind : ∀ (s : Shared) (u : Value), BindsTo s fd ⟨[u], []⟩ [(xn, u)])
    (out : ∀ H e s', CX [] H s₁ (fun _ _ _ => False) e s' → False) (only : Only H) (lone : ∀ b, H b ≠ none → b = a) (notK : H a ≠ none → K.lookup a = none) (ok : HOk P w H s₁.heap) (want : sp [.ref a] H (fun v _ => v = .bl true) fun _ _ _ => False) :
    codeAny (model P w) callerA (.call (.ref f) ⟨[.ref a], []⟩) (fun r s' => r = .ok (.ret (.bool true)) ∧ OldK s₁.heap s'.heap ∧ s'.os = s₁.os ∧ AllBare s'.gens) s₁ := by
  -- a dict of the heap is not tracked
  have free : ∀ {b : Addr} {o : Obj} {es : Array DictEntry} {n : Nat}, s₁.heap.get? b = some o → o.data = .dict es n → H b = none := by
    intro b o es n e d
    by_cases q : H b = none
    · exact q
    · have z := lone b q
      rw [z, scr] at e
      injection e with e
      rw [← e] at d
      cases d
  have ns : ∀ {b : Addr} {m : Str → Option Value}, s₁.heap.Ns b m → (hidT s₁.heap H).Ns b m := fun ⟨o, es, n, e, d, r⟩ => ⟨o, es, n, hidT_get e (free e d), d, r⟩
  have inB : K.In (hidT s₁.heap H) := fun b o e => hidT_get (inK b o e) (by
    by_cases q : H b = none
    · exact q
    · have z := lone b q
      subst z
      rw [notK q] at e
      cases e)
  have M : Mod K mg (hidT s₁.heap H) := ⟨inB, ns gl, ⟨mb, ns bt, boot⟩, by obtain ⟨mc, h1, h2⟩ := lim; exact ⟨mc, ns h1, h2⟩⟩
  have E0 : Env0 P w K mg (hidT s₁.heap H) callerA [] s₁ H := ⟨rfl, M, fun _ _ e => of_hidT e, Nat.le_of_eq (hidT_size _ _), trivial, fun b hb => by simp [frs] at hb, ok, .of_eq gens⟩
  refine codeAny_mono ((F _ inB (ns gl)).go callerA [] s₁ H ⟨[.ref a], []⟩ [.ref a] [.ref a] _ _ rfl room E0 (bind s₁ (.ref a)) (.cons rfl .nil) want) ?_
  intro r s' end_
  match r, end_ with
  | .error e, z => exact (out H e s' z).elim
  | .ok .next, z => exact False.elim z
  | .ok .brk, z => exact False.elim z
  | .ok .cont, z => exact False.elim z
  | .ok (.ret u), ⟨v, H', os, bare, un, ok', rv, q⟩ =>
    have q' : v = .bl true := q
    subst q'
    have eu : u = Value.bool true := rv
    subst eu
    refine ⟨rfl, OldK.of_keep fun b o e => ?_, os, bare⟩
    rcases only b with z | ⟨ob, ys, z⟩
    · exact un.keep b o e z (by simp [frs]) (by simp)
    · obtain ⟨e1, _⟩ := ok b _ z
      obtain ⟨e2, _⟩ := ok' b _ (un.frzs b ob _ z)
      rw [← e1.symm.trans e |> Option.some.inj]
      exact e2

/-- nothing but the script is tracked (or it is an object of the module) -/
theorem law_G {a : Addr} {s₁ : Shared} {vs : List Value} {ns : List Int} {xn : Str} (inK : K.In s₁.heap) (gl : s₁.heap.Ns mainGlobals mg) (bt : s₁.heap.Ns builtinsNs mb) (boot : ∀ y : Str, y ≠ "__name__" → mb y = bootBuiltins y) (lim : s₁.heap.NoLimit) (gens : s₁.gens = #[])
    (scr : s₁.heap.get? a = some { cls := .type "list", data := .seq vs.toArray }) (isI : IntsAre vs ns) (short : ns.length ≤ sizeLine) (room : Room k callerA) (F : ∀ base : Heap, K.In base → base.Ns mainGlobals mg → FnG P w K mg base CX k f fd [xn] sp) (bind : ∀ (s : Shared) (u : Value), BindsTo s fd ⟨[u], []⟩ [(xn, u)])
    (want : ∀ H : Hp, Only H → SqL K H a (ns.map V.int) → sp [.ref a] H (fun v _ => v = .bl true) fun _ _ _ => False) (out : ∀ H e s', CX [] H s₁ (fun _ _ _ => False) e s' → False) :
    codeAny (model P w) callerA (.call (.ref f) ⟨[.ref a], []⟩) (fun r s' => r = .ok (.ret (.bool true)) ∧ OldK s₁.heap s'.heap ∧ s'.os = s₁.os ∧ AllBare s'.gens) s₁ := by
  have vals := vals_ints isI
  have sz := isI.length
  by_cases hk : K.lookup a = none
  · let so : HO := .frz { cls := .type "list", data := .seq vs.toArray } (.lst (ns.map V.int))
    let H : Hp := fun b => if b = a then some so else none
    have at_ : H a = some so := if_pos rfl
    have off : ∀ b, b ≠ a → H b = none := fun b z => if_neg z
    have only : Only H := fun b => (Classical.em (b = a)).elim (fun z => .inr ⟨_, _, z ▸ at_⟩) fun z => .inl (off b z)
    refine law_at (H := H) inK gl bt boot lim gens scr room F bind out only (fun b z => Classical.byContradiction fun q => z (off b q)) (fun _ => hk) ?_ (want H only (.inl (.inr ⟨_, at_⟩)))
    intro b u e
    by_cases z : b = a
    · subst z
      rw [at_] at e
      cases e
      exact ⟨scr, by rw [List.length_map]; exact short, vs, _, vals, scr⟩
    · rw [off b z] at e
      cases e
  · obtain ⟨o, lk⟩ := Option.ne_none_iff_exists'.mp hk
    have eo := (inK a o lk).symm.trans scr
    cases eo
    have only : Only (fun _ => none) := fun _ => .inl rfl
    exact law_at (H := fun _ => none) inK gl bt boot lim gens scr room F bind out only (fun _ z => absurd rfl z) (fun z => absurd rfl z) (fun b u e => by cases e) (want _ only (.inr ⟨_, vs.toArray, _, lk, rfl, rfl, rfl, by rw [List.size_toArray, sz]; exact short, by simpa using vals⟩))
theorem walk_G {l : PySem.W.OpenLaw} {n : Nat} {q : Program} {loose : List Str} {XP : (Str → Option Value) → Heap → Prop} {YP : World → Heap → Prop} {d : DefRec} {xn : Str}
    (most : l.most = some n) (small : n ≤ sizeLine) (nodef : d.params.defaults = []) (room : Room k callerA)
    (F : ∀ (w : World) (mg : Str → Option Value) (fa : Addr) (h : Heap), YP w h → h.Ns mainGlobals mg → mg d.name = some (.ref fa) → ∃ (K : PySem.W.Frag) (fd : FuncData) (sp : Sp), K.In h ∧ (∀ (s : Shared) (u : Value), BindsTo s fd ⟨[u], []⟩ [(xn, u)]) ∧
        (∀ (H : Hp) (a : Addr) (ns : List Int), ns.length ≤ n → SqL K H a (ns.map V.int) → sp [.ref a] H (fun v _ => v = .bl true) fun _ _ _ => False) ∧ ∀ base : Heap, K.In base → base.Ns mainGlobals mg → FnG l.prog w K mg base CX k fa fd [xn] sp)
    (out : ∀ (H : Hp) (s : Shared) (e : Value) (s' : Shared), CX [] H s (fun _ _ _ => False) e s' → False) : PySem.W.WalkO q loose XP YP l.row.toRowW d [] (fun f vs => PySem.call f vs) :=
  Att.attach_call most nodef fun w s₀ s₁ mg mb fa o pm cd doc a vs ns G Y ho hd hcd hmg scr isI hlen gens => by
    obtain ⟨K, fd, sp, inK, bind, want, FF⟩ := F w mg fa _ Y G.T.g hmg
    exact law_G inK G.T.g G.T.b G.T.builtins G.T.nolimit gens scr isI (Nat.le_trans hlen small) room FF bind (fun H _ hS => want H a ns hlen hS) fun H e s' => out H s₁ e s'
end
/-! ### repr -/
section
variable {X : Cx}
/-- repr of data -/
def rRepr (K : PySem.W.Frag) : List V → Hp → VK → Prop := fun xs H Q => ∃ (x : V) (d : PyData), xs = [x] ∧ Dp K H x d ∧ d.showable = true ∧ d.hasDict = false ∧ d.depth ≤ 60 ∧ d.shown.length ≤ SB ∧ Q (.str d.shown) H
theorem call_reprD (g : X.A.guards = some []) (u : X.A.units + 64 < cLine) : CallR X (.builtin "repr") (rRepr X.K) := by
  intro pins s σ H xs us Q I r h
  obtain ⟨x, d, rfl, hd, h1, h2, h3, h4, q⟩ := h
  obtain ⟨v, rfl, rv⟩ := vals1 r
  have hz : d.shown.length ≤ sizeLine := Nat.le_trans h4 (by decide)
  cases hd with
  | non => cases rv; exact PySem.P.repr_of_none ⟨.str _, H, I.tok _, ⟨_, rfl⟩, q⟩
  | bl b =>
    cases rv
    exact PySem.P.repr_of_bool ⟨.str _, H, I.tok _, ⟨_, rfl⟩, by cases b <;> exact q⟩
  | int i =>
    obtain ⟨t, rfl⟩ := rv
    exact PySem.P.repr_of_int (of_decide_eq_true h1) ⟨.str _, H, I.tok _, ⟨_, rfl⟩, q⟩
  | str z =>
    obtain ⟨t, rfl⟩ := rv
    exact PySem.P.repr_of_str ⟨.str _, H, I.tok _, ⟨_, rfl⟩, q⟩ hz
  | lst hs ha =>
    cases rv
    obtain ⟨as, rd⟩ := Dp.reads I _ _ _ (.lst hs ha) rfl
    exact repr_of_reads' rd h1 (fun e => by rw [h2] at e; cases e) g (by omega) (fun _ _ e => e) (fun h' t tk k => ⟨.str _, H, I.kept k, ⟨_, rfl⟩, q⟩) hz
  | tup hs ha =>
    cases rv
    obtain ⟨as, rd⟩ := Dp.reads I _ _ _ (.tup hs ha) rfl
    exact repr_of_reads' rd h1 (fun e => by rw [h2] at e; cases e) g (by omega) (fun _ _ e => e) (fun h' t tk k => ⟨.str _, H, I.kept k, ⟨_, rfl⟩, q⟩) hz
end

section
variable {K : PySem.W.Frag} {ρ : Env'} {μ μ1 μ2 : Mu}
mutual
theorem noDict : ∀ d : D, (toPy d).hasDict = false
  | .non => rfl
  | .bl _ => rfl
  | .int _ => rfl
  | .str _ => rfl
  | .tup xs => noDictL xs
  | .lst xs => noDictL xs
  | .obj _ _ _ => rfl
  | .ty _ => rfl
  | .cls _ => rfl
  | .scr _ => rfl
theorem noDictL : ∀ l : List D, PyData.hasDictAll (toPyL l) = false
  | [] => rfl
  | x :: xs => by
    show (PyData.hasDict (toPy x) || PyData.hasDictAll (toPyL xs)) = false
    rw [noDict x, noDictL xs]
    rfl
end
theorem textFrom_le : ∀ (ts : List Str) (k : Nat) (acc : Str), (textFrom k acc ts).length ≤ acc.length + piled ts
  | [], _, acc => Nat.le_refl _
  | t :: ts, k, acc => by
    have h := textFrom_le ts (k + 1) (acc ++ (if k > 0 then ", " else "" : String) ++ t)
    have e : (((if k > 0 then ", " else "" : String) : Str)).length ≤ 2 := by split <;> decide
    show (textFrom (k + 1) _ ts).length ≤ _
    rw [piled_cons]
    rw [len_append, len_append] at h
    omega
theorem listText_le (ts : List Str) : (listText ts).length ≤ piled ts + 2 := by
  have h := textFrom_le ts 0 "["
  have e1 : (("[" : String) : Str).length = 1 := rfl
  have e2 : (("]" : String) : Str).length = 1 := rfl
  unfold listText
  rw [len_append, e2]
  omega
theorem tupleText_le (ts : List Str) : (tupleText ts).length ≤ piled ts + 3 := by
  have e1 : (("(" : String) : Str).length = 1 := rfl
  have e2 : (((if ts.length == 1 then ",)" else ")" : String) : Str)).length ≤ 2 := by split <;> decide
  have e3 : (Str.join ", " ts).length ≤ piled ts := by
    by_cases h : ts = []
    · subst h; exact Nat.zero_le _
    · have := join_length_add ts h
      omega
  unfold tupleText
  rw [len_append, len_append, e1]
  omega
mutual
/-- a bound of the text that shows d -/
def showCost : D → Nat
  | .str s => 10 * s.length + 4
  | .int i => if Nat.blt i.natAbs 1000000 = true then 8 else 2000
  | .tup xs => showCostL xs + 3
  | .lst xs => showCostL xs + 3
  | _ => 5
def showCostL : List D → Nat
  | [] => 0
  | x :: xs => showCost x + 2 + showCostL xs
end
mutual
def strsIn : D → Bool
  | .str s => s.cps.all (· < 0x110000)
  | .tup xs => strsInL xs
  | .lst xs => strsInL xs
  | _ => true
def strsInL : List D → Bool
  | [] => true
  | x :: xs => strsIn x && strsInL xs
end
mutual
theorem shown_le : ∀ d : D, strsIn d = true → (toPy d).showable = true → (toPy d).shown.length ≤ showCost d
  | .non, _, _ => by show (4 : Nat) ≤ 5; decide
  | .bl b, _, _ => by cases b <;> (show (_ : Nat) ≤ 5; decide)
  | .int i, _, h => by
    have h1 := int_text_length_le (k := 1920) (by decide) (of_decide_eq_true h)
    show (Str.ofString (toString i)).length ≤ if Nat.blt i.natAbs 1000000 = true then 8 else 2000
    rw [PySem.ofString_length]
    split
    · rename_i q
      have h2 := int_text_length_le10 (a := i) (k := 6) (by decide) (by
        have : i.natAbs ≤ 999999 := by simpa [Nat.blt] using q
        omega)
      omega
    · omega
  | .str s, h, _ => by
    have := StrLaws.reprText_len s fun c hc => by
      have := Array.all_eq_true_iff_forall_mem.mp (show s.cps.all (· < 0x110000) = true from h) c (by simpa using hc)
      have : c < 0x110000 := by simpa using this
      omega
    show (reprText s).length ≤ 10 * s.length + 4
    omega
  | .tup xs, h, k => Nat.le_trans (tupleText_le _) (Nat.add_le_add_right (shown_leL xs h k) 3)
  | .lst xs, h, k => Nat.le_trans (listText_le _) (Nat.le_trans (Nat.add_le_add_right (shown_leL xs h k) 2) (Nat.le_succ _))
  | .obj _ _ _, _, _ => by show (4 : Nat) ≤ 5; decide
  | .ty _, _, _ => by show (4 : Nat) ≤ 5; decide
  | .cls _, _, _ => by show (4 : Nat) ≤ 5; decide
  | .scr _, _, _ => by show (4 : Nat) ≤ 5; decide
theorem shown_leL : ∀ l : List D, strsInL l = true → PyData.showableAll (toPyL l) = true → piled (PyData.shownAll (toPyL l)) ≤ showCostL l
  | [], _, _ => Nat.le_refl _
  | x :: xs, h, k => by
    obtain ⟨h1, h2⟩ := Bool.and_eq_true_iff.mp (show (strsIn x && strsInL xs) = true from h)
    obtain ⟨k1, k2⟩ := Bool.and_eq_true_iff.mp (show ((toPy x).showable && PyData.showableAll (toPyL xs)) = true from k)
    have a := shown_le x h1 k1
    have b := shown_leL xs h2 k2
    show piled ((toPy x).shown :: PyData.shownAll (toPyL xs)) ≤ showCost x + 2 + showCostL xs
    rw [piled_cons]
    omega
end
/-- data that repr shows -/
structure Shows (d : D) : Prop where
  py : pyOk d = true
  sh : (toPy d).showable = true
  dp : (toPy d).depth ≤ 60
  st : strsIn d = true
  sz : showCost d ≤ SB
/-- repr(a) != repr(b) where both are the same -/
theorem eb_reprNe {ta tb : TE} {d : D} (ha : Ev K ta ρ μ (.val d) μ1) (hb : Ev K tb ρ μ1 (.val d) μ2) (h : Shows d) : EvB K (tTest (tOp (rNee K) (tCB (rRepr K) (tCons ta tNil)) (tCB (rRepr K) (tCons tb tNil)))) ρ μ false μ2 := fun P as σ G H R Q q =>
  ha P as σ G H R _ fun x as1 G1 H1 n1 R1 r1 => ⟨x, toPy d, rfl, dp_of R1.sub d x h.py r1, h.sh, noDict d, h.dp, Nat.le_trans (shown_le d h.st h.sh) h.sz,
    hb P as1 σ G1 H1 R1 _ fun y as2 G2 H2 n2 R2 r2 => ⟨y, toPy d, rfl, dp_of R2.sub d y h.py r2, h.sh, noDict d, h.dp, Nat.le_trans (shown_le d h.st h.sh) h.sz, .inl ⟨rfl, by
      rw [show (!decide (V.str (toPy d).shown = V.str (toPy d).shown)) = false by simp]
      exact ⟨false, rfl, q as2 G2 H2 (n1.trans n2) R2⟩⟩⟩⟩
end
end DK

/-! DXA: running a reading: functions over data and the store, and that they tell what the readings do. -/
namespace DX
open PySem PySem.Spec PyProof.Rows L2 DK

abbrev RE := Env' → Mu → Option (W × Mu)
abbrev RB := Env' → Mu → Option (Bool × Mu)
abbrev RA := Env' → Mu → Option (List W × Mu)
abbrev RS := Env' → Mu → Option Out
abbrev RO := Env' → Mu → Option (Option Int × Mu)
abbrev RG := W → Env' → Option Env'
/-- what is walked: its items; where it is a list of the store: which -/
abbrev RI := Env' → Mu → Option (List D × Option (Nat × List D) × Mu)

section
variable (K : PySem.W.Frag)
def SnE (te : TE) (m : RE) : Prop := ∀ ρ μ w μ', m ρ μ = some (w, μ') → Ev K te ρ μ w μ'
def SnB (tt : TT) (m : RB) : Prop := ∀ ρ μ b μ', m ρ μ = some (b, μ') → EvB K tt ρ μ b μ'
def SnA (ta : TA) (m : RA) : Prop := ∀ ρ μ ws μ', m ρ μ = some (ws, μ') → EvA K ta ρ μ ws μ'
def SnS (ts : TS) (m : RS) : Prop := ∀ ρ μ o, m ρ μ = some o → Ex K ts ρ μ o
def EvO' (to : TO) (ρ : Env') (μ : Mu) (o : Option Int) (μ' : Mu) : Prop := ∀ (P : Addr → Prop) (as : List Addr) (σ : L2.St) (G H : Hp), Rl K G H as P ρ μ σ → ∀ Q : Option Int → Hp → Prop,
  (∀ as' G' H', Nx P as G H as' G' H' → Rl K G' H' as' P ρ μ' σ → Q o H') → to σ H Q
def SnO (to : TO) (m : RO) : Prop := ∀ ρ μ o μ', m ρ μ = some (o, μ') → EvO' K to ρ μ o μ'
def SnG (g : TG) (m : RG) : Prop := ∀ w ρ ρ', m w ρ = some ρ' → EvG K g w ρ ρ'
end

section
variable {K : PySem.W.Frag}
/-! ### names, constants -/
def mVar (i : Nat) : RE := fun ρ μ => match ρ[i]? with
  | some (some w) => some (w, μ)
  | _ => none
theorem sn_var {i : Nat} : SnE K (tVar i) (mVar i) := fun ρ μ w μ' h => by
  unfold mVar at h
  split at h
  · cases h; exact ev_var ‹_›
  · cases h
def mC (d : D) : RE := fun _ μ => some (.val d, μ)
theorem sn_int {n : Int} : SnE K (tC (.int n)) (mC (.int n)) := fun ρ μ w μ' h => by cases h; exact ev_int
theorem sn_bl {n : Bool} : SnE K (tC (.bl n)) (mC (.bl n)) := fun ρ μ w μ' h => by cases h; exact ev_bl
theorem sn_non : SnE K (tC .non) (mC .non) := fun ρ μ w μ' h => by cases h; exact ev_non
theorem sn_str {s : Str} (hs : sOk s := by exact ⟨by decide +kernel, by decide +kernel⟩) : SnE K (tC (.str s)) (mC (.str s)) := fun ρ μ w μ' h => by cases h; exact ev_str hs
theorem sn_ty {n : String} : SnE K (tC (.ty n)) (mC (.ty n)) := fun ρ μ w μ' h => by cases h; exact ev_ty
theorem sn_cls {c : Str} : SnE K (tC (.ref (He.ga K c))) (mC (.cls c)) := fun ρ μ w μ' h => by cases h; exact ev_cls
theorem sn_strs {a : Addr} {ss : List Str} (h : ∀ H, SqT K H a (ss.map V.str)) (hk : ss.all (fun s => decide (s.length ≤ SB) && s.cps.all (· < 0x110000)) = true) (hz : ss.length ≤ LB) : SnE K (tC (.ref a)) (mC (.tup (ss.map D.str))) := fun ρ μ w μ' e => by
  cases e
  refine ev_strs h (fun s hs => ?_) hz
  have := List.all_eq_true.mp hk s hs
  rw [Bool.and_eq_true] at this
  exact ⟨of_decide_eq_true this.1, this.2⟩

/-! ### views -/
/-- the data that a value is just now -/
def view (μ : Mu) : W → Option D
  | .val d => some d
  | .loc j => match μ[j]? with
    | some (.lst xs) => some (.lst xs)
    | some (.frz xs) => some (.lst xs)
    | _ => none
section
variable (K) (G H : Hp)
/-- as Rep; a list may still change -/
def RepT : D → V → Prop
  | .lst xs, v => xs.length ≤ LB ∧ ∃ a vs, v = .ref a ∧ H a = some (.lst vs) ∧ RepL K G xs vs
  | d, v => Rep K G d v
end
theorem repT_of {G H : Hp} (s : Same G H) {d : D} {v : V} (r : Rep K G d v) : RepT K G H d v := by
  cases d <;> try exact r
  obtain ⟨z, a, vs, e, g, r⟩ := r
  exact ⟨z, a, vs, e, s _ _ g, r⟩
theorem view_rep {G H : Hp} {as : List Addr} {P : Addr → Prop} {ρ : Env'} {μ : Mu} {σ : L2.St} {w : W} {v : V} {d : D} (R : Rl K G H as P ρ μ σ) (r : RepW K G as w v) (h : view μ w = some d) : RepT K G H d v := by
  cases w with
  | val e => cases h; exact repT_of R.sub r
  | loc j =>
    obtain ⟨a, ha, ev⟩ := r
    unfold view at h
    dsimp only at h
    split at h
    · cases h
      obtain ⟨_, z, vs, e, q⟩ := R.mu j a _ ha ‹_›
      exact ⟨z, a, vs, ev, e, q⟩
    · cases h
      obtain ⟨z, vs, e, q⟩ := R.mu j a _ ha ‹_›
      exact ⟨z, a, vs, ev, R.sub _ _ e, q⟩
    · cases h
/-- an operation on two values that are looked at -/
def OpV (K : PySem.W.Frag) (r : R2) (f : D → D → Option D) : Prop := ∀ a b d, f a b = some d → ∀ (P : Addr → Prop) (as : List Addr) (ρ : Env') (μ : Mu) (σ : L2.St) (G H : Hp) (x y : V), Rl K G H as P ρ μ σ → RepT K G H a x → RepT K G H b y → ∀ Q : VK,
  (∀ v G' H', Nx P as G H as G' H' → Rl K G' H' as P ρ μ σ → Rep K G' d v → Q v H') → r x y H Q
/-- a op b -/
def mOp (f : D → D → Option D) (a b : RE) : RE := fun ρ μ => match a ρ μ with
  | some (x, μ1) => match b ρ μ1 with
    | some (y, μ2) => match view μ2 x, view μ2 y with
      | some d, some e => match f d e with
        | some r => some (.val r, μ2)
        | none => none
      | _, _ => none
    | none => none
  | none => none
theorem sn_op {r : R2} {f : D → D → Option D} {ta tb : TE} {a b : RE} (hr : OpV K r f) (ha : SnE K ta a) (hb : SnE K tb b) : SnE K (tOp r ta tb) (mOp f a b) := fun ρ μ w μ' h => by
  unfold mOp at h
  split at h
  · rename_i x μ1 e1
    split at h
    · rename_i y μ2 e2
      split at h
      · rename_i d e v1 v2
        split at h
        · rename_i z e3
          cases h
          exact fun P as σ G H R Q q => ha _ _ _ _ e1 P as σ G H R _ fun x' as1 G1 H1 n1 R1 r1 => hb _ _ _ _ e2 P as1 σ G1 H1 R1 _ fun y' as2 G2 H2 n2 R2 r2 =>
            hr d e z e3 P as2 ρ _ σ G2 H2 x' y' R2 (view_rep R2 (r1.mono n2.gr n2.pre) v1) (view_rep R2 r2 v2) Q fun v G3 H3 n3 R3 r3 => q v as2 G3 H3 ((n1.trans n2).trans n3) R3 r3
        · cases h
      · cases h
    · cases h
  · cases h
/-- one thing that is looked at -/
def OpU (K : PySem.W.Frag) (r : V → Hp → VK → Prop) (f : D → Option D) : Prop := ∀ a d, f a = some d → ∀ (P : Addr → Prop) (as : List Addr) (ρ : Env') (μ : Mu) (σ : L2.St) (G H : Hp) (x : V), Rl K G H as P ρ μ σ → RepT K G H a x → ∀ Q : VK,
  (∀ v G' H', Nx P as G H as G' H' → Rl K G' H' as P ρ μ σ → Rep K G' d v → Q v H') → r x H Q
def mUn (f : D → Option D) (a : RE) : RE := fun ρ μ => match a ρ μ with
  | some (x, μ1) => match view μ1 x with
    | some d => match f d with
      | some r => some (.val r, μ1)
      | none => none
    | none => none
  | none => none
theorem sn_un {r : V → Hp → VK → Prop} {f : D → Option D} {ta : TE} {a : RE} (hr : OpU K r f) (ha : SnE K ta a) : SnE K (tUn r ta) (mUn f a) := fun ρ μ w μ' h => by
  unfold mUn at h
  split at h
  · rename_i x μ1 e1
    split at h
    · rename_i d v1
      split at h
      · rename_i z e3
        cases h
        exact fun P as σ G H R Q q => ha _ _ _ _ e1 P as σ G H R _ fun x' as1 G1 H1 n1 R1 r1 => hr d z e3 P as1 ρ _ σ G1 H1 x' R1 (view_rep R1 r1 v1) Q fun v G3 H3 n3 R3 r3 => q v as1 G3 H3 (n1.trans n3) R3 r3
      · cases h
    · cases h
  · cases h
theorem sn_cb1 {r : List V → Hp → VK → Prop} {f : D → Option D} {ta : TE} {a : RE} (hr : OpU K (fun x H Q => r [x] H Q) f) (ha : SnE K ta a) : SnE K (tCB r (tCons ta tNil)) (mUn f a) := fun ρ μ w μ' h => sn_un hr ha ρ μ w μ' h
theorem sn_cb2 {r : List V → Hp → VK → Prop} {f : D → D → Option D} {ta tb : TE} {a b : RE} (hr : OpV K (fun x y H Q => r [x, y] H Q) f) (ha : SnE K ta a) (hb : SnE K tb b) : SnE K (tCB r (tCons ta (tCons tb tNil))) (mOp f a b) := fun ρ μ w μ' h => sn_op hr ha hb ρ μ w μ' h

/-! ### tests -/
def isBl : W → Option Bool
  | .val (.bl b) => some b
  | _ => none
theorem isBl_eq {w : W} {b : Bool} (h : isBl w = some b) : w = .val (.bl b) := by
  unfold isBl at h
  split at h
  · cases h; rfl
  · cases h
def mTest (a : RE) : RB := fun ρ μ => match a ρ μ with
  | some (w, μ1) => match isBl w with
    | some b => some (b, μ1)
    | none => none
  | none => none
theorem mTest_ev {ta : TE} {a : RE} (ha : SnE K ta a) {ρ : Env'} {μ μ' : Mu} {b : Bool} (h : mTest a ρ μ = some (b, μ')) : Ev K ta ρ μ (.val (.bl b)) μ' := by
  unfold mTest at h
  split at h
  · rename_i w μ1 e1
    split at h
    · rename_i c e2
      cases h
      have := ha _ _ _ _ e1
      rwa [isBl_eq e2] at this
    · cases h
  · cases h
theorem sn_test {ta : TE} {a : RE} (ha : SnE K ta a) : SnB K (tTest ta) (mTest a) := fun ρ μ b μ' h => eb_test (mTest_ev ha h)
theorem sn_B {ta : TE} {a : RE} (ha : SnE K ta a) : SnB K (tB ta) (mTest a) := fun ρ μ b μ' h => eb_B (mTest_ev ha h)
def mNot (a : RB) : RB := fun ρ μ => match a ρ μ with
  | some (b, μ1) => some (!b, μ1)
  | none => none
theorem sn_not {t : TT} {a : RB} (ha : SnB K t a) : SnB K (tNot t) (mNot a) := fun ρ μ b μ' h => by
  unfold mNot at h
  split at h
  · rename_i c μ1 e
    cases h
    exact eb_not (ha _ _ _ _ e)
  · cases h
def mAnd (a b : RB) : RB := fun ρ μ => match a ρ μ with
  | some (true, μ1) => b ρ μ1
  | some (false, μ1) => some (false, μ1)
  | none => none
theorem sn_and {t u : TT} {a b : RB} (ha : SnB K t a) (hb : SnB K u b) : SnB K (tAnd t u) (mAnd a b) := fun ρ μ k μ' h => by
  unfold mAnd at h
  split at h
  · rename_i μ1 e
    exact fun P as σ G H R Q q => ha _ _ _ _ e P as σ G H R _ fun as1 G1 H1 n1 R1 => iteT (hb _ _ _ _ h P as1 σ G1 H1 R1 _ fun as2 G2 H2 n2 R2 => q as2 G2 H2 (n1.trans n2) R2)
  · rename_i μ1 e
    cases h
    exact fun P as σ G H R Q q => ha _ _ _ _ e P as σ G H R _ fun as1 G1 H1 n1 R1 => iteF (q as1 G1 H1 n1 R1)
  · cases h
def mOr (a b : RB) : RB := fun ρ μ => match a ρ μ with
  | some (true, μ1) => some (true, μ1)
  | some (false, μ1) => b ρ μ1
  | none => none
theorem sn_or {t u : TT} {a b : RB} (ha : SnB K t a) (hb : SnB K u b) : SnB K (tOr t u) (mOr a b) := fun ρ μ k μ' h => by
  unfold mOr at h
  split at h
  · rename_i μ1 e
    cases h
    exact fun P as σ G H R Q q => ha _ _ _ _ e P as σ G H R _ fun as1 G1 H1 n1 R1 => iteT (q as1 G1 H1 n1 R1)
  · rename_i μ1 e
    exact fun P as σ G H R Q q => ha _ _ _ _ e P as σ G H R _ fun as1 G1 H1 n1 R1 => iteF (hb _ _ _ _ h P as1 σ G1 H1 R1 _ fun as2 G2 H2 n2 R2 => q as2 G2 H2 (n1.trans n2) R2)
  · cases h
def mYes : RB := fun _ μ => some (true, μ)
theorem sn_yes : SnB K tYes mYes := fun ρ μ b μ' h => by cases h; exact eb_yes
def mAndV (a b : RE) : RE := fun ρ μ => match mTest a ρ μ with
  | some (true, μ1) => b ρ μ1
  | some (false, μ1) => some (.val (.bl false), μ1)
  | none => none
theorem sn_andV {ta tb : TE} {a b : RE} (ha : SnE K ta a) (hb : SnE K tb b) : SnE K (tAndV ta tb) (mAndV a b) := fun ρ μ w μ' h => by
  unfold mAndV at h
  split at h
  · rename_i μ1 e
    exact fun P as σ G H R Q q => mTest_ev ha e P as σ G H R _ fun v as1 G1 H1 n1 R1 r1 => ⟨true, r1, iteT (hb _ _ _ _ h P as1 σ G1 H1 R1 _ fun v as2 G2 H2 n2 R2 r2 => q v as2 G2 H2 (n1.trans n2) R2 r2)⟩
  · rename_i μ1 e
    cases h
    exact fun P as σ G H R Q q => mTest_ev ha e P as σ G H R _ fun v as1 G1 H1 n1 R1 r1 => ⟨false, r1, iteF (q _ as1 G1 H1 n1 R1 rfl)⟩
  · cases h
def mOrV (a b : RE) : RE := fun ρ μ => match mTest a ρ μ with
  | some (true, μ1) => some (.val (.bl true), μ1)
  | some (false, μ1) => b ρ μ1
  | none => none
theorem sn_orV {ta tb : TE} {a b : RE} (ha : SnE K ta a) (hb : SnE K tb b) : SnE K (tOrV ta tb) (mOrV a b) := fun ρ μ w μ' h => by
  unfold mOrV at h
  split at h
  · rename_i μ1 e
    cases h
    exact fun P as σ G H R Q q => mTest_ev ha e P as σ G H R _ fun v as1 G1 H1 n1 R1 r1 => ⟨true, r1, iteT (q _ as1 G1 H1 n1 R1 rfl)⟩
  · rename_i μ1 e
    exact fun P as σ G H R Q q => mTest_ev ha e P as σ G H R _ fun v as1 G1 H1 n1 R1 r1 => ⟨false, r1, iteF (hb _ _ _ _ h P as1 σ G1 H1 R1 _ fun v as2 G2 H2 n2 R2 r2 => q v as2 G2 H2 (n1.trans n2) R2 r2)⟩
  · cases h
def mNotV (a : RE) : RE := fun ρ μ => match mTest a ρ μ with
  | some (b, μ1) => some (.val (.bl (!b)), μ1)
  | none => none
theorem sn_notV {ta : TE} {a : RE} (ha : SnE K ta a) : SnE K (tNotV ta) (mNotV a) := fun ρ μ w μ' h => by
  unfold mNotV at h
  split at h
  · rename_i b μ1 e
    cases h
    exact ev_not (mTest_ev ha e)
  · cases h
def mIf (t : RB) (a b : RE) : RE := fun ρ μ => match t ρ μ with
  | some (true, μ1) => a ρ μ1
  | some (false, μ1) => b ρ μ1
  | none => none
theorem sn_if {t : TT} {ta tb : TE} {m : RB} {a b : RE} (ht : SnB K t m) (ha : SnE K ta a) (hb : SnE K tb b) : SnE K (tIf t ta tb) (mIf m a b) := fun ρ μ w μ' h => by
  unfold mIf at h
  split at h
  · exact ev_if (ht _ _ _ _ ‹_›) (fun _ => ha _ _ _ _ h) fun z => by cases z
  · exact ev_if (ht _ _ _ _ ‹_›) (fun z => by cases z) fun _ => hb _ _ _ _ h
  · cases h

/-! ### arguments, freezing -/
def mNil : RA := fun _ μ => some ([], μ)
theorem sn_nil : SnA K tNil mNil := fun ρ μ ws μ' h => by cases h; exact ea_nil
def mCons (a : RE) (r : RA) : RA := fun ρ μ => match a ρ μ with
  | some (w, μ1) => match r ρ μ1 with
    | some (ws, μ2) => some (w :: ws, μ2)
    | none => none
  | none => none
theorem sn_cons {ta : TE} {tr : TA} {a : RE} {r : RA} (ha : SnE K ta a) (hr : SnA K tr r) : SnA K (tCons ta tr) (mCons a r) := fun ρ μ ws μ' h => by
  unfold mCons at h
  split at h
  · rename_i w μ1 e1
    split at h
    · rename_i ws μ2 e2
      cases h
      exact ea_cons (ha _ _ _ _ e1) (hr _ _ _ _ e2)
    · cases h
  · cases h
def frz1 (μ : Mu) : W → Option (D × Mu)
  | .val d => some (d, μ)
  | .loc j => match μ[j]? with
    | some (.lst xs) => some (.lst xs, μ.set j (.frz xs))
    | some (.frz xs) => some (.lst xs, μ)
    | _ => none
theorem frz1_ok {G H : Hp} {as : List Addr} {P : Addr → Prop} {ρ : Env'} {μ μ' : Mu} {σ : L2.St} {w : W} {v : V} {d : D} (R : Rl K G H as P ρ μ σ) (r : RepW K G as w v) (h : frz1 μ w = some (d, μ')) : ∃ G', Nx P as G H as G' H ∧ Rl K G' H as P ρ μ' σ ∧ Rep K G' d v := by
  cases w with
  | val e => cases h; exact ⟨G, .refl, R, r⟩
  | loc j =>
    obtain ⟨a, ha, ev⟩ := r
    unfold frz1 at h
    dsimp only at h
    split at h
    · cases h
      obtain ⟨b, vs, hb, R', n', r'⟩ := R.freeze ‹_›
      rw [ha] at hb
      cases hb
      exact ⟨_, n', R', ev ▸ r'⟩
    · cases h
      obtain ⟨z, vs, e, q⟩ := R.mu j a _ ha ‹_›
      exact ⟨G, .refl, R, z, a, vs, ev, e, q⟩
    · cases h
def frzL (μ : Mu) : List W → Option (List D × Mu)
  | [] => some ([], μ)
  | w :: ws => match frz1 μ w with
    | some (d, μ1) => match frzL μ1 ws with
      | some (ds, μ2) => some (d :: ds, μ2)
      | none => none
    | none => none
theorem frzL_ok {H : Hp} {as : List Addr} {P : Addr → Prop} {ρ : Env'} {σ : L2.St} : ∀ {ws : List W} {vs : List V} {ds : List D} {G : Hp} {μ μ' : Mu}, Rl K G H as P ρ μ σ → RepWs K G as ws vs → frzL μ ws = some (ds, μ') → ∃ G', Nx P as G H as G' H ∧ Rl K G' H as P ρ μ' σ ∧ RepL K G' ds vs
  | [], vs, ds, G, μ, μ', R, r, h => by cases h; exact ⟨G, .refl, R, r⟩
  | w :: ws, vs, ds, G, μ, μ', R, ⟨v, t, ev, r1, r2⟩, h => by
    unfold frzL at h
    split at h
    · rename_i d μ1 e1
      split at h
      · rename_i ds' μ2 e2
        cases h
        obtain ⟨G1, n1, R1, q1⟩ := frz1_ok R r1 e1
        obtain ⟨G2, n2, R2, q2⟩ := frzL_ok R1 (RepWs.mono n1.gr n1.pre r2) e2
        exact ⟨G2, n1.trans n2, R2, ev ▸ RepL.cons (Rep.mono n2.gr _ _ q1) q2⟩
      · cases h
    · cases h
theorem ev_frz1 {te : TE} {ρ : Env'} {μ μ1 μ2 : Mu} {w : W} {d : D} (h : Ev K te ρ μ w μ1) (hf : frz1 μ1 w = some (d, μ2)) : Ev K te ρ μ (.val d) μ2 := fun P as σ G H R Q q =>
  h P as σ G H R _ fun v as1 G1 H1 n1 R1 r1 => by
    obtain ⟨G2, n2, R2, q2⟩ := frz1_ok R1 r1 hf
    exact q v as1 G2 H1 (n1.trans n2) R2 q2
theorem ea_frz {ta : TA} {ρ : Env'} {μ μ1 μ2 : Mu} {ws : List W} {ds : List D} (h : EvA K ta ρ μ ws μ1) (hf : frzL μ1 ws = some (ds, μ2)) : EvD K ta ρ μ ds μ2 := fun P as σ G H R Q q =>
  h P as σ G H R _ fun vs as1 G1 H1 n1 R1 r1 => by
    obtain ⟨G2, n2, R2, q2⟩ := frzL_ok R1 r1 hf
    exact q vs as1 G2 H1 (n1.trans n2) R2 (RepWs.vals.mpr q2)
/-- arguments as data -/
def dat (a : RA) (ρ : Env') (μ : Mu) : Option (List D × Mu) := match a ρ μ with
  | some (ws, μ1) => frzL μ1 ws
  | none => none
theorem dat_ok {ta : TA} {a : RA} (ha : SnA K ta a) {ρ : Env'} {μ μ' : Mu} {ds : List D} (h : dat a ρ μ = some (ds, μ')) : EvD K ta ρ μ ds μ' := by
  unfold dat at h
  split at h
  · exact ea_frz (ha _ _ _ _ ‹_›) h
  · cases h
/-- one value as data -/
def dat1 (a : RE) (ρ : Env') (μ : Mu) : Option (D × Mu) := match a ρ μ with
  | some (w, μ1) => frz1 μ1 w
  | none => none
theorem dat1_ok {ta : TE} {a : RE} (ha : SnE K ta a) {ρ : Env'} {μ μ' : Mu} {d : D} (h : dat1 a ρ μ = some (d, μ')) : Ev K ta ρ μ (.val d) μ' := by
  unfold dat1 at h
  split at h
  · exact ev_frz1 (ha _ _ _ _ ‹_›) h
  · cases h
def mTup (a : RA) : RE := fun ρ μ => match dat a ρ μ with
  | some (ds, μ1) => if ds.length ≤ LB then some (.val (.tup ds), μ1) else none
  | none => none
theorem sn_tup {ta : TA} {a : RA} (ha : SnA K ta a) : SnE K (tTup ta) (mTup a) := fun ρ μ w μ' h => by
  unfold mTup at h
  split at h
  · split at h
    · cases h; exact ev_tup (dat_ok ha ‹_›) ‹_›
    · cases h
  · cases h
def mLst (a : RA) : RE := fun ρ μ => match dat a ρ μ with
  | some (ds, μ1) => if ds.length ≤ LB then some (.val (.lst ds), μ1) else none
  | none => none
theorem sn_lst {ta : TA} {a : RA} (ha : SnA K ta a) : SnE K (tLst ta) (mLst a) := fun ρ μ w μ' h => by
  unfold mLst at h
  split at h
  · split at h
    · cases h; exact ev_lst (dat_ok ha ‹_›) ‹_›
    · cases h
  · cases h
/-- a list that is changed -/
def mLstM (a : RA) : RE := fun ρ μ => match dat a ρ μ with
  | some (ds, μ1) => if ds.length ≤ LB then some (.loc μ1.length, μ1 ++ [.lst ds]) else none
  | none => none
theorem sn_lstM {ta : TA} {a : RA} (ha : SnA K ta a) : SnE K (tLstM ta) (mLstM a) := fun ρ μ w μ' h => by
  unfold mLstM at h
  split at h
  · split at h
    · cases h; exact ev_lstM (dat_ok ha ‹_›) ‹_›
    · cases h
  · cases h
/-- a list of things of the store -/
def mLsW (a : RA) : RE := fun ρ μ => match a ρ μ with
  | some (ws, μ1) => if ws.length ≤ LB then if ws.all (fun w => w.below μ1.length) = true then some (.loc μ1.length, μ1 ++ [.lsW ws]) else none else none
  | none => none
theorem sn_lsW {ta : TA} {a : RA} (ha : SnA K ta a) : SnE K (tLst ta) (mLsW a) := fun ρ μ w μ' h => by
  unfold mLsW at h
  split at h
  · split at h
    · split at h
      · cases h; exact ev_lsW (ha _ _ _ _ ‹_›) ‹_› (List.all_eq_true.mp ‹_›)
      · cases h
    · cases h
  · cases h
def seqOf (μ : Mu) (w : W) : Option (List D) := match view μ w with
  | some (.lst xs) => some xs
  | some (.tup xs) => some xs
  | _ => none
theorem seqOf_W {μ : Mu} {w : W} {xs : List D} (h : seqOf μ w = some xs) : SeqW μ w xs := by
  unfold seqOf at h
  split at h
  · cases h
    rename_i e
    cases w with
    | val d => cases e; exact .lst
    | loc j =>
      unfold view at e
      dsimp only at e
      split at e
      · cases e; exact .loc ‹_›
      · cases e; exact .frz ‹_›
      · cases e
  · cases h
    rename_i e
    cases w with
    | val d => cases e; exact .tup
    | loc j =>
      unfold view at e
      dsimp only at e
      split at e <;> cases e
  · cases h
def mStar (a : RE) (r : RA) : RA := fun ρ μ => match a ρ μ with
  | some (w, μ1) => match seqOf μ1 w with
    | some xs => match r ρ μ1 with
      | some (ws, μ2) => some (xs.map W.val ++ ws, μ2)
      | none => none
    | none => none
  | none => none
end
end DX

/-! DXB: operations that are run. -/
namespace DX
open PySem PySem.Spec PyProof.Rows L2 DK

section
variable {K : PySem.W.Frag}
theorem repT_int {G H : Hp} {i : Int} {v : V} (h : RepT K G H (.int i) v) : v = .int i := h
theorem repT_bl {G H : Hp} {i : Bool} {v : V} (h : RepT K G H (.bl i) v) : v = .bl i := h
/-- a result that keeps the heap -/
theorem keepQ {P : Addr → Prop} {as : List Addr} {ρ : Env'} {μ : Mu} {σ : L2.St} {G H : Hp} {d : D} {v : V} {Q : VK} (R : Rl K G H as P ρ μ σ) (r : Rep K G d v) (q : ∀ v G' H', Nx P as G H as G' H' → Rl K G' H' as P ρ μ σ → Rep K G' d v → Q v H') : Q v H := q v G H .refl R r

/-! ### + -/
def plusF : D → D → Option D
  | .int i, .int j => some (.int (i + j))
  | .str a, .str b => if (a ++ b).length ≤ SB then some (.str (a ++ b)) else none
  | .lst a, .lst b => if a.length + b.length ≤ LB then some (.lst (a ++ b)) else none
  | .tup a, .tup b => if a.length + b.length ≤ LB then some (.tup (a ++ b)) else none
  | _, _ => none
theorem ov_plus : OpV K (rPlus K) plusF := fun a b d h P as ρ μ σ G H x y R rx ry Q q => by
  unfold plusF at h
  split at h
  · cases h; exact o_addI P as ρ μ σ G H x y R rx ry Q q
  · split at h
    · cases h; exact o_addS ‹_› P as ρ μ σ G H x y R rx ry Q q
    · cases h
  · split at h
    · cases h
      rename_i hz
      obtain ⟨_, a, vs, ex, ga, ra⟩ := rx
      obtain ⟨_, b, us, ey, gb, rb⟩ := ry
      refine .inr (.inr (.inl ⟨a, b, vs, us, ex, ey, ga, gb, ?_, fun p hp => ?_⟩))
      · rw [ra.length, rb.length]
        exact Nat.le_trans hz (by decide)
      · obtain ⟨R2, n2⟩ := R.imm hp (.lst (vs ++ us))
        exact q _ _ _ n2 R2 ⟨by rw [List.length_append]; exact hz, p, _, rfl, upd_same, RepL.mono n2.gr _ _ (ra.append rb)⟩
    · cases h
  · split at h
    · cases h; exact o_addT ‹_› P as ρ μ σ G H x y R rx ry Q q
    · cases h
  · cases h
/-- a sum of lists that is changed later -/
def mAddM (a b : RE) : RE := fun ρ μ => match a ρ μ with
  | some (x, μ1) => match b ρ μ1 with
    | some (y, μ2) => match view μ2 x, view μ2 y with
      | some (.lst d), some (.lst e) => if d.length + e.length ≤ LB then some (.loc μ2.length, μ2 ++ [.lst (d ++ e)]) else none
      | _, _ => none
    | none => none
  | none => none
theorem sn_addM {ta tb : TE} {a b : RE} (ha : SnE K ta a) (hb : SnE K tb b) : SnE K (tOp (rPlus K) ta tb) (mAddM a b) := fun ρ μ w μ' h => by
  unfold mAddM at h
  split at h
  · rename_i x μ1 e1
    split at h
    · rename_i y μ2 e2
      split at h
      · rename_i d e v1 v2
        split at h
        · cases h
          rename_i hz
          exact fun P as σ G H R Q q => ha _ _ _ _ e1 P as σ G H R _ fun x' as1 G1 H1 n1 R1 r1 => hb _ _ _ _ e2 P as1 σ G1 H1 R1 _ fun y' as2 G2 H2 n2 R2 r2 => by
            obtain ⟨_, a, vs, ex, ga, ra⟩ := view_rep R2 (r1.mono n2.gr n2.pre) v1
            obtain ⟨_, b, us, ey, gb, rb⟩ := view_rep R2 r2 v2
            refine .inr (.inr (.inl ⟨a, b, vs, us, ex, ey, ga, gb, ?_, fun p hp => ?_⟩))
            · rw [ra.length, rb.length]
              exact Nat.le_trans hz (by decide)
            · obtain ⟨R3, n3⟩ := R2.mut (m := .lst (d ++ e)) (o := .lst (vs ++ us)) hp ⟨R2.sub.free hp, by rw [List.length_append]; exact hz, _, upd_same, ra.append rb⟩ rfl
              refine q _ _ _ _ ((n1.trans n2).trans n3) R3 ⟨p, ?_, rfl⟩
              rw [← R2.len, List.getElem?_append_right (Nat.le_refl _)]
              simp
        · cases h
      · cases h
    · cases h
  · cases h
/-! ### - * // % ** -/
def minusF : D → D → Option D
  | .int i, .int j => some (.int (i - j))
  | _, _ => none
theorem ov_minus : OpV K rMinus minusF := fun a b d h P as ρ μ σ G H x y R rx ry Q q => by
  unfold minusF at h
  split at h
  · cases h; exact o_sub P as ρ μ σ G H x y R rx ry Q q
  · cases h
def repD (n : Nat) (xs : List D) : List D := (List.replicate n xs).flatten
theorem repL_rep {G : Hp} {xs : List D} {vs : List V} (r : RepL K G xs vs) : ∀ n : Nat, RepL K G (repD n xs) (List.replicate n vs).flatten
  | 0 => rfl
  | n + 1 => by
    unfold repD
    rw [List.replicate_succ, List.replicate_succ, List.flatten_cons, List.flatten_cons]
    exact r.append (repL_rep r n)
def timesF : D → D → Option D
  | .int i, .int j => if (-(2 ^ 64) < i ∧ i < 2 ^ 64) ∨ (-(2 ^ 64) < j ∧ j < 2 ^ 64) then some (.int (i * j)) else none
  | .tup xs, .int k => if xs ≠ [] ∧ 2 ≤ k ∧ k ≤ 1000 ∧ xs.length ≤ 100 then some (.tup (repD k.toNat xs)) else none
  | .lst xs, .int k => if 0 ≤ k ∧ k ≤ 1000 ∧ xs.length ≤ 100 then some (.lst (repD k.toNat xs)) else none
  | _, _ => none
theorem repD_len {xs : List D} : ∀ n : Nat, (repD n xs).length = n * xs.length
  | 0 => by simp [repD]
  | n + 1 => by
    unfold repD
    rw [List.replicate_succ, List.flatten_cons, List.length_append]
    have := repD_len (xs := xs) n
    unfold repD at this
    rw [this, Nat.succ_mul, Nat.add_comm]
theorem rep_le {n m : Nat} (h : n ≤ 1000) (k : m ≤ 100) : n * m ≤ LB := Nat.le_trans (Nat.mul_le_mul h k) (by decide)
theorem ov_times : OpV K (rTimes K) timesF := fun a b d h P as ρ μ σ G H x y R rx ry Q q => by
  unfold timesF at h
  split at h
  · split at h
    · cases h; exact o_mul ‹_› P as ρ μ σ G H x y R rx ry Q q
    · cases h
  · split at h
    · cases h
      rename_i xs k hc
      obtain ⟨c1, c2, c3, c4⟩ := hc
      obtain ⟨_, a, vs, ex, ga, ra⟩ := rx
      have hl : (repD k.toNat xs).length ≤ LB := by rw [repD_len]; exact rep_le (by omega) c4
      refine .inr (.inr ⟨a, k, vs, ex, ry, same_sqt R.sub ga, fun e => c1 ?_, c2, c3, ?_, fun p hp => ?_⟩)
      · exact List.eq_nil_of_length_eq_zero (by rw [← ra.length, e]; rfl)
      · rw [ra.length]; omega
      · obtain ⟨R2, n2⟩ := R.imm hp (.tup (List.replicate k.toNat vs).flatten)
        exact q _ _ _ n2 R2 ⟨hl, p, _, rfl, SqT.of upd_same, RepL.mono n2.gr _ _ (repL_rep ra _)⟩
    · cases h
  · split at h
    · cases h
      rename_i xs k hc
      obtain ⟨c2, c3, c4⟩ := hc
      obtain ⟨_, a, vs, ex, ga, ra⟩ := rx
      have hl : (repD k.toNat xs).length ≤ LB := by rw [repD_len]; exact rep_le (by omega) c4
      refine .inr (.inl ⟨a, k, vs, ex, ry, ga, by omega, by omega, ?_, fun p hp => ?_⟩)
      · rw [ra.length, Nat.mul_comm]; exact Nat.le_trans (rep_le (by omega) c4) (by decide)
      · obtain ⟨R2, n2⟩ := R.imm hp (.lst (List.replicate k.toNat vs).flatten)
        exact q _ _ _ n2 R2 ⟨hl, p, _, rfl, upd_same, RepL.mono n2.gr _ _ (repL_rep ra _)⟩
    · cases h
  · cases h
def fdF : D → D → Option D
  | .int i, .int j => if 0 < j ∧ j < 1073741824 then some (.int (i / j)) else none
  | _, _ => none
theorem ov_fd : OpV K rFd fdF := fun a b d h P as ρ μ σ G H x y R rx ry Q q => by
  unfold fdF at h
  split at h
  · split at h
    · cases h; exact o_fd ‹_› P as ρ μ σ G H x y R rx ry Q q
    · cases h
  · cases h
def mdF : D → D → Option D
  | .int i, .int j => if 0 < j then some (.int (i % j)) else none
  | _, _ => none
theorem ov_md : OpV K rMd mdF := fun a b d h P as ρ μ σ G H x y R rx ry Q q => by
  unfold mdF at h
  split at h
  · split at h
    · cases h; exact o_md ‹_› P as ρ μ σ G H x y R rx ry Q q
    · cases h
  · cases h
def pwF : D → D → Option D
  | .int i, .int j => if 0 ≤ j ∧ j ≤ 1000 ∧ i.natAbs < 2 ^ 64 then some (.int (i ^ j.toNat)) else none
  | _, _ => none
theorem ov_pw : OpV K rPw pwF := fun a b d h P as ρ μ σ G H x y R rx ry Q q => by
  unfold pwF at h
  split at h
  · split at h
    · cases h
      rename_i hc
      exact o_pw ⟨hc.1, by omega, hc.2.2⟩ P as ρ μ σ G H x y R rx ry Q q
    · cases h
  · cases h
def ltF : D → D → Option D
  | .int i, .int j => some (.bl (decide (i < j)))
  | _, _ => none
theorem ov_lt : OpV K rLt' ltF := fun a b d h P as ρ μ σ G H x y R rx ry Q q => by
  unfold ltF at h
  split at h
  · cases h; exact o_lt P as ρ μ σ G H x y R rx ry Q q
  · cases h
def leF : D → D → Option D
  | .int i, .int j => some (.bl (decide (i ≤ j)))
  | _, _ => none
theorem ov_le : OpV K rLe' leF := fun a b d h P as ρ μ σ G H x y R rx ry Q q => by
  unfold leF at h
  split at h
  · cases h; exact o_le P as ρ μ σ G H x y R rx ry Q q
  · cases h
def gtF : D → D → Option D
  | .int i, .int j => some (.bl (decide (j < i)))
  | _, _ => none
theorem ov_gt : OpV K rGt' gtF := fun a b d h P as ρ μ σ G H x y R rx ry Q q => by
  unfold gtF at h
  split at h
  · cases h; exact o_gt P as ρ μ σ G H x y R rx ry Q q
  · cases h
def geF : D → D → Option D
  | .int i, .int j => some (.bl (decide (j ≤ i)))
  | _, _ => none
theorem ov_ge : OpV K rGe' geF := fun a b d h P as ρ μ σ G H x y R rx ry Q q => by
  unfold geF at h
  split at h
  · cases h; exact o_ge P as ρ μ σ G H x y R rx ry Q q
  · cases h
def negF : D → Option D
  | .int i => some (.int (-i))
  | _ => none
theorem ou_neg : OpU K (rU fun i => .int (-i)) negF := fun a d h P as ρ μ σ G H x R rx Q q => by
  unfold negF at h
  split at h
  · cases h; exact ⟨_, rx, q _ G H .refl R rfl⟩
  · cases h
/-! ### is None -/
def mIsN (neg : Bool) (a : RE) : RE := fun ρ μ => match a ρ μ with
  | some (.val d, μ1) => some (.val (.bl (neg ^^ isNon d)), μ1)
  | some (.loc _, μ1) => some (.val (.bl neg), μ1)
  | none => none
theorem sn_isN {ta : TE} {a : RE} (ha : SnE K ta a) : SnE K (tOp rIsN ta (tC .non)) (mIsN false a) := fun ρ μ w μ' h => by
  unfold mIsN at h
  split at h
  · cases h
    rw [Bool.false_xor]
    exact ev_isNd (ha _ _ _ _ ‹_›)
  · cases h; exact ev_isNl (ha _ _ _ _ ‹_›)
  · cases h
theorem sn_notN {ta : TE} {a : RE} (ha : SnE K ta a) : SnE K (tOp rNotN ta (tC .non)) (mIsN true a) := fun ρ μ w μ' h => by
  unfold mIsN at h
  split at h
  · cases h
    rw [Bool.true_xor]
    exact ev_notNd (ha _ _ _ _ ‹_›)
  · cases h; exact ev_notNl (ha _ _ _ _ ‹_›)
  · cases h
/-! ### == -/
theorem dp_ofT {G H : Hp} (s : Same G H) {d : D} {v : V} (k : pyOk d = true) (r : RepT K G H d v) : Dp K H v (toPy d) := by
  cases d with
  | lst xs =>
    obtain ⟨_, a, vs, e, g, r⟩ := r
    rw [e]
    exact .lst (SqL.of g) (dp_ofL s xs vs k r)
  | _ => exact dp_of s _ v k r
theorem lay_ofT {G H : Hp} {d : D} {v : V} (r : RepT K G H d v) : (toPy d).canLay0 = true := by
  cases d with
  | lst xs =>
    obtain ⟨_, a, vs, e, g, r⟩ := r
    exact lay_ofL xs vs r
  | _ => exact lay_of (K := K) (G := G) _ v r
def eqF (neg : Bool) : D → D → Option D
  | .int i, .int j => some (.bl (neg ^^ decide (i = j)))
  | .str i, .str j => some (.bl (neg ^^ decide (i = j)))
  | .bl i, .bl j => some (.bl (neg ^^ decide (i = j)))
  | a, b => if pyOk a = true ∧ pyOk b = true ∧ (toPy a).depth ≤ 64 ∧ (toPy b).depth ≤ 64 then some (.bl (neg ^^ eqP a b)) else none
theorem ov_eq : OpV K (rEqq K) (eqF false) := fun a b d h P as ρ μ σ G H x y R rx ry Q q => by
  unfold eqF at h
  simp only [Bool.false_xor] at h
  split at h
  · cases h; exact o_eqI P as ρ μ σ G H x y R rx ry Q q
  · cases h; exact o_eqS P as ρ μ σ G H x y R rx ry Q q
  · cases h; exact o_eqB P as ρ μ σ G H x y R rx ry Q q
  · split at h
    · cases h
      rename_i hc
      obtain ⟨c1, c2, c3, c4⟩ := hc
      exact .inr ⟨_, _, dp_ofT R.sub c1 rx, dp_ofT R.sub c2 ry, Bool.and_eq_true_iff.mpr ⟨lay_ofT rx, decide_eq_true c3⟩, Bool.and_eq_true_iff.mpr ⟨lay_ofT ry, decide_eq_true c4⟩, q _ G H .refl R rfl⟩
    · cases h
theorem ov_ne : OpV K (rNee K) (eqF true) := fun a b d h P as ρ μ σ G H x y R rx ry Q q => by
  unfold eqF at h
  simp only [Bool.true_xor] at h
  split at h
  · cases h; exact o_neI P as ρ μ σ G H x y R rx ry Q q
  · cases h; exact o_neS P as ρ μ σ G H x y R rx ry Q q
  · cases h; exact o_neB P as ρ μ σ G H x y R rx ry Q q
  · split at h
    · cases h
      rename_i hc
      obtain ⟨c1, c2, c3, c4⟩ := hc
      exact .inr ⟨_, _, dp_ofT R.sub c1 rx, dp_ofT R.sub c2 ry, Bool.and_eq_true_iff.mpr ⟨lay_ofT rx, decide_eq_true c3⟩, Bool.and_eq_true_iff.mpr ⟨lay_ofT ry, decide_eq_true c4⟩, q _ G H .refl R rfl⟩
    · cases h
end
end DX

/-! DXC: more operations that are run. -/
namespace DX
open PySem PySem.Spec PyProof.Rows L2 DK

section
variable {K : PySem.W.Frag}
/-! ### flat data, in -/
def dV : D → V
  | .non => .non
  | .bl b => .bl b
  | .int i => .int i
  | .str s => .str s
  | _ => .non
def flatD : D → Bool
  | .non => true
  | .bl _ => true
  | .int _ => true
  | .str _ => true
  | _ => false
theorem dV_flat {d : D} (h : flatD d = true) : flatV (dV d) = true := by cases d <;> first | rfl | cases h
theorem dV_rep {G : Hp} {d : D} {v : V} (h : flatD d = true) (r : Rep K G d v) : v = dV d := by
  cases d <;> first | exact r | exact r.1 | cases h
theorem dV_repT {G H : Hp} {d : D} {v : V} (h : flatD d = true) (r : RepT K G H d v) : v = dV d := by
  cases d <;> first | exact r | exact r.1 | cases h
theorem dV_repL {G : Hp} : ∀ {ds : List D} {vs : List V}, ds.all flatD = true → RepL K G ds vs → vs = ds.map dV ∧ (ds.map dV).all flatV = true
  | [], _, _, r => ⟨r, rfl⟩
  | d :: ds, _, h, ⟨v, t, e, r1, r2⟩ => by
    rw [List.all_cons, Bool.and_eq_true] at h
    obtain ⟨e1, e2⟩ := dV_repL h.2 r2
    rw [e, dV_rep h.1 r1, e1]
    exact ⟨rfl, by rw [List.map_cons, List.all_cons, dV_flat h.1, e2]; rfl⟩
theorem repT_lst {G H : Hp} {xs : List D} {v : V} (r : RepT K G H (.lst xs) v) : ∃ a vs, v = .ref a ∧ H a = some (.lst vs) ∧ RepL K G xs vs ∧ xs.length ≤ LB := by
  obtain ⟨z, a, vs, e, g, r⟩ := r
  exact ⟨a, vs, e, g, r, z⟩
theorem repT_tup {G H : Hp} (s : Same G H) {xs : List D} {v : V} (r : RepT K G H (.tup xs) v) : ∃ a vs, v = .ref a ∧ SqT K H a vs ∧ RepL K G xs vs ∧ xs.length ≤ LB := by
  obtain ⟨z, a, vs, e, g, r⟩ := r
  exact ⟨a, vs, e, same_sqt s g, r, z⟩
/-- in, not in -/
def inF (neg : Bool) : D → D → Option D
  | x, .tup xs => if flatD x = true ∧ xs.all flatD = true then some (.bl (neg ^^ inV (dV x) (xs.map dV))) else none
  | x, .lst xs => if flatD x = true ∧ xs.all flatD = true then some (.bl (neg ^^ inV (dV x) (xs.map dV))) else none
  | .str a, .str b => match a.cps.toList with
    | [c] => some (.bl (neg ^^ decide (c ∈ b.cps.toList)))
    | _ => none
  | _, _ => none
theorem one_sign {a : Str} {c : Nat} (h : a.cps.toList = [c]) : a = ⟨#[c]⟩ := by
  cases a with
  | mk cps =>
    have : cps = #[c] := by
      apply Array.toList_inj.mp
      exact h
    rw [this]
theorem ov_in : OpV K (rInn K) (inF false) := fun a b d h P as ρ μ σ G H x y R rx ry Q q => by
  unfold inF at h
  simp only [Bool.false_xor] at h
  split at h
  · split at h
    · cases h
      rename_i hc
      obtain ⟨a, vs, e, g, r, _⟩ := repT_tup R.sub ry
      obtain ⟨e1, e2⟩ := dV_repL hc.2 r
      subst e1
      rw [dV_repT hc.1 rx]
      exact .inr ⟨a, _, e, .inr g, dV_flat hc.1, e2, by rw [if_neg Bool.false_ne_true]; exact q _ G H .refl R rfl⟩
    · cases h
  · split at h
    · cases h
      rename_i hc
      obtain ⟨a, vs, e, g, r, _⟩ := repT_lst ry
      obtain ⟨e1, e2⟩ := dV_repL hc.2 r
      subst e1
      rw [dV_repT hc.1 rx]
      exact .inr ⟨a, _, e, .inl (SqL.of g), dV_flat hc.1, e2, by rw [if_neg Bool.false_ne_true]; exact q _ G H .refl R rfl⟩
    · cases h
  · split at h
    · cases h
      rename_i c hc
      rw [one_sign hc] at rx
      exact o_inC P as ρ μ σ G H x y R rx ry Q q
    · cases h
  · cases h
theorem ov_nin : OpV K (rNin K) (inF true) := fun a b d h P as ρ μ σ G H x y R rx ry Q q => by
  unfold inF at h
  simp only [Bool.true_xor] at h
  split at h
  · split at h
    · cases h
      rename_i hc
      obtain ⟨a, vs, e, g, r, _⟩ := repT_tup R.sub ry
      obtain ⟨e1, e2⟩ := dV_repL hc.2 r
      subst e1
      rw [dV_repT hc.1 rx]
      exact .inr ⟨a, _, e, .inr g, dV_flat hc.1, e2, by rw [if_pos rfl]; exact q _ G H .refl R rfl⟩
    · cases h
  · split at h
    · cases h
      rename_i hc
      obtain ⟨a, vs, e, g, r, _⟩ := repT_lst ry
      obtain ⟨e1, e2⟩ := dV_repL hc.2 r
      subst e1
      rw [dV_repT hc.1 rx]
      exact .inr ⟨a, _, e, .inl (SqL.of g), dV_flat hc.1, e2, by rw [if_pos rfl]; exact q _ G H .refl R rfl⟩
    · cases h
  · split at h
    · cases h
      rename_i c hc
      rw [one_sign hc] at rx
      exact o_ninC P as ρ μ σ G H x y R rx ry Q q
    · cases h
  · cases h
/-! ### xs[i] -/
def ixF : D → D → Option D
  | .lst xs, .int i => atI xs i
  | .tup xs, .int i => atI xs i
  | .str s, .int i => match atI s.cps.toList i with
    | some c => some (.str ⟨#[c]⟩)
    | none => none
  | _, _ => none
theorem ov_ix : OpV K (rIx K) ixF := fun a b d h P as ρ μ σ G H x y R rx ry Q q => by
  unfold ixF at h
  split at h
  · obtain ⟨a, vs, e, g, r, _⟩ := repT_lst rx
    obtain ⟨v, h1, h2⟩ := atI_rep r h
    exact .inl ⟨a, vs, _, v, e, ry, SqL.of g, h1, q _ G H .refl R h2⟩
  · exact o_ixT h P as ρ μ σ G H x y R rx ry Q q
  · split at h
    · cases h; exact o_ixS ‹_› P as ρ μ σ G H x y R rx ry Q q
    · cases h
  · cases h
/-- xs[i], xs perhaps a list of things of the store -/
def mIx (a b : RE) : RE := fun ρ μ => match a ρ μ with
  | some (x, μ1) => match b ρ μ1 with
    | some (y, μ2) => match (match x with | .loc j => μ2[j]? | _ => none), y with
      | some (.lsW ws), .val (.int n) => match atI ws n with
        | some w => some (w, μ2)
        | none => none
      | _, _ => match view μ2 x, view μ2 y with
        | some d, some e => match ixF d e with
          | some r => some (.val r, μ2)
          | none => none
        | _, _ => none
    | none => none
  | none => none
theorem sn_ix {ta tb : TE} {a b : RE} (ha : SnE K ta a) (hb : SnE K tb b) : SnE K (tOp (rIx K) ta tb) (mIx a b) := fun ρ μ w μ' h => by
  unfold mIx at h
  split at h
  · rename_i x μ1 e1
    split at h
    · rename_i y μ2 e2
      split at h
      · rename_i o1 o2 ws n hx
        split at h
        · cases h
          cases x with
          | val d => cases hx
          | loc j => exact ev_ixW (ha _ _ _ _ e1) (hb _ _ _ _ e2) hx ‹_›
        · cases h
      · have : mOp ixF a b ρ μ = some (w, μ') := by
          unfold mOp
          rw [e1]
          dsimp only
          rw [e2]
          exact h
        exact sn_op ov_ix ha hb ρ μ w μ' this
    · cases h
  · cases h
/-! ### len -/
def lenF : D → Option D
  | .str s => some (.int s.length)
  | .lst xs => some (.int xs.length)
  | .tup xs => some (.int xs.length)
  | _ => none
theorem ou_len : OpU K (fun x H Q => rLenA K [x] H Q) lenF := fun a d h P as ρ μ σ G H x R rx Q q => by
  unfold lenF at h
  split at h
  · cases h
    obtain ⟨ev, hs⟩ := rx
    subst ev
    exact ⟨_, _, rfl, ⟨Nat.le_trans hs.1 (by decide), rfl⟩, q _ G H .refl R rfl⟩
  · cases h
    obtain ⟨a, vs, e, g, r, _⟩ := repT_lst rx
    subst e
    exact ⟨_, _, rfl, .inl ⟨vs, SqL.of g, r.length.symm⟩, q _ G H .refl R rfl⟩
  · cases h
    obtain ⟨a, vs, e, g, r, _⟩ := repT_tup R.sub rx
    subst e
    exact ⟨_, _, rfl, .inr ⟨vs, g, r.length.symm⟩, q _ G H .refl R rfl⟩
  · cases h
/-! ### all, any -/
def bls : List D → Option (List Bool)
  | [] => some []
  | .bl b :: r => match bls r with
    | some bs => some (b :: bs)
    | none => none
  | _ => none
theorem bls_eq : ∀ {ds : List D} {bs : List Bool}, bls ds = some bs → ds = bs.map D.bl
  | [], bs, h => by cases h; rfl
  | .bl b :: r, bs, h => by
    unfold bls at h
    split at h
    · rename_i bs' e
      cases h
      have := bls_eq e
      rw [this]
      rfl
    · cases h
  | .non :: r, _, h => by cases h
  | .int _ :: r, _, h => by cases h
  | .str _ :: r, _, h => by cases h
  | .tup _ :: r, _, h => by cases h
  | .lst _ :: r, _, h => by cases h
  | .obj _ _ _ :: r, _, h => by cases h
  | .ty _ :: r, _, h => by cases h
  | .cls _ :: r, _, h => by cases h
  | .scr _ :: r, _, h => by cases h
theorem bls_map : ∀ bs : List Bool, bls (bs.map D.bl) = some bs
  | [] => rfl
  | b :: bs => by
    rw [List.map_cons, bls, bls_map]
def allF : D → Option D
  | .lst xs => match bls xs with
    | some bs => some (.bl (bs.all id))
    | none => none
  | _ => none
theorem ou_all : OpU K (fun x H Q => rAll K [x] H Q) allF := fun a d h P as ρ μ σ G H x R rx Q q => by
  unfold allF at h
  split at h
  · split at h
    · cases h
      rename_i hb
      obtain ⟨a, vs, e, g, r, _⟩ := repT_lst rx
      rw [bls_eq hb] at r
      have := r.bls
      subst this e
      exact ⟨a, _, rfl, SqL.of g, q _ G H .refl R rfl⟩
    · cases h
  · cases h
def anyF : D → Option D
  | .lst xs => match bls xs with
    | some bs => some (.bl (bs.any id))
    | none => none
  | _ => none
theorem ou_any : OpU K (fun x H Q => rAny K [x] H Q) anyF := fun a d h P as ρ μ σ G H x R rx Q q => by
  unfold anyF at h
  split at h
  · split at h
    · cases h
      rename_i hb
      obtain ⟨a, vs, e, g, r, _⟩ := repT_lst rx
      rw [bls_eq hb] at r
      have := r.bls
      subst this e
      exact ⟨a, _, rfl, SqL.of g, q _ G H .refl R rfl⟩
    · cases h
  · cases h
end
end DX

/-! DXD: conversions, slices, isinstance, texts, lists' methods. -/
namespace DX
open PySem PySem.Spec PyProof.Rows L2 DK

section
variable {K : PySem.W.Frag}
def tupF : D → Option D
  | .lst xs => some (.tup xs)
  | .tup xs => some (.tup xs)
  | _ => none
theorem ou_tup : OpU K (fun x H Q => rTupOf K [x] H Q) tupF := fun a d h P as ρ μ σ G H x R rx Q q => by
  unfold tupF at h
  split at h
  · cases h
    obtain ⟨a, vs, e, g, r, z⟩ := repT_lst rx
    subst e
    refine ⟨a, vs, rfl, .inl ⟨SqL.of g, fun l hl => ?_⟩⟩
    obtain ⟨R2, n2⟩ := R.imm hl (.tup vs)
    exact q _ _ _ n2 R2 ⟨z, l, vs, rfl, SqT.of upd_same, RepL.mono n2.gr _ _ r⟩
  · cases h
    obtain ⟨a, vs, e, g, r, z⟩ := repT_tup R.sub rx
    subst e
    exact ⟨a, vs, rfl, .inr ⟨g, q _ G H .refl R rx⟩⟩
  · cases h
def lstF : D → Option D
  | .lst xs => some (.lst xs)
  | .tup xs => some (.lst xs)
  | _ => none
theorem repT_seq {G H : Hp} (s : Same G H) {d e : D} {v : V} (h : lstF d = some e) (r : RepT K G H d v) : ∃ xs a vs, e = .lst xs ∧ v = .ref a ∧ (SqL K H a vs ∨ SqT K H a vs) ∧ RepL K G xs vs ∧ xs.length ≤ LB := by
  unfold lstF at h
  split at h
  · cases h
    obtain ⟨a, vs, e, g, r, z⟩ := repT_lst r
    exact ⟨_, a, vs, rfl, e, .inl (SqL.of g), r, z⟩
  · cases h
    obtain ⟨a, vs, e, g, r, z⟩ := repT_tup s r
    exact ⟨_, a, vs, rfl, e, .inr g, r, z⟩
  · cases h
theorem ou_lst : OpU K (fun x H Q => rLstOf K [x] H Q) lstF := fun a d h P as ρ μ σ G H x R rx Q q => by
  obtain ⟨xs, a, vs, e, ev, g, r, z⟩ := repT_seq R.sub h rx
  subst e ev
  refine ⟨a, vs, rfl, g, fun l hl => ?_⟩
  obtain ⟨R2, n2⟩ := R.imm hl (.lst vs)
  exact q _ _ _ n2 R2 ⟨z, l, vs, rfl, upd_same, RepL.mono n2.gr _ _ r⟩
/-- list(..) that is changed later -/
def mLstOfM (a : RE) : RE := fun ρ μ => match a ρ μ with
  | some (x, μ1) => match view μ1 x with
    | some d => match lstF d with
      | some (.lst xs) => some (.loc μ1.length, μ1 ++ [.lst xs])
      | _ => none
    | none => none
  | none => none
theorem sn_lstOfM {ta : TE} {a : RE} (ha : SnE K ta a) : SnE K (tCB (rLstOfM K) (tCons ta tNil)) (mLstOfM a) := fun ρ μ w μ' h => by
  unfold mLstOfM at h
  split at h
  · rename_i x μ1 e1
    split at h
    · rename_i d v1
      split at h
      · rename_i xs hx
        cases h
        exact fun P as σ G H R Q q => ha _ _ _ _ e1 P as σ G H R _ fun x' as1 G1 H1 n1 R1 r1 => by
          obtain ⟨ys, a, vs, e, ev, g, r, z⟩ := repT_seq R1.sub hx (view_rep R1 r1 v1)
          cases e
          subst ev
          refine ⟨a, vs, rfl, g, fun l hl => ?_⟩
          obtain ⟨R2, n2⟩ := R1.mut (m := .lst xs) (o := .lst vs) hl ⟨R1.sub.free hl, z, _, upd_same, r⟩ rfl
          refine q _ _ _ _ (n1.trans n2) R2 ⟨l, ?_, rfl⟩
          rw [← R1.len, List.getElem?_append_right (Nat.le_refl _)]
          simp
      · cases h
    · cases h
  · cases h
/-! ### texts in a list -/
def sOf : List D → Option (List Str)
  | [] => some []
  | .str b :: r => match sOf r with
    | some bs => some (b :: bs)
    | none => none
  | _ => none
theorem sOf_eq : ∀ {ds : List D} {bs : List Str}, sOf ds = some bs → ds = bs.map D.str
  | [], bs, h => by cases h; rfl
  | .str b :: r, bs, h => by
    unfold sOf at h
    split at h
    · rename_i bs' e
      cases h
      have := sOf_eq e
      rw [this]
      rfl
    · cases h
  | .non :: r, _, h => by cases h
  | .bl _ :: r, _, h => by cases h
  | .int _ :: r, _, h => by cases h
  | .tup _ :: r, _, h => by cases h
  | .lst _ :: r, _, h => by cases h
  | .obj _ _ _ :: r, _, h => by cases h
  | .ty _ :: r, _, h => by cases h
  | .cls _ :: r, _, h => by cases h
  | .scr _ :: r, _, h => by cases h
theorem sOf_map : ∀ bs : List Str, sOf (bs.map D.str) = some bs
  | [] => rfl
  | b :: bs => by rw [List.map_cons, sOf, sOf_map]
def sortF : D → Option D
  | .lst xs => match sOf xs with
    | some ss => if ss.length < 64 then some (.lst ((srt ss).map D.str)) else none
    | none => none
  | _ => none
theorem ou_sort : OpU K (fun x H Q => rSortedS K [x] H Q) sortF := fun a d h P as ρ μ σ G H x R rx Q q => by
  unfold sortF at h
  split at h
  · split at h
    · split at h
      · cases h
        rename_i ss hs hl
        obtain ⟨a, vs, e, g, r, _⟩ := repT_lst rx
        rw [sOf_eq hs] at r
        obtain ⟨eu, ok⟩ := r.strs
        subst eu e
        refine ⟨a, ss, rfl, SqL.of g, hl, fun ys p py sy hp => ?_⟩
        have ey := srt_eq sy py
        subst ey
        obtain ⟨R2, n2⟩ := R.imm hp (.lst ((srt ss).map V.str))
        exact q _ _ _ n2 R2 ⟨by rw [List.length_map, srt_len]; exact Nat.le_trans (Nat.le_of_lt hl) (by decide), p, _, rfl, upd_same, RepL.ofStrs fun s hs => ok s ((srt_perm ss).mem_iff.mp hs)⟩
      · cases h
    · cases h
  · cases h
/-! ### str, int, abs, max, min -/
def sOkB (s : Str) : Bool := decide (s.length ≤ SB) && s.cps.all (· < 0x110000)
theorem sOkB_ok {s : Str} (h : sOkB s = true) : sOk s := by
  unfold sOkB at h
  rw [Bool.and_eq_true] at h
  exact ⟨of_decide_eq_true h.1, h.2⟩
def strF : D → Option D
  | .str s => some (.str s)
  | .int i => if i.natAbs.log2 < 1920 ∧ sOkB (toString i : String) = true then some (.str (toString i : String)) else none
  | _ => none
theorem ou_str : OpU K (fun x H Q => rStrS [x] H Q) strF := fun a d h P as ρ μ σ G H x R rx Q q => by
  unfold strF at h
  split at h
  · cases h
    exact .inl ⟨_, by rw [rx.1], q _ G H .refl R ⟨rfl, rx.2⟩⟩
  · split at h
    · cases h
      rename_i hc
      exact .inr ⟨_, by rw [repT_int rx], hc.1, q _ G H .refl R ⟨rfl, sOkB_ok hc.2⟩⟩
    · cases h
  · cases h
def intF : D → Option D
  | .int i => some (.int i)
  | .bl k => some (.int (if k then 1 else 0))
  | _ => none
theorem ou_int : OpU K (fun x H Q => rInt1 [x] H Q) intF := fun a d h P as ρ μ σ G H x R rx Q q => by
  unfold intF at h
  split at h
  · cases h; exact .inl ⟨_, by rw [repT_int rx], q _ G H .refl R rfl⟩
  · cases h; exact .inr ⟨_, by rw [repT_bl rx], q _ G H .refl R rfl⟩
  · cases h
def absF : D → Option D
  | .int i => some (.int (if i < 0 then -i else i))
  | _ => none
theorem ou_abs : OpU K (fun x H Q => rAbs [x] H Q) absF := fun a d h P as ρ μ σ G H x R rx Q q => by
  unfold absF at h
  split at h
  · cases h; exact ⟨_, by rw [repT_int rx], q _ G H .refl R rfl⟩
  · cases h
def maxF : D → D → Option D
  | .int i, .int j => some (.int (max i j))
  | _, _ => none
theorem ov_max : OpV K (fun x y H Q => rMax2 [x, y] H Q) maxF := fun a b d h P as ρ μ σ G H x y R rx ry Q q => by
  unfold maxF at h
  split at h
  · cases h
    exact c_max P as ρ μ σ G H [x, y] R ⟨x, [y], rfl, rx, y, [], rfl, ry, rfl⟩ Q q
  · cases h
def minF : D → D → Option D
  | .int i, .int j => some (.int (min i j))
  | _, _ => none
theorem ov_min : OpV K (fun x y H Q => rMin2 [x, y] H Q) minF := fun a b d h P as ρ μ σ G H x y R rx ry Q q => by
  unfold minF at h
  split at h
  · cases h
    exact c_min P as ρ μ σ G H [x, y] R ⟨x, [y], rfl, rx, y, [], rfl, ry, rfl⟩ Q q
  · cases h
/-! ### slices -/
def mNoPart : RO := fun _ μ => some (none, μ)
theorem sn_noPart : SnO K tNoPart mNoPart := fun ρ μ o μ' h => by cases h; exact eo_none
def mPart (a : RE) : RO := fun ρ μ => match a ρ μ with
  | some (.val (.int n), μ1) => some (some n, μ1)
  | _ => none
theorem sn_part {ta : TE} {a : RE} (ha : SnE K ta a) : SnO K (tPart ta) (mPart a) := fun ρ μ o μ' h => by
  unfold mPart at h
  split at h
  · cases h
    rename_i e
    exact fun P as σ G H R Q q => ha _ _ _ _ e P as σ G H R _ fun v as1 G1 H1 n1 R1 r1 => ⟨_, r1, q as1 G1 H1 n1 R1⟩
  · cases h
def slF (lo hi : Option Int) : D → Option D
  | .lst xs => some (.lst (DK.cutD xs lo hi))
  | .tup xs => some (.tup (DK.cutD xs lo hi))
  | .str z => some (.str (cutS z lo hi))
  | .scr ns => if ns.length ≤ LB then some (.lst (DK.cutD (ns.map D.int) lo hi)) else none
  | _ => none
theorem cutS_ok' {z : Str} {lo hi : Option Int} (h : sOk z) : sOk (cutS z lo hi) := by
  obtain ⟨h1, h2⟩ := sOk_iff.mp h
  refine ⟨Nat.le_trans (cutS_length z lo hi) h.1, ?_⟩
  refine Array.all_eq_true_iff_forall_mem.mpr fun c hc => ?_
  have hm : c ∈ z.cps.toList := List.mem_of_mem_drop (List.mem_of_mem_take (by simpa [cutS] using hc))
  simpa using h2 c hm
theorem ou_sl {lo hi : Option Int} : OpU K (fun x H Q => rSlc K x lo hi H Q) (slF lo hi) := fun a d h P as ρ μ σ G H x R rx Q q => by
  unfold slF at h
  split at h
  · cases h
    obtain ⟨a, vs, e, g, r, z⟩ := repT_lst rx
    refine .inl ⟨a, vs, e, SqL.of g, fun p hp => ?_⟩
    obtain ⟨R4, n4⟩ := R.imm hp (.lst (cutV vs lo hi))
    exact q _ _ _ n4 R4 ⟨Nat.le_trans cut_len z, p, _, rfl, upd_same, RepL.mono n4.gr _ _ (cut_rep r)⟩
  · cases h
    rename_i xs
    obtain ⟨z, a, vs, ev, g, hr⟩ := id rx
    refine .inr (.inl ⟨a, vs, ev, same_sqt R.sub g, fun ⟨e1, e2⟩ => ?_, fun _ p hp => ?_⟩)
    · have whole : DK.cutD xs lo hi = xs := by
        unfold DK.cutD
        rw [hr.length] at e1 e2
        rw [e1, e2]
        simp
      rw [whole] at q
      rw [← ev]
      exact q _ _ _ .refl R rx
    · obtain ⟨R4, n4⟩ := R.imm hp (.tup (cutV vs lo hi))
      exact q _ _ _ n4 R4 ⟨Nat.le_trans cut_len z, p, _, rfl, SqT.of upd_same, RepL.mono n4.gr _ _ (cut_rep hr)⟩
  · cases h
    exact .inr (.inr ⟨_, rx.1, Nat.le_trans rx.2.1 (by decide), q _ G H .refl R ⟨rfl, cutS_ok' rx.2⟩⟩)
  · split at h
    · cases h
      rename_i hz
      obtain ⟨a, ev, hs⟩ := rx
      refine .inl ⟨a, _, ev, same_sql R.sub hs, fun p hp => ?_⟩
      obtain ⟨R4, n4⟩ := R.imm hp (.lst (cutV _ lo hi))
      exact q _ _ _ n4 R4 ⟨Nat.le_trans cut_len (by rw [List.length_map]; exact hz), p, _, rfl, upd_same, cut_rep RepL.ofInts⟩
    · cases h
  · cases h
def mSl (a : RE) (l u : RO) : RE := fun ρ μ => match a ρ μ with
  | some (x, μ1) => match l ρ μ1 with
    | some (lo, μ2) => match u ρ μ2 with
      | some (hi, μ3) => match view μ3 x with
        | some d => match slF lo hi d with
          | some r => some (.val r, μ3)
          | none => none
        | none => none
      | none => none
    | none => none
  | none => none
theorem sn_sl {ta : TE} {tl th : TO} {a : RE} {l u : RO} (ha : SnE K ta a) (hl : SnO K tl l) (hu : SnO K th u) : SnE K (tSl (rSlc K) ta tl th) (mSl a l u) := fun ρ μ w μ' h => by
  unfold mSl at h
  split at h
  · rename_i x μ1 e1
    split at h
    · rename_i lo μ2 e2
      split at h
      · rename_i hi μ3 e3
        split at h
        · rename_i d v1
          split at h
          · rename_i z e4
            cases h
            exact fun P as σ G H R Q q => ha _ _ _ _ e1 P as σ G H R _ fun x' as1 G1 H1 n1 R1 r1 => hl _ _ _ _ e2 P as1 σ G1 H1 R1 _ fun as2 G2 H2 n2 R2 => hu _ _ _ _ e3 P as2 σ G2 H2 R2 _ fun as3 G3 H3 n3 R3 =>
              ou_sl d z e4 P as3 ρ _ σ G3 H3 x' R3 (view_rep R3 (r1.mono (n2.trans n3).gr (n2.trans n3).pre) v1) Q fun v G4 H4 n4 R4 r4 => q v as3 G4 H4 (((n1.trans n2).trans n3).trans n4) R4 r4
          · cases h
        · cases h
      · cases h
    · cases h
  · cases h
def revF : D → Option D
  | .lst xs => some (.lst xs.reverse)
  | _ => none
end
end DX

/-! DXE: isinstance, texts' and lists' methods, statements. -/
namespace DX
open PySem PySem.Spec PyProof.Rows L2 DK

section
variable {K : PySem.W.Frag}
/-! ### isinstance -/
theorem tyx_ofT {G H : Hp} (s : Same G H) {d : D} {v : V} (k : isData d = true) (r : RepT K G H d v) : TyX K H v (tyVal K d) := by
  cases d with
  | lst xs =>
    obtain ⟨_, a, vs, e, g, _⟩ := r
    subst e
    exact .base (.lst g)
  | _ => exact tyx_of s k r
theorem kit_TT {G H : Hp} {d : D} {T : String} {v : V} (hT : T ∈ ["int", "bool", "str", "list", "tuple"]) (k : isData d = true) (r : RepT K G H d v) : PySem.W.kitOne K (tyVal K d) (.type T) = some (isT T d) := by
  cases d with
  | lst xs =>
    simp only [List.mem_cons, List.mem_nil_iff, or_false] at hT
    rcases hT with rfl | rfl | rfl | rfl | rfl <;> rfl
  | _ => exact kit_T (G := G) hT k r
def isTF (T : String) : D → Option D := fun d => if isData d = true then some (.bl (isT T d)) else none
theorem sn_isT {T : String} {ta : TE} {a : RE} (hT : T ∈ ["int", "bool", "str", "list", "tuple"]) (ha : SnE K ta a) : SnE K (tCB (rIsi K) (tCons ta (tCons (tC (.ty T)) tNil))) (mUn (isTF T) a) := by
  refine fun ρ μ w μ' h => sn_un (r := fun x H Q => rIsi K [x, .ty T] H Q) ?_ ha ρ μ w μ' h
  intro a d h P as ρ μ σ G H x R rx Q q
  unfold isTF at h
  split at h
  · cases h
    rename_i k
    exact ⟨x, _, _, _, _, rfl, .ty T, tyx_ofT R.sub k rx, kit_TT hT k rx, q _ G H .refl R rfl⟩
  · cases h
/-- facts about a class, for isinstance: cs the classes that are known -/
structure IsC (K : PySem.W.Frag) (c : Str) (cs : List Str) : Prop where
  bt : ∀ T : String, T ∈ ["NoneType", "bool", "int", "str", "tuple", "list"] → PySem.W.kitOne K (.type T) (.ref (He.ga K c)) = some false
  own : ∀ x ∈ cs, PySem.W.kitOne K (.ref (He.ga K x)) (.ref (He.ga K c)) = some (decide (x = c))
def isCF (c : Str) (cs : List Str) : D → Option D
  | .obj x _ _ => if x ∈ cs then some (.bl (decide (x = c))) else none
  | d => if isData d = true then some (.bl false) else none
theorem sn_isC {c : Str} {cs : List Str} {ta : TE} {a : RE} (hc : IsC K c cs) (ha : SnE K ta a) : SnE K (tCB (rIsi K) (tCons ta (tCons (tC (.ref (He.ga K c))) tNil))) (mUn (isCF c cs) a) := by
  refine fun ρ μ w μ' h => sn_un (r := fun x H Q => rIsi K [x, .ref (He.ga K c)] H Q) ?_ ha ρ μ w μ' h
  intro a d h P as ρ μ σ G H x R rx Q q
  unfold isCF at h
  split at h
  · split at h
    · cases h
      rename_i hm
      exact ⟨x, _, _, _, _, rfl, .own _, tyx_ofT R.sub rfl rx, hc.own _ hm, q _ G H .refl R rfl⟩
    · cases h
  · rename_i hn
    split at h
    · cases h
      rename_i k
      refine ⟨x, _, _, _, _, rfl, .own _, tyx_ofT R.sub k rx, ?_, q _ G H .refl R rfl⟩
      cases a with
      | obj c ns xs => exact absurd rfl (hn c ns xs)
      | ty n => cases k
      | cls n => cases k
      | scr n => cases k
      | _ => exact hc.bt _ (by decide)
    · cases h
def isSeqF : D → Option D := fun d => if isData d = true then some (.bl (isSeqD d)) else none
theorem kit_seqT {G H : Hp} {d : D} {v : V} (k : isData d = true) (r : RepT K G H d v) : PySem.W.kitAny K (tyVal K d) [.type "list", .type "tuple"] = some (isSeqD d) := by
  cases d with
  | lst xs => rfl
  | _ => exact isSeq_kit (G := G) k r
theorem sn_isSeq {ta : TE} {a : RE} (ha : SnE K ta a) : SnE K (tIsSeq K ta) (mUn isSeqF a) := fun ρ μ w μ' h => by
  unfold mUn at h
  split at h
  · rename_i x μ1 e1
    split at h
    · rename_i d v1
      unfold isSeqF at h
      split at h
      · rename_i e3
        split at e3
        · cases e3
          rename_i k
          cases h
          exact fun P as σ G H R Q q => ha _ _ _ _ e1 P as σ G H R _ fun x' as1 G1 H1 n1 R1 r1 =>
            isSeq_core R1 (fun p o hp => tyx_upd (tyx_ofT R1.sub k (view_rep R1 r1 v1)) hp) (kit_seqT k (view_rep R1 r1 v1)) fun G2 H2 n2 R2 => q _ as1 G2 H2 (n1.trans n2) R2 rfl
        · cases e3
      · cases h
    · cases h
  · cases h
/-! ### split, join -/
def splitF : D → D → Option D
  | .str x, .str y => if TL.tl y ≠ [] ∧ y.cps.all (· < 256) = true then some (.lst ((Txt.split x y).map D.str)) else none
  | _, _ => none
theorem sn_split {ta tb : TE} {a b : RE} (ha : SnE K ta a) (hb : SnE K tb b) : SnE K (tM1 rSplit ta tb) (mOp splitF a b) := fun ρ μ w μ' h => by
  unfold mOp at h
  split at h
  · rename_i x μ1 e1
    split at h
    · rename_i y μ2 e2
      split at h
      · rename_i d e v1 v2
        split at h
        · rename_i r e3
          cases h
          unfold splitF at e3
          split at e3
          · split at e3
            · cases e3
              rename_i hc
              cases x with
              | loc j => unfold view at v1; dsimp only at v1; split at v1 <;> cases v1
              | val x =>
                cases y with
                | loc j => unfold view at v2; dsimp only at v2; split at v2 <;> cases v2
                | val y =>
                  cases v1
                  cases v2
                  exact ev_split (ha _ _ _ _ e1) (hb _ _ _ _ e2) hc.1 hc.2
            · cases e3
          · cases e3
        · cases h
      · cases h
    · cases h
  · cases h
def mJoin (a b : RE) : RE := fun ρ μ => match a ρ μ with
  | some (.val (.str y), μ1) => match b ρ μ1 with
    | some (x, μ2) => match seqOf μ2 x with
      | some xs => match sOf xs with
        | some ps => if (ps.map (·.length)).sum + ps.length * y.length ≤ SB then some (.val (.str (Txt.join y ps)), μ2) else none
        | none => none
      | none => none
    | none => none
  | _ => none
theorem sn_join {ta tb : TE} {a b : RE} (ha : SnE K ta a) (hb : SnE K tb b) : SnE K (tM1 (rJoin K) ta tb) (mJoin a b) := fun ρ μ w μ' h => by
  unfold mJoin at h
  split at h
  · rename_i y μ1 e1
    split at h
    · rename_i x μ2 e2
      split at h
      · rename_i xs hs
        split at h
        · rename_i ps hp
          split at h
          · cases h
            rw [sOf_eq hp] at hs
            exact ev_join (ha _ _ _ _ e1) (hb _ _ _ _ e2) (seqOf_W hs) ‹_›
          · cases h
        · cases h
      · cases h
    · cases h
  · cases h
/-! ### lists' methods -/
theorem view_lst {μ : Mu} {j : Nat} {d : D} (h : view μ (.loc j) = some d) : ∃ ys, lstAt j ys μ := by
  unfold view at h
  dsimp only at h
  split at h
  · exact ⟨_, .inl ‹_›⟩
  · exact ⟨_, .inr ‹_›⟩
  · cases h
def mAppend (a : RE) (r : RA) : RE := fun ρ μ => match a ρ μ with
  | some (.loc j, μ1) => match view μ1 (.loc j), dat r ρ μ1 with
    | some _, some ([d], μ2) => match μ2[j]? with
      | some (.lst xs) => if xs.length < LB then some (.val .non, μ2.set j (.lst (xs ++ [d]))) else none
      | _ => none
    | _, _ => none
  | _ => none
theorem sn_append {ta : TE} {tr : TA} {a : RE} {r : RA} (ha : SnE K ta a) (hr : SnA K tr r) : SnE K (tBM K "list" rAppend ta tr) (mAppend a r) := fun ρ μ w μ' h => by
  unfold mAppend at h
  split at h
  · rename_i j μ1 e1
    split at h
    · rename_i _ d μ2 v1 e2
      split at h
      · rename_i xs hm
        split at h
        · cases h
          exact ev_append (ha _ _ _ _ e1) (dat_ok hr e2) (view_lst v1) hm ‹_›
        · cases h
      · cases h
    · cases h
  · cases h
def mPop (a : RE) : RE := fun ρ μ => match a ρ μ with
  | some (.loc j, μ1) => match μ1[j]? with
    | some (.lst xs) => match xs.getLast? with
      | some d => some (.val d, μ1.set j (.lst xs.dropLast))
      | none => none
    | _ => none
  | _ => none
theorem sn_pop {ta : TE} {a : RE} (ha : SnE K ta a) : SnE K (tBM0 K "list" rPop ta) (mPop a) := fun ρ μ w μ' h => by
  unfold mPop at h
  split at h
  · rename_i j μ1 e1
    split at h
    · rename_i xs hm
      split at h
      · rename_i d hd
        cases h
        obtain ⟨l, e⟩ := List.getLast?_eq_some_iff.mp hd
        subst e
        rw [List.dropLast_concat]
        exact ev_pop (ha _ _ _ _ e1) hm
      · cases h
    · cases h
  · cases h
def mPopAt (a : RE) (r : RA) : RE := fun ρ μ => match a ρ μ with
  | some (.loc j, μ1) => match view μ1 (.loc j), dat r ρ μ1 with
    | some _, some ([.int (.ofNat k)], μ2) => match μ2[j]? with
      | some (.lst xs) => match xs[k]? with
        | some d => some (.val d, μ2.set j (.lst (xs.eraseIdx k)))
        | none => none
      | _ => none
    | _, _ => none
  | _ => none
theorem sn_popAt {ta : TE} {tr : TA} {a : RE} {r : RA} (ha : SnE K ta a) (hr : SnA K tr r) : SnE K (tBM K "list" rPopAt ta tr) (mPopAt a r) := fun ρ μ w μ' h => by
  unfold mPopAt at h
  split at h
  · rename_i j μ1 e1
    split at h
    · rename_i _ k μ2 v1 e2
      split at h
      · rename_i xs hm
        split at h
        · rename_i d hd
          cases h
          exact ev_popAt (ha _ _ _ _ e1) (dat_ok hr e2) (view_lst v1) hm rfl hd
        · cases h
      · cases h
    · cases h
  · cases h
end
end DX

/-! DXF: targets, statements, loops, comprehensions. -/
namespace DX
open PySem PySem.Spec PyProof.Rows L2 DK

section
variable {K : PySem.W.Frag}
/-! ### targets -/
abbrev RGs := List D → Env' → Option Env'
def SnGs (K : PySem.W.Frag) (g : TGs) (m : RGs) : Prop := ∀ ds ρ ρ', m ds ρ = some ρ' → EvGs K g ds ρ ρ'
def hName (i : Nat) : RG := fun w ρ => some (ρ.set i (some w))
theorem sn_gName {i : Nat} : SnG K (gName i) (hName i) := fun w ρ ρ' h => by cases h; exact eg_name
def hNil : RGs := fun ds ρ => match ds with
  | [] => some ρ
  | _ => none
theorem sn_gNil : SnGs K gNil hNil := fun ds ρ ρ' h => by
  unfold hNil at h
  split at h
  · cases h; exact egs_nil
  · cases h
def hCons (g : RG) (r : RGs) : RGs := fun ds ρ => match ds with
  | d :: t => match g (.val d) ρ with
    | some ρ1 => r t ρ1
    | none => none
  | [] => none
theorem sn_gCons {g : TG} {gs : TGs} {m : RG} {ms : RGs} (hg : SnG K g m) (hs : SnGs K gs ms) : SnGs K (gCons g gs) (hCons m ms) := fun ds ρ ρ' h => by
  unfold hCons at h
  split at h
  · split at h
    · exact egs_cons (hg _ _ _ ‹_›) (hs _ _ _ h)
    · cases h
  · cases h
def hTup (n : Nat) (r : RGs) : RG := fun w ρ => match w with
  | .val (.tup ds) => if ds.length = n then r ds ρ else none
  | _ => none
theorem sn_gTup {n : Nat} {gs : TGs} {ms : RGs} (hs : SnGs K gs ms) : SnG K (gTup K n gs) (hTup n ms) := fun w ρ ρ' h => by
  unfold hTup at h
  split at h
  · split at h
    · exact eg_tup ‹_› (hs _ _ _ h)
    · cases h
  · cases h
/-! within a comprehension -/
def SnGc (K : PySem.W.Frag) (g : TG) (m : RG) (vs : List Nat) : Prop := ∀ d ρ ρ', m (.val d) ρ = some ρ' → EvGc K g d vs ρ ρ'
def SnGcs (K : PySem.W.Frag) (g : TGs) (m : RGs) (vs : List Nat) : Prop := ∀ ds ρ ρ', m ds ρ = some ρ' → EvGcs K g ds vs ρ ρ'
theorem sn_cName {i : Nat} {vs : List Nat} (h : i ∈ vs := by decide) : SnGc K (gName i) (hName i) vs := fun w ρ ρ' e => by cases e; exact egc_name h
theorem sn_cNil {vs : List Nat} : SnGcs K gNil hNil vs := fun ds ρ ρ' h => by
  unfold hNil at h
  split at h
  · cases h; exact egcs_nil
  · cases h
theorem sn_cCons {g : TG} {gs : TGs} {m : RG} {ms : RGs} {vs : List Nat} (hg : SnGc K g m vs) (hs : SnGcs K gs ms vs) : SnGcs K (gCons g gs) (hCons m ms) vs := fun ds ρ ρ' h => by
  unfold hCons at h
  split at h
  · split at h
    · exact egcs_cons (hg _ _ _ ‹_›) (hs _ _ _ h)
    · cases h
  · cases h
theorem sn_cTup {n : Nat} {gs : TGs} {ms : RGs} {vs : List Nat} (hs : SnGcs K gs ms vs) : SnGc K (gTup K n gs) (hTup n ms) vs := fun w ρ ρ' h => by
  unfold hTup at h
  split at h
  · rename_i ds e
    cases e
    split at h
    · exact egc_tup ‹_› (hs _ _ _ h)
    · cases h
  · cases h
/-! ### statements -/
def mNext : RS := fun ρ μ => some (.nx ρ μ)
theorem sn_next : SnS K tNext mNext := fun ρ μ o h => by cases h; exact ex_next
def mCont : RS := fun ρ μ => some (.ct ρ μ)
theorem sn_cont : SnS K tCont mCont := fun ρ μ o h => by cases h; exact ex_cont
def mBreak : RS := fun ρ μ => some (.bk ρ μ)
theorem sn_break : SnS K tBreak mBreak := fun ρ μ o h => by cases h; exact ex_break
def mNever : RS := fun _ _ => none
theorem sn_never {t : TS} : SnS K t mNever := fun ρ μ o h => by cases h
def mSeq (a b : RS) : RS := fun ρ μ => match a ρ μ with
  | some (.nx ρ1 μ1) => b ρ1 μ1
  | r => r
theorem sn_seq {t u : TS} {a b : RS} (ha : SnS K t a) (hb : SnS K u b) : SnS K (tSeq t u) (mSeq a b) := fun ρ μ o h => by
  unfold mSeq at h
  split at h
  · exact ex_seq (ha _ _ _ ‹_›) (hb _ _ _ h)
  · rename_i hn
    cases o with
    | nx ρ1 μ1 => exact absurd h (hn ρ1 μ1)
    | rt w μ1 => exact ex_seqR (ha _ _ _ h)
    | bk ρ1 μ1 => exact ex_seqB (ha _ _ _ h)
    | ct ρ1 μ1 => exact ex_seqC (ha _ _ _ h)
def mRet (a : RE) : RS := fun ρ μ => match a ρ μ with
  | some (w, μ1) => some (.rt w μ1)
  | none => none
theorem sn_ret {ta : TE} {a : RE} (ha : SnE K ta a) : SnS K (tRet ta) (mRet a) := fun ρ μ o h => by
  unfold mRet at h
  split at h
  · cases h; exact ex_ret (ha _ _ _ _ ‹_›)
  · cases h
def mRetN : RS := fun ρ μ => some (.rt (.val .non) μ)
theorem sn_retN : SnS K tRetN mRetN := fun ρ μ o h => by
  cases h
  exact fun P as σ G H R E q => q .non as G H .refl R.nil rfl
def mDrop (a : RE) : RS := fun ρ μ => match a ρ μ with
  | some (_, μ1) => some (.nx ρ μ1)
  | none => none
theorem sn_drop {ta : TE} {a : RE} (ha : SnE K ta a) : SnS K (tDrop ta) (mDrop a) := fun ρ μ o h => by
  unfold mDrop at h
  split at h
  · cases h; exact ex_drop (ha _ _ _ _ ‹_›)
  · cases h
def mAsg (a : RE) (g : RG) : RS := fun ρ μ => match a ρ μ with
  | some (w, μ1) => match g w ρ with
    | some ρ1 => some (.nx ρ1 μ1)
    | none => none
  | none => none
theorem sn_asg {ta : TE} {g : TG} {a : RE} {m : RG} (ha : SnE K ta a) (hg : SnG K g m) : SnS K (tAsg ta g) (mAsg a m) := fun ρ μ o h => by
  unfold mAsg at h
  split at h
  · split at h
    · cases h; exact ex_asg (ha _ _ _ _ ‹_›) (hg _ _ _ ‹_›)
    · cases h
  · cases h
def mIfS (t : RB) (a b : RS) : RS := fun ρ μ => match t ρ μ with
  | some (true, μ1) => a ρ μ1
  | some (false, μ1) => b ρ μ1
  | none => none
theorem sn_ifS {t : TT} {ts us : TS} {m : RB} {a b : RS} (ht : SnB K t m) (ha : SnS K ts a) (hb : SnS K us b) : SnS K (tIfS t ts us) (mIfS m a b) := fun ρ μ o h => by
  unfold mIfS at h
  split at h
  · exact ex_if (ht _ _ _ _ ‹_›) (fun _ => ha _ _ _ h) fun z => by cases z
  · exact ex_if (ht _ _ _ _ ‹_›) (fun z => by cases z) fun _ => hb _ _ _ h
  · cases h
def mPar (i j : Nat) (r : RA) : RS := fun ρ μ => match r ρ μ with
  | some ([v, w], μ1) => some (.nx ((ρ.set i (some v)).set j (some w)) μ1)
  | _ => none
theorem sn_par {i j : Nat} {tr : TA} {r : RA} (hr : SnA K tr r) : SnS K (tPar i j tr) (mPar i j r) := fun ρ μ o h => by
  unfold mPar at h
  split at h
  · cases h; exact ex_par (hr _ _ _ _ ‹_›)
  · cases h
def mAug (i : Nat) (a : RE) : RS := fun ρ μ => match ρ[i]?, a ρ μ with
  | some (some (.val (.int m))), some (.val (.int n), μ1) => some (.nx (ρ.set i (some (.val (.int (m + n))))) μ1)
  | _, _ => none
theorem sn_aug {i : Nat} {ta : TE} {a : RE} (ha : SnE K ta a) : SnS K (tAug i ta rAug) (mAug i a) := fun ρ μ o h => by
  unfold mAug at h
  split at h
  · cases h; exact ex_aug ‹_› (ha _ _ _ _ ‹_›)
  · cases h
/-- xs[i] = e -/
def mSetI (e a b : RE) : RS := fun ρ μ => match e ρ μ with
  | some (w, μ1) => match a ρ μ1 with
    | some (.loc j, μ2) => match b ρ μ2 with
      | some (.val (.int n), μ3) => match μ3[j]? with
        | some (.lst xs) => match ixN xs.length n with
          | some k => match w with
            | .val d => some (.nx ρ (μ3.set j (.lst (xs.set k d))))
            | _ => none
          | none => none
        | some (.lsW ws) => match ixN ws.length n with
          | some k => if w.below μ3.length = true then some (.nx ρ (μ3.set j (.lsW (ws.set k w)))) else none
          | none => none
        | _ => none
      | _ => none
    | _ => none
  | none => none
theorem sn_setI {te ta tb : TE} {e a b : RE} (he : SnE K te e) (ha : SnE K ta a) (hb : SnE K tb b) : SnS K (tAsg te (gSub ta tb rSetL)) (mSetI e a b) := fun ρ μ o h => by
  unfold mSetI at h
  split at h
  · rename_i w μ1 e1
    split at h
    · rename_i j μ2 e2
      split at h
      · rename_i n μ3 e3
        split at h
        · rename_i xs hm
          split at h
          · rename_i k hk
            split at h
            · cases h; exact ex_setItem (he _ _ _ _ e1) (ha _ _ _ _ e2) (hb _ _ _ _ e3) hm hk
            · cases h
          · cases h
        · rename_i ws hm
          split at h
          · rename_i k hk
            split at h
            · cases h; exact ex_setW (he _ _ _ _ e1) (ha _ _ _ _ e2) (hb _ _ _ _ e3) hm hk ‹_›
            · cases h
          · cases h
        · cases h
      · cases h
    · cases h
  · cases h
/-! ### what is walked -/
mutual
def beqD : D → D → Bool
  | .non, .non => true
  | .bl a, .bl b => a == b
  | .int a, .int b => a == b
  | .str a, .str b => decide (a = b)
  | .tup a, .tup b => beqL a b
  | .lst a, .lst b => beqL a b
  | .obj c ns a, .obj d ms b => decide (c = d) && decide (ns = ms) && beqL a b
  | .ty a, .ty b => a == b
  | .cls a, .cls b => decide (a = b)
  | .scr a, .scr b => decide (a = b)
  | _, _ => false
def beqL : List D → List D → Bool
  | [], [] => true
  | a :: as, b :: bs => beqD a b && beqL as bs
  | _, _ => false
end
mutual
theorem beqD_eq : ∀ a b : D, beqD a b = true → a = b
  | .non, b, h => by cases b <;> first | rfl | cases h
  | .bl a, b, h => by cases b <;> first | (simp only [beqD, beq_iff_eq] at h; rw [h]) | cases h
  | .int a, b, h => by cases b <;> first | (simp only [beqD, beq_iff_eq] at h; rw [h]) | cases h
  | .str a, b, h => by cases b <;> first | (simp only [beqD, decide_eq_true_eq] at h; rw [h]) | cases h
  | .tup a, b, h => by cases b <;> first | (rw [beqD] at h; rw [beqL_eq _ _ h]) | cases h
  | .lst a, b, h => by cases b <;> first | (rw [beqD] at h; rw [beqL_eq _ _ h]) | cases h
  | .obj c ns a, b, h => by
    cases b <;> try (cases h; done)
    rw [beqD, Bool.and_eq_true, Bool.and_eq_true] at h
    rw [of_decide_eq_true h.1.1, of_decide_eq_true h.1.2, beqL_eq _ _ h.2]
  | .ty a, b, h => by cases b <;> first | (simp only [beqD, beq_iff_eq] at h; rw [h]) | cases h
  | .cls a, b, h => by cases b <;> first | (simp only [beqD, decide_eq_true_eq] at h; rw [h]) | cases h
  | .scr a, b, h => by cases b <;> first | (simp only [beqD, decide_eq_true_eq] at h; rw [h]) | cases h
theorem beqL_eq : ∀ a b : List D, beqL a b = true → a = b
  | [], b, h => by cases b <;> first | rfl | cases h
  | a :: as, b, h => by
    cases b with
    | nil => cases h
    | cons b bs =>
      rw [beqL, Bool.and_eq_true] at h
      rw [beqD_eq _ _ h.1, beqL_eq _ _ h.2]
end
/-- the walked list stands -/
def standB (g : Option (Nat × List D)) (μ : Mu) : Bool := match g with
  | none => true
  | some (j, xs) => match μ[j]? with
    | some (.lst ys) => beqL ys xs
    | some (.frz ys) => beqL ys xs
    | _ => false
def stand (g : Option (Nat × List D)) : Mu → Prop := match g with
  | none => CT
  | some (j, xs) => lstAt j xs
theorem standB_ok {g : Option (Nat × List D)} {μ : Mu} (h : standB g μ = true) : stand g μ := by
  cases g with
  | none => trivial
  | some p =>
    obtain ⟨j, xs⟩ := p
    unfold standB at h
    dsimp only at h
    split at h
    · rename_i e; rw [beqL_eq _ _ h] at e; exact .inl e
    · rename_i e; rw [beqL_eq _ _ h] at e; exact .inr e
    · cases h
def SnI (K : PySem.W.Frag) (wi : TI) (m : RI) : Prop := ∀ ρ μ xs g μ', m ρ μ = some (xs, g, μ') → EvI K wi ρ μ xs μ' (stand g)
def guardOf (w : W) (xs : List D) : Option (Nat × List D) := match w with
  | .val _ => none
  | .loc j => some (j, xs)
theorem guard_seq {w : W} {xs : List D} : stand (guardOf w xs) = seqC w xs := by cases w <;> rfl
def kSeq (a : RE) : RI := fun ρ μ => match a ρ μ with
  | some (w, μ1) => match seqOf μ1 w with
    | some xs => some (xs, guardOf w xs, μ1)
    | none => none
  | none => none
theorem sn_iSeq {ta : TE} {a : RE} (ha : SnE K ta a) : SnI K (iSeq K ta) (kSeq a) := fun ρ μ xs g μ' h => by
  unfold kSeq at h
  split at h
  · split at h
    · cases h
      rw [guard_seq]
      exact ei_seq (ha _ _ _ _ ‹_›) (seqOf_W ‹_›)
    · cases h
  · cases h
def kEnum (r : RA) : RI := fun ρ μ => match r ρ μ with
  | some ([w], μ1) => match seqOf μ1 w with
    | some xs => some (enumD 0 xs, guardOf w xs, μ1)
    | none => none
  | _ => none
theorem sn_iEnum {tr : TA} {r : RA} (hr : SnA K tr r) : SnI K (iEnumA K tr) (kEnum r) := fun ρ μ xs g μ' h => by
  unfold kEnum at h
  split at h
  · split at h
    · cases h
      rw [guard_seq]
      exact ei_enum (hr _ _ _ _ ‹_›) (seqOf_W ‹_›)
    · cases h
  · cases h
/-- small (the kernel is not to run along a great number) -/
def rngB (n : Int) : Bool := Nat.ble n.natAbs 1000000000
theorem rngB_ok {n : Int} (h : rngB n = true) : -(2 ^ 62) ≤ n ∧ n < 2 ^ 62 := by
  have h1 : n.natAbs ≤ 1000000000 := Nat.le_of_ble_eq_true h
  have h2 : (2 : Int) ^ 62 = 4611686018427387904 := by decide +kernel
  rw [h2]
  omega
def kRng1 (r : RA) : RI := fun ρ μ => match dat r ρ μ with
  | some ([.int n], μ1) => if rngB n = true then some (rangeD 0 n.toNat, none, μ1) else none
  | _ => none
theorem sn_iRng1 {tr : TA} {r : RA} (hr : SnA K tr r) : SnI K (iRng1 tr) (kRng1 r) := fun ρ μ xs g μ' h => by
  unfold kRng1 at h
  split at h
  · split at h
    · cases h
      have hc := rngB_ok ‹rngB _ = true›
      exact ei_range1 (dat_ok hr ‹_›) hc.1 hc.2
    · cases h
  · cases h
def kRng2 (r : RA) : RI := fun ρ μ => match dat r ρ μ with
  | some ([.int m, .int n], μ1) => if rngB m = true ∧ rngB n = true then some (rangeD m (n - m).toNat, none, μ1) else none
  | _ => none
theorem sn_iRng2 {tr : TA} {r : RA} (hr : SnA K tr r) : SnI K (iRng2 tr) (kRng2 r) := fun ρ μ xs g μ' h => by
  unfold kRng2 at h
  split at h
  · split at h
    · cases h
      have hc := ‹_ ∧ _›
      exact ei_range2 (dat_ok hr ‹_›) ⟨(rngB_ok hc.1).1, (rngB_ok hc.1).2, (rngB_ok hc.2).1, (rngB_ok hc.2).2⟩
    · cases h
  · cases h
def kStr (a : RE) : RI := fun ρ μ => match a ρ μ with
  | some (.val (.str s), μ1) => some (signs s, none, μ1)
  | _ => none
theorem sn_iStr {ta : TE} {a : RE} (ha : SnE K ta a) : SnI K (iStr ta) (kStr a) := fun ρ μ xs g μ' h => by
  unfold kStr at h
  split at h
  · cases h; exact ei_str (ha _ _ _ _ ‹_›)
  · cases h
/-! ### for -/
def loopR (g : RG) (b : RS) (c : Option (Nat × List D)) : List D → Env' → Mu → Option Out
  | [], ρ, μ => some (.nx ρ μ)
  | x :: xs, ρ, μ => match g (.val x) ρ with
    | some ρ1 => match b ρ1 μ with
      | some (.nx ρ2 μ2) => if standB c μ2 = true then loopR g b c xs ρ2 μ2 else none
      | some (.ct ρ2 μ2) => if standB c μ2 = true then loopR g b c xs ρ2 μ2 else none
      | some (.bk ρ2 μ2) => some (.nx ρ2 μ2)
      | some (.rt w μ2) => some (.rt w μ2)
      | none => none
    | none => none
theorem loopR_ok {g : TG} {tb : TS} {m : RG} {b : RS} {c : Option (Nat × List D)} (hg : SnG K g m) (hb : SnS K tb b) : ∀ {xs : List D} {ρ : Env'} {μ : Mu} {o : Out}, loopR m b c xs ρ μ = some o → Lp K g tb (stand c) xs ρ μ o
  | [], ρ, μ, o, h => by cases h; exact .nil
  | x :: xs, ρ, μ, o, h => by
    unfold loopR at h
    split at h
    · rename_i ρ1 e1
      have h1 := hg _ _ _ e1
      split at h
      · split at h
        · exact .next h1 (hb _ _ _ ‹_›) (standB_ok ‹_›) (loopR_ok hg hb h)
        · cases h
      · split at h
        · exact .cont h1 (hb _ _ _ ‹_›) (standB_ok ‹_›) (loopR_ok hg hb h)
        · cases h
      · cases h; exact .brk h1 (hb _ _ _ ‹_›)
      · cases h; exact .ret h1 (hb _ _ _ ‹_›)
      · cases h
    · cases h
def mFor (i : RI) (g : RG) (b : RS) : RS := fun ρ μ => match i ρ μ with
  | some (xs, c, μ1) => loopR g b c xs ρ μ1
  | none => none
theorem sn_for {wi : TI} {g : TG} {tb : TS} {i : RI} {m : RG} {b : RS} (hi : SnI K wi i) (hg : SnG K g m) (hb : SnS K tb b) : SnS K (tFor wi g tb) (mFor i m b) := fun ρ μ o h => by
  unfold mFor at h
  split at h
  · exact ex_for (hi _ _ _ _ _ ‹_›) (loopR_ok hg hb h)
  · cases h
/-! ### while -/
def whileR (t : RB) (b : RS) : Nat → Env' → Mu → Option Out
  | 0, _, _ => none
  | n + 1, ρ, μ => match t ρ μ with
    | some (false, μ1) => some (.nx ρ μ1)
    | some (true, μ1) => match b ρ μ1 with
      | some (.nx ρ2 μ2) => whileR t b n ρ2 μ2
      | some (.ct ρ2 μ2) => whileR t b n ρ2 μ2
      | some (.bk ρ2 μ2) => some (.nx ρ2 μ2)
      | some (.rt w μ2) => some (.rt w μ2)
      | none => none
    | none => none
theorem whileR_ok {c : TT} {tb : TS} {t : RB} {b : RS} (ht : SnB K c t) (hb : SnS K tb b) : ∀ {n : Nat} {ρ : Env'} {μ : Mu} {o : Out}, whileR t b n ρ μ = some o → Wh K c tb n ρ μ o
  | 0, _, _, _, h => by cases h
  | n + 1, ρ, μ, o, h => by
    unfold whileR at h
    split at h
    · cases h; exact .stop (ht _ _ _ _ ‹_›)
    · split at h
      · exact .next (ht _ _ _ _ ‹_›) (hb _ _ _ ‹_›) (whileR_ok ht hb h)
      · exact .cont (ht _ _ _ _ ‹_›) (hb _ _ _ ‹_›) (whileR_ok ht hb h)
      · cases h; exact .brk (ht _ _ _ _ ‹_›) (hb _ _ _ ‹_›)
      · cases h; exact .ret (ht _ _ _ _ ‹_›) (hb _ _ _ ‹_›)
      · cases h
    · cases h
def fuel : Nat := 100000
def mWhile (t : RB) (b : RS) : RS := fun ρ μ => whileR t b fuel ρ μ
theorem sn_while {c : TT} {tb : TS} {t : RB} {b : RS} (ht : SnB K c t) (hb : SnS K tb b) : SnS K (tWhile c tb) (mWhile t b) := fun ρ μ o h => ex_while (whileR_ok ht hb h)
/-! ### comprehensions -/
def lcR (g : RG) (t : RB) (e : RE) (c : Option (Nat × List D)) (ρ : Env') : List D → Mu → Option (List D × Mu)
  | [], μ => some ([], μ)
  | x :: xs, μ => match g (.val x) ρ with
    | some ρ1 => match t ρ1 μ with
      | some (false, μ1) => if standB c μ1 = true then lcR g t e c ρ xs μ1 else none
      | some (true, μ1) => match dat1 e ρ1 μ1 with
        | some (y, μ2) => if standB c μ2 = true then match lcR g t e c ρ xs μ2 with
          | some (ys, μ3) => some (y :: ys, μ3)
          | none => none
          else none
        | none => none
      | none => none
    | none => none
theorem lcR_ok {g : TG} {tt : TT} {te : TE} {m : RG} {t : RB} {e : RE} {c : Option (Nat × List D)} {vs : List Nat} {ρ : Env'} (hg : SnGc K g m vs) (ht : SnB K tt t) (he : SnE K te e) : ∀ {xs ys : List D} {μ μ' : Mu}, lcR m t e c ρ xs μ = some (ys, μ') → Lc K g tt te vs (stand c) ρ xs μ ys μ'
  | [], ys, μ, μ', h => by cases h; exact .nil
  | x :: xs, ys, μ, μ', h => by
    unfold lcR at h
    split at h
    · rename_i ρ1 e1
      have h1 := hg _ _ _ e1
      split at h
      · split at h
        · exact .skip h1 (ht _ _ _ _ ‹_›) (standB_ok ‹_›) (lcR_ok hg ht he h)
        · cases h
      · split at h
        · split at h
          · split at h
            · cases h
              exact .take h1 (ht _ _ _ _ ‹_›) (dat1_ok he ‹_›) (standB_ok ‹_›) (lcR_ok hg ht he ‹_›)
            · cases h
          · cases h
        · cases h
      · cases h
    · cases h
def mLc (i : RI) (g : RG) (t : RB) (e : RE) (vs : List Nat) : RE := fun ρ μ => match i ρ μ with
  | some (xs, c, μ1) => if xs.length ≤ LB then match lcR g t e c (wipeE ρ vs) xs μ1 with
    | some (ys, μ2) => some (.val (.lst ys), μ2)
    | none => none
    else none
  | none => none
theorem sn_lc {wi : TI} {g : TG} {tt : TT} {te : TE} {i : RI} {m : RG} {t : RB} {e : RE} {vs : List Nat} (hi : SnI K wi i) (hg : SnGc K g m vs) (ht : SnB K tt t) (he : SnE K te e) : SnE K (tLc wi g tt te vs) (mLc i m t e vs) := fun ρ μ w μ' h => by
  unfold mLc at h
  split at h
  · split at h
    · split at h
      · cases h; exact ev_lc (hi _ _ _ _ _ ‹_›) (lcR_ok hg ht he ‹_›) ‹_›
      · cases h
    · cases h
  · cases h
end
end DX

/-! DXG: defs that are run, calls, instances. A callee sees the front of the store that its arguments reach. -/
namespace DX
open PySem PySem.Spec PyProof.Rows L2 DK

abbrev FX := List W → Mu → Option (W × Mu)
def FX.phi (f : FX) : Phi := fun ws μ w μ' => f ws μ = some (w, μ')
abbrev spF (K : PySem.W.Frag) (f : FX) : Sp := spD K f.phi
def locTop : List W → Nat
  | [] => 0
  | .val _ :: r => locTop r
  | .loc j :: r => max (j + 1) (locTop r)
def preN (ws : List W) (μ : Mu) : Nat := if locTop ws ≤ μ.length ∧ (μ.take (locTop ws)).all (MO.below (locTop ws)) = true then locTop ws else μ.length
def callX (f : FX) (ws : List W) (μ : Mu) : Option (W × Mu) := match f ws (μ.take (preN ws μ)) with
  | some (w, μ') => if μ'.length = preN ws μ then some (w, μ' ++ μ.drop (preN ws μ)) else f ws μ
  | none => none

section
variable {K : PySem.W.Frag} {G H : Hp} {as : List Addr} {P : Addr → Prop} {ρ : Env'} {μ : Mu} {σ : L2.St}
/-- the addresses of the rest are guarded -/
def Rest (P : Addr → Prop) (as : List Addr) (G : Hp) (n : Nat) : Addr → Prop := fun a => P a ∨ (a ∈ as.drop n ∧ G a = none)
theorem not_both {α : Type} {l : List α} (nd : l.Nodup) {n : Nat} {a : α} (h : a ∈ l.drop n) : a ∉ l.take n := fun k => by
  have e := List.take_append_drop n l
  rw [← e] at nd
  exact (List.nodup_append.mp nd).2.2 a k a h rfl
theorem front (R : Rl K G H as P ρ μ σ) {n : Nat} (hn : n ≤ μ.length) (hb : ∀ m ∈ μ.take n, MO.below n m = true) : Rl K G H (as.take n) (Rest P as G n) [] (μ.take n) [] := by
  have hl : (μ.take n).length = n := by rw [List.length_take]; omega
  have R0 := R.drop (μ0 := μ.take n) (t := μ.drop n) (List.take_append_drop n μ).symm (fun m hm => by rw [hl]; exact hb m hm)
  rw [hl] at R0
  refine ⟨R0.sub, fun a ha => ?_, R0.nd, R0.len, R0.mu, R0.wf, R0.sz, R0.env⟩
  rcases ha with ha | ⟨ha, hg⟩
  · exact R0.pro a ha
  · exact ⟨hg, R.here (List.mem_of_mem_drop ha), not_both R.nd ha⟩
theorem preN_ok (R : Rl K G H as P ρ μ σ) (ws : List W) : preN ws μ ≤ μ.length ∧ ∀ m ∈ μ.take (preN ws μ), MO.below (preN ws μ) m = true := by
  unfold preN
  split
  · rename_i h
    exact ⟨h.1, List.all_eq_true.mp h.2⟩
  · refine ⟨Nat.le_refl _, fun m hm => R.wf m (List.mem_of_mem_take hm)⟩
theorem locTop_rep {n : Nat} : ∀ {ws : List W} {vs : List V}, locTop ws ≤ n → RepWs K G as ws vs → RepWs K G (as.take n) ws vs
  | [], _, _, h => h
  | .val d :: ws, _, hn, ⟨v, r, e, h1, h2⟩ => ⟨v, r, e, h1, locTop_rep hn h2⟩
  | .loc j :: ws, _, hn, ⟨v, r, e, ⟨a, q1, q2⟩, h2⟩ => by
    have hj : j + 1 ≤ n := Nat.le_trans (Nat.le_max_left _ _) hn
    exact ⟨v, r, e, ⟨a, by rw [List.getElem?_take_of_lt (by omega)]; exact q1, q2⟩, locTop_rep (Nat.le_trans (Nat.le_max_right _ _) hn) h2⟩
theorem preN_rep (R : Rl K G H as P ρ μ σ) {ws : List W} {vs : List V} (h : RepWs K G as ws vs) : RepWs K G (as.take (preN ws μ)) ws vs := by
  unfold preN
  split
  · exact locTop_rep (Nat.le_refl _) h
  · rw [← R.len, List.take_length]
    exact h
theorem back (R : Rl K G H as P ρ μ σ) {n : Nat} (hn : n ≤ μ.length) {as' : List Addr} {G' H' : Hp} {μ' : Mu} (nx : Nx (Rest P as G n) (as.take n) G H as' G' H') (R' : Rl K G' H' as' (Rest P as G n) [] μ' []) (hl : μ'.length = n) :
    as' = as.take n ∧ Nx P as G H as G' H' ∧ Rl K G' H' as P ρ (μ' ++ μ.drop n) σ := by
  have la : (as.take n).length = n := by rw [List.length_take, R.len]; omega
  have ea : as' = as.take n := by
    obtain ⟨t, et⟩ := nx.pre
    have h1 := R'.len
    rw [et, List.length_append, la, hl] at h1
    have : t = [] := List.eq_nil_of_length_eq_zero (by omega)
    rw [et, this, List.append_nil]
  have pre : ∃ t, as = as' ++ t := ⟨as.drop n, by rw [ea, List.take_append_drop]⟩
  have hP : ∀ a, P a → Rest P as G n a := fun a h => .inl h
  refine ⟨ea, ⟨⟨[], by simp⟩, nx.gr, fun a ha => nx.kp a (hP a ha)⟩, ⟨R'.sub, fun a ha => ?_, R.nd, ?_, fun j a m h1 h2 => ?_, fun m hm => ?_, R.sz, fun i w hi => ?_⟩⟩
  · obtain ⟨h1, h2, _⟩ := R'.pro a (hP a ha)
    exact ⟨h1, h2, (R.pro a ha).2.2⟩
  · rw [List.length_append, hl, List.length_drop, R.len]; omega
  · by_cases hj : j < n
    · rw [List.getElem?_append_left (by omega)] at h2
      have q := R'.mu j a m (by rw [ea, List.getElem?_take_of_lt hj]; exact h1) h2
      exact q.mono (Same.refl _) id rfl pre
    · rw [List.getElem?_append_right (by omega), List.getElem?_drop, hl, show n + (j - n) = j by omega] at h2
      have ha : a ∈ as.drop n := by
        refine List.mem_of_getElem? (i := j - n) ?_
        rw [List.getElem?_drop, show n + (j - n) = j by omega]
        exact h1
      have q := R.mu j a m h1 h2
      refine q.mono nx.gr (fun g => (R'.pro a (.inr ⟨ha, g⟩)).1) ?_ ⟨[], by simp⟩
      cases hg : G a with
      | none => exact nx.kp a (.inr ⟨ha, hg⟩)
      | some o => rw [R'.sub _ _ (nx.gr _ _ hg), R.sub _ _ hg]
  · have ht : (μ' ++ μ.drop n).length = μ.length := by rw [List.length_append, hl, List.length_drop]; omega
    rw [ht]
    rcases List.mem_append.mp hm with h | h
    · exact below_mono hn (by have := R'.wf m h; rwa [hl] at this)
    · exact R.wf m (List.mem_of_mem_drop h)
  · obtain ⟨v, h1, h2⟩ := R.env i w hi
    exact ⟨v, h1, h2.mono nx.gr ⟨[], by simp⟩⟩
theorem call_fx {f : FX} {ws : List W} {vs : List V} {w : W} {μ1 : Mu} {Q : VK} {E : XK} (R : Rl K G H as P ρ μ σ) (r : RepWs K G as ws vs) (h : callX f ws μ = some (w, μ1))
    (q : ∀ v as' G' H', Nx P as G H as' G' H' → Rl K G' H' as' P ρ μ1 σ → RepW K G' as' w v → Q v H') : spF K f vs H Q E := by
  unfold callX at h
  split at h
  · rename_i w' μ' e
    obtain ⟨hn, hb⟩ := preN_ok R ws
    split at h
    · rename_i hl
      cases h
      have R1 := front R hn hb
      refine ⟨_, _, G, ws, _, w, μ', e, R1.args (preN_rep R r), fun v as' G' H' n R' rv => ?_⟩
      obtain ⟨ea, n2, R2⟩ := back R hn n R' hl
      exact q v as G' H' n2 R2 (rv.mono (Same.refl _) ⟨as.drop (preN ws μ), by rw [ea, List.take_append_drop]⟩)
    · exact call_phi (Φ := f.phi) R r h q
  · cases h
/-! ### f(..) -/
def mCall (f : FX) (dds : List D) (a : RA) : RE := fun ρ μ => match a ρ μ with
  | some (ws, μ1) => callX f (ws ++ dds.map W.val) μ1
  | none => none
theorem sn_call {f : FX} {dds : List D} {dvs : List V} {E : XK} {ta : TA} {a : RA} (ha : SnA K ta a) (hd : Dfl K dds dvs) : SnE K (tCall (spF K f) dvs E ta) (mCall f dds a) := fun ρ μ w μ' h => by
  unfold mCall at h
  split at h
  · exact fun P as σ G H R Q q => ha _ _ _ _ ‹_› P as σ G H R _ fun vs as1 G1 H1 n1 R1 r1 => call_fx R1 (r1.append (RepWs.vals.mpr (hd G1))) h fun v as2 G2 H2 n2 R2 r2 => q v as2 G2 H2 (n1.trans n2) R2 r2
  · cases h
/-! ### o.m(..) -/
def recvOk (c m : Str) (μ : Mu) : W → Bool
  | .val (.obj c' ns _) => decide (c' = c) && !ns.contains m
  | .loc j => match μ[j]? with
    | some (.ins c' fs) => decide (c' = c) && (fs.lookup m).isNone
    | _ => false
  | _ => false
theorem recv_rep {c m : Str} {w : W} {v : V} (R : Rl K G H as P ρ μ σ) (r : RepW K G as w v) (h : recvOk c m μ w = true) : ∃ a dx fs, v = .ref a ∧ H a = some (.ins (He.ga K c) dx fs) ∧ fs.lookup m = none := by
  unfold recvOk at h
  split at h
  · rename_i c' ns os
    rw [Bool.and_eq_true] at h
    have ec := of_decide_eq_true h.1
    subst ec
    obtain ⟨_, a, dx, vs, e, g, hl, rl⟩ := r
    refine ⟨a, dx, _, e, R.sub _ _ g, ?_⟩
    have hc : ns.contains m = false := by
      have := h.2
      cases z : ns.contains m <;> rw [z] at this <;> first | rfl | cases this
    exact lookup_zip_none hc
  · rename_i j
    split at h
    · rename_i c' fs hj
      rw [Bool.and_eq_true] at h
      have ec := of_decide_eq_true h.1
      subst ec
      obtain ⟨a, ha, ev⟩ := r
      obtain ⟨g, z, dx, vs, hh, rf⟩ := R.mu j a _ ha hj
      exact ⟨a, dx, vs, ev, hh, lookup_fs rf (Option.isNone_iff_eq_none.mp h.2)⟩
    · cases h
  · cases h
def mMeth (c m : Str) (f : FX) (dds : List D) (o : RE) (a : RA) : RE := fun ρ μ => match o ρ μ with
  | some (w, μ1) => if recvOk c m μ1 w = true then match a ρ μ1 with
    | some (ws, μ2) => callX f (w :: (ws ++ dds.map W.val)) μ2
    | none => none
    else none
  | none => none
theorem sn_meth {c m : Str} {f : FX} {dds : List D} {dvs : List V} {E : XK} {to : TE} {ta : TA} {o : RE} {a : RA} (ho : SnE K to o) (ha : SnA K ta a) (hd : Dfl K dds dvs) : SnE K (tMeth (He.ga K c) m (spF K f) dvs E to ta) (mMeth c m f dds o a) := fun ρ μ w μ' h => by
  unfold mMeth at h
  split at h
  · rename_i x μ1 e1
    split at h
    · rename_i hr
      split at h
      · rename_i ws μ2 e2
        exact fun P as σ G H R Q q => ho _ _ _ _ e1 P as σ G H R _ fun v as1 G1 H1 n1 R1 r1 => by
          obtain ⟨a', dx, fs, ev, hh, hl⟩ := recv_rep R1 r1 hr
          refine ⟨a', dx, fs, ev, hh, hl, ?_⟩
          refine ha _ _ _ _ e2 P as1 σ G1 H1 R1 _ fun us as2 G2 H2 n2 R2 r2 => ?_
          exact call_fx (ws := x :: (ws ++ dds.map W.val)) R2 ⟨v, _, rfl, r1.mono n2.gr n2.pre, r2.append (RepWs.vals.mpr (hd G2))⟩ h fun v as3 G3 H3 n3 R3 r3 => q v as3 G3 H3 ((n1.trans n2).trans n3) R3 r3
      · cases h
    · cases h
  · cases h
/-! ### fields -/
def mFld (c f : Str) (o : RE) : RE := fun ρ μ => match o ρ μ with
  | some (.val (.obj c' ns ds), μ1) => if c' = c then match ds[fpos f ns]? with
    | some d => some (.val d, μ1)
    | none => none
    else none
  | some (.loc j, μ1) => match μ1[j]? with
    | some (.ins c' fs) => if c' = c then match fs.lookup f with
      | some w => some (w, μ1)
      | none => none
      else none
    | _ => none
  | _ => none
theorem sn_fld {c f : Str} {to : TE} {o : RE} (hc : Cls K (He.ga K c)) (hn : NoAttr K (He.ga K c) f) (ho : SnE K to o) : SnE K (tFld K to f) (mFld c f o) := fun ρ μ w μ' h => by
  unfold mFld at h
  split at h
  · rename_i c' ns ds μ1 e1
    split at h
    · rename_i ec
      subst ec
      split at h
      · cases h; exact ev_fld (ho _ _ _ _ e1) hn ‹_›
      · cases h
    · cases h
  · rename_i j μ1 e1
    split at h
    · rename_i c' fs hj
      split at h
      · rename_i ec
        subst ec
        split at h
        · cases h; exact ev_fldM (ho _ _ _ _ e1) hj hc hn ‹_›
        · cases h
      · cases h
    · cases h
  · cases h
/-- o.f = e -/
def mFldS (c f : Str) (o e : RE) : RS := fun ρ μ => match e ρ μ with
  | some (w, μ1) => match o ρ μ1 with
    | some (.loc j, μ2) => match μ2[j]? with
      | some (.ins c' fs) => if c' = c ∧ fs.length < 100 ∧ w.below μ2.length = true then some (.nx ρ (μ2.set j (.ins c (putW f w fs)))) else none
      | _ => none
    | _ => none
  | none => none
theorem sn_fldS {c f : Str} {to te : TE} {o e : RE} (hc : Cls K (He.ga K c)) (hn : NoAttr K (He.ga K c) f) (ho : SnE K to o) (he : SnE K te e) : SnS K (sFld K to te f) (mFldS c f o e) := fun ρ μ r h => by
  unfold mFldS at h
  split at h
  · rename_i w μ1 e1
    split at h
    · rename_i j μ2 e2
      split at h
      · rename_i c' fs hj
        split at h
        · rename_i hk
          cases h
          obtain ⟨ec, hz, hw⟩ := hk
          subst ec
          exact ex_fld (he _ _ _ _ e1) (ho _ _ _ _ e2) hj hc hn hz hw
        · cases h
      · cases h
    · cases h
  · cases h
/-! ### C(..) -/
def valsOf : List (Str × W) → Option (List Str × List D)
  | [] => some ([], [])
  | (f, .val d) :: r => match valsOf r with
    | some (ns, ds) => some (f :: ns, d :: ds)
    | none => none
  | _ => none
theorem valsOf_eq : ∀ {fs : List (Str × W)} {ns : List Str} {ds : List D}, valsOf fs = some (ns, ds) → fs = ns.zip (ds.map W.val) ∧ ns.length = ds.length
  | [], ns, ds, h => by cases h; exact ⟨rfl, rfl⟩
  | (f, .val d) :: r, ns, ds, h => by
    unfold valsOf at h
    split at h
    · rename_i ns' ds' e
      cases h
      obtain ⟨e1, e2⟩ := valsOf_eq e
      rw [e1]
      exact ⟨rfl, by simp [e2]⟩
    · cases h
  | (f, .loc j) :: r, _, _, h => by cases h
/-- an instance that never changes -/
def makeX (c : Str) (f : FX) (ws : List W) (μ : Mu) : Option (W × Mu) := match f (.loc (preN ws μ) :: ws) (μ.take (preN ws μ) ++ [.ins c []]) with
  | some (.val .non, μ') => match μ'.drop (preN ws μ) with
    | [.ins c' fs] => if c' = c ∧ (μ'.take (preN ws μ)).all (MO.below (preN ws μ)) = true ∧ (μ'.take (preN ws μ)).length = preN ws μ then match valsOf fs with
      | some (ns, ds) => some (.val (.obj c ns ds), μ'.take (preN ws μ) ++ μ.drop (preN ws μ))
      | none => none
      else none
    | _ => none
  | _ => none
theorem Rl.weakP {P' : Addr → Prop} (R : Rl K G H as P' ρ μ σ) (h : ∀ a, P a → P' a) : Rl K G H as P ρ μ σ := R.weak h
theorem make_fx {c : Str} {f : FX} {ws : List W} {vs : List V} {w : W} {μ1 : Mu} {Q : VK} {E : XK} (R : Rl K G H as P ρ μ σ) (r : RepWs K G as ws vs) (ck : ClsOk K (He.ga K c)) (h : makeX c f ws μ = some (w, μ1))
    (q : ∀ v as' G' H', Nx P as G H as' G' H' → Rl K G' H' as' P ρ μ1 σ → RepW K G' as' w v → Q v H') : ∀ x dx, H x = none → H dx = none → dx ≠ x →
      spF K f (.ref x :: vs) (upd (upd H dx (.own x)) x (.ins (He.ga K c) dx [])) (fun v H2 => v = .non ∧ Q (.ref x) H2) E := by
  intro x dx hx hdx ne
  unfold makeX at h
  split at h
  · rename_i μ' e
    split at h
    · rename_i c' fs hd
      split at h
      · rename_i hc
        obtain ⟨ec, hb', hl'⟩ := hc
        subst ec
        split at h
        · rename_i ns ds hv
          cases h
          obtain ⟨ef, hlen⟩ := valsOf_eq hv
          obtain ⟨hn, hb⟩ := preN_ok R ws
          obtain ⟨R1, n1⟩ := R.junk hdx (.own x)
          have rA := preN_rep R r
          generalize preN ws μ = n at *
          have F := front R1 hn hb
          have hx1 : upd H dx (.own x) x = none := by rw [upd_ne (Ne.symm ne)]; exact hx
          have la : (as.take n).length = n := by rw [List.length_take, R.len]; omega
          have lm : (μ.take n).length = n := by rw [List.length_take]; omega
          obtain ⟨R2, n2⟩ := F.mut (m := .ins c' []) (o := .ins (He.ga K c') dx []) hx1 ⟨F.sub.free hx1, Nat.zero_le _, dx, [], upd_same, rfl⟩ rfl
          have hx2 : ((as.take n) ++ [x])[n]? = some x := by
            rw [List.getElem?_append_right (by rw [la]; exact Nat.le_refl _), la]
            simp
          have rB : RepWs K G (as.take n ++ [x]) (.loc n :: ws) (.ref x :: vs) := ⟨.ref x, vs, rfl, ⟨x, hx2, rfl⟩, RepWs.mono (Same.refl _) ⟨[x], rfl⟩ rA⟩
          refine ⟨_, _, G, .loc n :: ws, _, .val .non, μ', e, R2.args rB, fun v as3 G3 H3 n3 R3 r3 => ⟨r3, ?_⟩⟩
          have em : μ' = μ'.take n ++ [.ins c' (ns.zip (ds.map W.val))] := by
            rw [← ef, ← hd, List.take_append_drop]
          have l3 : as3 = as.take n ++ [x] := by
            obtain ⟨t, et⟩ := n3.pre
            have h1 := R3.len
            have h2 : μ'.length = n + 1 := by
              have h3 := congrArg List.length em
              rw [List.length_append, hl'] at h3
              exact h3
            rw [h2, et, List.length_append, List.length_append, la] at h1
            have h4 : n + 1 + t.length = n + 1 := h1
            have : t = [] := List.eq_nil_of_length_eq_zero (by omega)
            rw [et, this, List.append_nil]
          rw [em] at R3
          have wf0 : ∀ m : MO, m ∈ μ'.take n → m.below (μ'.take n).length = true := fun m hm => by rw [hl']; exact List.all_eq_true.mp hb' m hm
          obtain ⟨G4, s4, R4, r4⟩ := Rl.settle R3 hlen wf0 l3 (fun i w hi => by simp at hi) ck
          have nn : Nx (Rest P as G n) (as.take n) G (upd H dx (.own x)) (as.take n) G4 H3 := by
            refine ⟨⟨[], by simp⟩, (n2.trans n3).gr.trans s4, (n2.trans n3).kp⟩
          obtain ⟨_, n5, R5⟩ := back R1 hn nn R4 hl'
          exact q _ as G4 H3 (n1.trans n5) R5 r4
        · cases h
      · cases h
    · cases h
  · cases h
def mMake (c : Str) (f : FX) (dds : List D) (a : RA) : RE := fun ρ μ => match a ρ μ with
  | some (ws, μ1) => makeX c f (ws ++ dds.map W.val) μ1
  | none => none
theorem sn_make {c : Str} {f : FX} {dds : List D} {dvs : List V} {E : XK} {ta : TA} {a : RA} (ck : ClsOk K (He.ga K c)) (ha : SnA K ta a) (hd : Dfl K dds dvs) : SnE K (tMake (He.ga K c) (spF K f) dvs E ta) (mMake c f dds a) := fun ρ μ w μ' h => by
  unfold mMake at h
  split at h
  · exact fun P as σ G H R Q q => ha _ _ _ _ ‹_› P as σ G H R _ fun vs as1 G1 H1 n1 R1 r1 => make_fx R1 (r1.append (RepWs.vals.mpr (hd G1))) ck h fun v as2 G2 H2 n2 R2 r2 => q v as2 G2 H2 (n1.trans n2) R2 r2
  · cases h
/-- an instance of the store -/
def mMakeM (c : Str) (f : FX) (dds : List D) (a : RA) : RE := fun ρ μ => match a ρ μ with
  | some (ws, μ1) => match f (.loc μ1.length :: (ws ++ dds.map W.val)) (μ1 ++ [.ins c []]) with
    | some (.val .non, μ2) => some (.loc μ1.length, μ2)
    | _ => none
  | none => none
theorem sn_makeM {c : Str} {f : FX} {dds : List D} {dvs : List V} {E : XK} {ta : TA} {a : RA} (ha : SnA K ta a) (hd : Dfl K dds dvs) : SnE K (tMake (He.ga K c) (spF K f) dvs E ta) (mMakeM c f dds a) := fun ρ μ w μ' h => by
  unfold mMakeM at h
  split at h
  · rename_i ws μ1 e1
    split at h
    · rename_i μ2 e2
      cases h
      exact fun P as σ G H R Q q => ha _ _ _ _ e1 P as σ G H R _ fun vs as1 G1 H1 n1 R1 r1 x dx hx hdx ne => by
        obtain ⟨R2, n2⟩ := R1.junk hdx (.own x)
        have hx1 : upd H1 dx (.own x) x = none := by rw [upd_ne (Ne.symm ne)]; exact hx
        obtain ⟨R3, n3⟩ := R2.mut (m := .ins c []) (o := .ins (He.ga K c) dx []) hx1 ⟨R2.sub.free hx1, Nat.zero_le _, dx, [], upd_same, rfl⟩ rfl
        have hx2 : (as1 ++ [x])[μ1.length]? = some x := by
          rw [← R1.len, List.getElem?_append_right (Nat.le_refl _)]
          simp
        refine call_phi (Φ := f.phi) (ws := .loc μ1.length :: (ws ++ dds.map W.val)) R3 ⟨.ref x, _, rfl, ⟨x, hx2, rfl⟩, RepWs.mono (Same.refl _) ⟨[x], rfl⟩ (r1.append (RepWs.vals.mpr (hd G1)))⟩ e2 fun v as4 G4 H4 n4 R4 r4 => ?_
        exact ⟨r4, q _ as4 G4 H4 (((n1.trans n2).trans n3).trans n4) R4 ⟨x, at_pre n4.pre hx2, rfl⟩⟩
    · cases h
  · cases h
/-! ### a def's body -/
def frzRet (fz : Bool) (n : Nat) (w : W) (μ : Mu) : W × Mu := match fz, w with
  | true, .loc j => if j < n then (w, μ) else match frz1 μ (.loc j) with
    | some (d, μ1) => (.val d, μ1)
    | none => (w, μ)
  | _, _ => (w, μ)
def exitF (fz : Bool) (n : Nat) (w : W) (μ : Mu) : Option (W × Mu) := match frzRet fz n w μ with
  | (w1, μ1) => if n ≤ μ1.length then
      if w1.below n = true ∧ (μ1.take n).all (MO.below n) = true then some (w1, μ1.take n)
      else if w1.below μ1.length = true ∧ μ1.all (MO.below μ1.length) = true then some (w1, μ1) else none
    else none
def start (n : Nat) (ws : List W) : Env' := ws.map some ++ List.replicate (n - ws.length) none
def bodyF (fz : Bool) (k n : Nat) (m : RS) : FX := fun ws μ => if ws.length = k then match m (start n ws) μ with
  | some (.rt w μ1) => exitF fz μ.length w μ1
  | some (.nx _ μ1) => exitF fz μ.length (.val .non) μ1
  | _ => none
  else none
theorem ln_body {fz : Bool} {k n : Nat} {m : RS} {vs : List V} {H : Hp} {Q : VK} {E : XK} (h : spF K (bodyF fz k n m) vs H Q E) : vs.length = k := by
  obtain ⟨P, as, G, ws, μ, w, μ', hf, R, _⟩ := h
  have hz : ws.length = vs.length := by simpa using R.sz
  unfold FX.phi bodyF at hf
  split at hf
  · omega
  · cases hf
theorem frzRet_ok {fz : Bool} {n : Nat} {t : TS} {w w1 : W} {μ0 μ1 : Mu} (h : Ex K t ρ μ0 (.rt w μ)) (e : frzRet fz n w μ = (w1, μ1)) : Ex K t ρ μ0 (.rt w1 μ1) := by
  unfold frzRet at e
  split at e
  · split at e
    · cases e; exact h
    · split at e
      · rename_i hf
        cases e
        exact fun P as σ G H R E q => h P as σ G H R E fun v as' G' H' n' R' r' => by
          obtain ⟨G2, n2, R2, r2⟩ := frz1_ok R' r' hf
          exact q v as' G2 H' (n'.trans n2) R2 r2
      · cases e; exact h
  · cases e; exact h
theorem frzRet_non {fz : Bool} {n : Nat} : frzRet fz n (.val .non) μ = (.val .non, μ) := by
  unfold frzRet
  cases fz <;> rfl
theorem exit_ok {fz : Bool} {n : Nat} {w w' : W} {μ1 μ' : Mu} (h : exitF fz n w μ1 = some (w', μ')) : ∃ (μ2 : Mu), frzRet fz n w μ1 = (w', μ2) ∧ ∃ tail : Mu, n ≤ μ'.length ∧ w'.below μ'.length = true ∧ (∀ m : MO, m ∈ μ' → m.below μ'.length = true) ∧ μ2 = μ' ++ tail := by
  unfold exitF at h
  split at h
  rename_i w1 μ2 e
  split at h
  · rename_i hn
    split at h
    · rename_i hc
      cases h
      have hl : (μ2.take n).length = n := by rw [List.length_take]; omega
      refine ⟨μ2, e, μ2.drop n, by rw [hl]; exact Nat.le_refl _, by rw [hl]; exact hc.1, fun m hm => by rw [hl]; exact List.all_eq_true.mp hc.2 m hm, (List.take_append_drop n μ2).symm⟩
    · split at h
      · rename_i hc
        cases h
        exact ⟨_, e, [], hn, hc.1, List.all_eq_true.mp hc.2, by simp⟩
      · cases h
  · cases h
theorem fn_body {fz : Bool} {k n : Nat} {t : TS} {m : RS} (hm : SnS K t m) : FnD K t n (bodyF fz k n m).phi := ⟨fun ws μ w μ' h wf => by
  unfold FX.phi bodyF at h
  split at h
  case isFalse => cases h
  split at h
  · rename_i w0 μ1 e
    obtain ⟨μ2, e2, tail, h1, h2, h3, h4⟩ := exit_ok h
    refine ⟨tail, h1, h2, h3, .inl ?_⟩
    have := frzRet_ok (hm _ _ _ e) e2
    rw [h4] at this
    exact this
  · rename_i ρ1 μ1 e
    obtain ⟨μ2, e2, tail, h1, h2, h3, h4⟩ := exit_ok h
    rw [frzRet_non] at e2
    cases e2
    refine ⟨tail, h1, h2, h3, .inr ⟨rfl, ρ1, ?_⟩⟩
    have := hm _ _ _ e
    rw [h4] at this
    exact this
  · cases h⟩
end
end DX

/-! DXH: expressions without the store; comprehensions over dicts, with two fors, of sets; dicts of the store. -/
namespace DX
open PySem PySem.Spec PyProof.Rows L2 DK

section
variable {K : PySem.W.Frag} {G H : Hp} {as : List Addr} {P : Addr → Prop} {ρ : Env'} {μ : Mu} {σ : L2.St}
def valOnly (ρ : Env') : Env' := ρ.map fun w => match w with
  | some (.val d) => some (.val d)
  | _ => none
theorem front0 (R : Rl K G H as P ρ μ σ) : Rl K G H [] (Rest P as G 0) (valOnly ρ) [] σ := by
  have F := front R (n := 0) (Nat.zero_le _) (fun m hm => by simp at hm)
  rw [List.take_zero, List.take_zero] at F
  refine F.to (by unfold valOnly; rw [List.length_map]; exact R.sz) fun i w hi => ?_
  unfold valOnly at hi
  rw [List.getElem?_map] at hi
  cases e : ρ[i]? with
  | none => rw [e] at hi; cases hi
  | some o =>
    rw [e] at hi
    cases o with
    | none => cases hi
    | some w0 =>
      cases w0 with
      | loc j => cases hi
      | val d =>
        cases hi
        obtain ⟨v, h1, h2⟩ := R.env i _ e
        exact ⟨v, h1, h2⟩
theorem back0 (R : Rl K G H as P ρ μ σ) {as' : List Addr} {G' H' : Hp} (nx : Nx (Rest P as G 0) [] G H as' G' H') (R' : Rl K G' H' as' (Rest P as G 0) (valOnly ρ) [] σ) : Nx P as G H as G' H' ∧ Rl K G' H' as P ρ μ σ := by
  have n2 : Nx (Rest P as G 0) (as.take 0) G H as' G' H' := by rw [List.take_zero]; exact nx
  have := back R (n := 0) (Nat.zero_le _) n2 R'.nil rfl
  rw [List.nil_append, List.drop_zero] at this
  exact this.2
theorem ev_pure {te : TE} {d : D} (h : Ev K te (valOnly ρ) [] (.val d) []) : Ev K te ρ μ (.val d) μ := fun P as σ G H R Q q =>
  h _ [] σ G H (front0 R) Q fun v as' G' H' n' R' r' => by
    obtain ⟨n2, R2⟩ := back0 R n' R'
    exact q v as G' H' n2 R2 r'
theorem eb_pure {tt : TT} {b : Bool} (h : EvB K tt (valOnly ρ) [] b []) : EvB K tt ρ μ b μ := fun P as σ G H R Q q =>
  h _ [] σ G H (front0 R) Q fun as' G' H' n' R' => by
    obtain ⟨n2, R2⟩ := back0 R n' R'
    exact q as G' H' n2 R2
/-- a value without the store -/
def pv1 (e : RE) (ρ : Env') : Option D := match e (valOnly ρ) [] with
  | some (.val d, []) => some d
  | _ => none
theorem pv1_ok {te : TE} {e : RE} {d : D} (he : SnE K te e) (h : pv1 e ρ = some d) : Ev K te ρ μ (.val d) μ := by
  unfold pv1 at h
  split at h
  · cases h; exact ev_pure (he _ _ _ _ ‹_›)
  · cases h
def pb1 (t : RB) (ρ : Env') : Option Bool := match t (valOnly ρ) [] with
  | some (b, []) => some b
  | _ => none
theorem pb1_ok {tt : TT} {t : RB} {b : Bool} (ht : SnB K tt t) (h : pb1 t ρ = some b) : EvB K tt ρ μ b μ := by
  unfold pb1 at h
  split at h
  · cases h; exact eb_pure (ht _ _ _ _ ‹_›)
  · cases h
def lcP (g : RG) (t : RB) (e : RE) (ρ : Env') : List D → Option (List D)
  | [] => some []
  | x :: xs => match g (.val x) ρ with
    | some ρ1 => match pb1 t ρ1 with
      | some false => lcP g t e ρ xs
      | some true => match pv1 e ρ1 with
        | some y => match lcP g t e ρ xs with
          | some ys => some (y :: ys)
          | none => none
        | none => none
      | none => none
    | none => none
theorem lcP_ok {g : TG} {tt : TT} {te : TE} {m : RG} {t : RB} {e : RE} {vs : List Nat} {C : Mu → Prop} (hC : C μ) (hg : SnGc K g m vs) (ht : SnB K tt t) (he : SnE K te e) : ∀ {xs ys : List D}, lcP m t e ρ xs = some ys → Lc K g tt te vs C ρ xs μ ys μ
  | [], ys, h => by cases h; exact .nil
  | x :: xs, ys, h => by
    unfold lcP at h
    split at h
    · rename_i ρ1 e1
      have h1 := hg _ _ _ e1
      split at h
      · exact .skip h1 (pb1_ok ht ‹_›) hC (lcP_ok hC hg ht he h)
      · split at h
        · split at h
          · cases h
            exact .take h1 (pb1_ok ht ‹_›) (pv1_ok he ‹_›) hC (lcP_ok hC hg ht he ‹_›)
          · cases h
        · cases h
      · cases h
    · cases h
/-! ### [e for k in d] -/
def mLcKeys (i : Nat) (g : RG) (t : RB) (e : RE) (vs : List Nat) : RE := fun ρ μ => match ρ[i]? with
  | some (some (.loc j)) => match μ[j]? with
    | some (.dK kvs) => if (kvs.all fun kv => match kv.1 with | .inl _ => true | .inr s => sOkB s) = true ∧ kvs.length ≤ LB then match lcP g t e (wipeE ρ vs) (kvs.map fun kv => keyD kv.1) with
      | some ys => some (.val (.lst ys), μ)
      | none => none
      else none
    | _ => none
  | _ => none
theorem sn_lcKeys {i : Nat} {g : TG} {tt : TT} {te : TE} {m : RG} {t : RB} {e : RE} {vs : List Nat} (hg : SnGc K g m vs) (ht : SnB K tt t) (he : SnE K te e) : SnE K (tLockE (tLc (iKeys (tVar i)) g tt te vs)) (mLcKeys i m t e vs) := fun ρ μ w μ' h => by
  unfold mLcKeys at h
  split at h
  · rename_i j hi
    split at h
    · rename_i kvs hj
      split at h
      · rename_i hc
        split at h
        · rename_i ys hy
          cases h
          refine ev_lcKeys (fun μ0 => ev_var hi) hj (fun k hk s hs => ?_) (fun o C hC => lcP_ok hC hg ht he hy) hc.2
          have := List.all_eq_true.mp hc.1 k hk
          rw [hs] at this
          exact sOkB_ok this
        · cases h
      · cases h
    · cases h
  · cases h
/-! ### two fors -/
def lc2P (g : RG) (t : RB) (i1 : RI) (g1 : RG) (t1 : RB) (e : RE) (vs1 : List Nat) (ρ : Env') : List D → Option (List D)
  | [] => some []
  | x :: xs => match g (.val x) ρ with
    | some ρ1 => match pb1 t ρ1 with
      | some false => lc2P g t i1 g1 t1 e vs1 ρ xs
      | some true => match i1 (valOnly ρ1) [] with
        | some (us, none, []) => match lcP g1 t1 e (wipeE ρ1 vs1) us with
          | some zs => match lc2P g t i1 g1 t1 e vs1 ρ xs with
            | some ys => some (zs ++ ys)
            | none => none
          | none => none
        | _ => none
      | none => none
    | none => none
theorem ei_pure {wi : TI} {us : List D} (h : EvI K wi (valOnly ρ) [] us [] CT) : EvI K wi ρ μ us μ CT := ⟨trivial, fun P as σ G H R Q q =>
  h.2 _ [] σ G H (front0 R) Q fun J as' G' H' n' R' it => by
    obtain ⟨n2, R2⟩ := back0 R n' R'
    have e0 : as' = [] := by
      have := R'.len
      exact List.eq_nil_of_length_eq_zero this
    subst e0
    refine q J as G' H' n2 R2 ?_
    intro i P2 as2 ρ2 μ2 σ2 G2 H2 s2 p2 c2 R3
    exact it i P2 as2 ρ2 μ2 σ2 G2 H2 s2 ⟨as2, by simp⟩ trivial R3⟩
theorem lc2P_ok {g g1 : TG} {tt tt1 : TT} {te : TE} {wi1 : TI} {m m1 : RG} {t t1 : RB} {i1 : RI} {e : RE} {vs vs1 : List Nat} (hg : SnGc K g m vs) (ht : SnB K tt t) (hi : SnI K wi1 i1) (hg1 : SnGc K g1 m1 vs1) (ht1 : SnB K tt1 t1) (he : SnE K te e) : ∀ {xs ys : List D}, lc2P m t i1 m1 t1 e vs1 ρ xs = some ys → Lc2 K g tt wi1 g1 tt1 te vs vs1 ρ μ xs ys
  | [], ys, h => by cases h; exact .nil
  | x :: xs, ys, h => by
    unfold lc2P at h
    split at h
    · rename_i ρ1 e1
      have h1 := hg _ _ _ e1
      split at h
      · exact .skip h1 (pb1_ok ht ‹_›) (lc2P_ok hg ht hi hg1 ht1 he h)
      · split at h
        · rename_i us e2
          split at h
          · rename_i zs e3
            split at h
            · cases h
              exact .take h1 (pb1_ok ht ‹_›) (ei_pure (hi _ _ _ _ _ e2)) (lcP_ok trivial hg1 ht1 he e3) (lc2P_ok hg ht hi hg1 ht1 he ‹_›)
            · cases h
          · cases h
        · cases h
      · cases h
    · cases h
def mLc2 (i : RI) (g : RG) (t : RB) (i1 : RI) (g1 : RG) (t1 : RB) (e : RE) (vs vs1 : List Nat) : RE := fun ρ μ => match i (valOnly ρ) [] with
  | some (xs, none, []) => match lc2P g t i1 g1 t1 e vs1 (wipeE ρ vs) xs with
    | some ys => if ys.length ≤ LB then some (.val (.lst ys), μ) else none
    | none => none
  | _ => none
theorem sn_lc2 {g g1 : TG} {tt tt1 : TT} {te : TE} {wi wi1 : TI} {m m1 : RG} {t t1 : RB} {i i1 : RI} {e : RE} {vs vs1 : List Nat} (hi : SnI K wi i) (hg : SnGc K g m vs) (ht : SnB K tt t) (hi1 : SnI K wi1 i1) (hg1 : SnGc K g1 m1 vs1) (ht1 : SnB K tt1 t1) (he : SnE K te e) : SnE K (tLc2 wi g tt wi1 g1 tt1 te vs vs1) (mLc2 i m t i1 m1 t1 e vs vs1) := fun ρ μ w μ' h => by
  unfold mLc2 at h
  split at h
  · split at h
    · split at h
      · cases h
        exact ev_lc2 (ei_pure (hi _ _ _ _ _ ‹_›)) (lc2P_ok hg ht hi1 hg1 ht1 he ‹_›) ‹_›
      · cases h
    · cases h
  · cases h
/-! ### sorted of a set of texts -/
def mSetSort (i : RI) (g : RG) (t : RB) (e : RE) (vs : List Nat) : RE := fun ρ μ => match i (valOnly ρ) [] with
  | some (xs, none, []) => match lcP g t e (wipeE ρ vs) xs with
    | some ys => match sOf ys with
      | some ss => if ss.length < 64 then some (.val (.lst ((srtU ss).map D.str)), μ) else none
      | none => none
    | none => none
  | _ => none
theorem sn_setSort {wd : World} {g : TG} {tt : TT} {te : TE} {wi : TI} {m : RG} {t : RB} {i : RI} {e : RE} {vs : List Nat} (hi : SnI K wi i) (hg : SnGc K g m vs) (ht : SnB K tt t) (he : SnE K te e) : SnE K (tCB (rSetSorted wd) (tCons (tScS wd wi g tt te vs) tNil)) (mSetSort i m t e vs) := fun ρ μ w μ' h => by
  unfold mSetSort at h
  split at h
  · split at h
    · rename_i ys hy
      split at h
      · rename_i ss hs
        split at h
        · cases h
          have e := sOf_eq hs
          subst e
          exact ev_setSorted (ei_pure (hi _ _ _ _ _ ‹_›)) (lcP_ok trivial hg ht he hy) ‹_›
        · cases h
      · cases h
    · cases h
  · cases h
end
end DX

/-! DXI: dicts of the store, repr, index, reversed slices. -/
namespace DX
open PySem PySem.Spec PyProof.Rows L2 DK

section
variable {K : PySem.W.Frag}
def keyOf : D → Option Key
  | .int n => some (.inl n)
  | .str s => some (.inr s)
  | _ => none
theorem keyOf_eq {d : D} {k : Key} (h : keyOf d = some k) : d = keyD k := by
  cases d <;> cases h <;> rfl
def dcR (g : RG) (t : RB) (ek ev : RE) (c : Option (Nat × List D)) (ρ : Env') : List D → Mu → List (Key × D) → Option (List (Key × D) × Mu)
  | [], μ, acc => some (acc, μ)
  | x :: xs, μ, acc => match g (.val x) ρ with
    | some ρ1 => match t ρ1 μ with
      | some (false, μ1) => if standB c μ1 = true then dcR g t ek ev c ρ xs μ1 acc else none
      | some (true, μ1) => match dat1 ek ρ1 μ1 with
        | some (kd, μ2) => match keyOf kd with
          | some k => match dat1 ev ρ1 μ2 with
            | some (y, μ3) => if standB c μ3 = true then dcR g t ek ev c ρ xs μ3 (putD acc k y) else none
            | none => none
          | none => none
        | none => none
      | none => none
    | none => none
theorem dcR_ok {g : TG} {tt : TT} {tk tv : TE} {m : RG} {t : RB} {ek ev : RE} {c : Option (Nat × List D)} {vs : List Nat} {ρ : Env'} (hg : SnGc K g m vs) (ht : SnB K tt t) (hk : SnE K tk ek) (hv : SnE K tv ev) : ∀ {xs : List D} {μ μ' : Mu} {acc out : List (Key × D)}, dcR m t ek ev c ρ xs μ acc = some (out, μ') → Dc K g tt tk tv vs (stand c) ρ xs μ acc μ' out
  | [], μ, μ', acc, out, h => by cases h; exact .nil
  | x :: xs, μ, μ', acc, out, h => by
    unfold dcR at h
    split at h
    · rename_i ρ1 e1
      have h1 := hg _ _ _ e1
      split at h
      · split at h
        · exact .skip h1 (ht _ _ _ _ ‹_›) (standB_ok ‹_›) (dcR_ok hg ht hk hv h)
        · cases h
      · split at h
        · rename_i kd μ2 e2
          split at h
          · rename_i k ek'
            split at h
            · rename_i y μ3 e3
              split at h
              · have q := dat1_ok hk e2
                rw [keyOf_eq ek'] at q
                exact .take h1 (ht _ _ _ _ ‹_›) q (dat1_ok hv e3) (standB_ok ‹_›) (dcR_ok hg ht hk hv h)
              · cases h
            · cases h
          · cases h
        · cases h
      · cases h
    · cases h
def mDc (i : RI) (g : RG) (t : RB) (ek ev : RE) (vs : List Nat) : RE := fun ρ μ => match i ρ μ with
  | some (xs, c, μ1) => if xs.length ≤ LB then match dcR g t ek ev c (wipeE ρ vs) xs μ1 [] with
    | some (out, μ2) => some (.loc μ2.length, μ2 ++ [.dK out])
    | none => none
    else none
  | none => none
theorem sn_dc {wi : TI} {g : TG} {tt : TT} {tk tv : TE} {i : RI} {m : RG} {t : RB} {ek ev : RE} {vs : List Nat} (hi : SnI K wi i) (hg : SnGc K g m vs) (ht : SnB K tt t) (hk : SnE K tk ek) (hv : SnE K tv ev) : SnE K (tDc wi g tt tk tv vs) (mDc i m t ek ev vs) := fun ρ μ w μ' h => by
  unfold mDc at h
  split at h
  · split at h
    · split at h
      · cases h; exact ev_dc (hi _ _ _ _ _ ‹_›) (dcR_ok hg ht hk hv ‹_›) ‹_›
      · cases h
    · cases h
  · cases h
/-- d[k] = v -/
def mDPut (td tk tv : RE) : RS := fun ρ μ => match dat1 tv ρ μ with
  | some (v, μ1) => match td ρ μ1 with
    | some (.loc j, μ2) => match dat1 tk ρ μ2 with
      | some (kd, μ3) => match keyOf kd with
        | some k => match μ3[j]? with
          | some (.dK kvs) => if kvs.length < LB then some (.nx ρ (μ3.set j (.dK (putD kvs k v)))) else none
          | _ => none
        | none => none
      | none => none
    | _ => none
  | none => none
theorem sn_dput {ta tb tc : TE} {a b c : RE} (ha : SnE K ta a) (hb : SnE K tb b) (hc : SnE K tc c) : SnS K (sDPut ta tb tc) (mDPut a b c) := fun ρ μ o h => by
  unfold mDPut at h
  split at h
  · rename_i v μ1 e1
    split at h
    · rename_i j μ2 e2
      split at h
      · rename_i kd μ3 e3
        split at h
        · rename_i k ek
          split at h
          · rename_i kvs hj
            split at h
            · cases h
              have q := dat1_ok hb e3
              rw [keyOf_eq ek] at q
              exact ex_dput (dat1_ok hc e1) (ha _ _ _ _ e2) q hj ‹_›
            · cases h
          · cases h
        · cases h
      · cases h
    · cases h
  · cases h
/-- d.pop(k, x), all without a change of the store -/
def mDPop2 (i : Nat) (b c : RE) : RE := fun ρ μ => match ρ[i]? with
  | some (some (.loc j)) => match pv1 b ρ, pv1 c ρ with
    | some kd, some d => match keyOf kd, μ[j]? with
      | some k, some (.dK kvs) => some (.val ((valD kvs k).getD d), μ.set j (.dK (dropD kvs k)))
      | _, _ => none
    | _, _ => none
  | _ => none
theorem sn_dpop2 {i : Nat} {tb tc : TE} {b c : RE} (hb : SnE K tb b) (hc : SnE K tc c) : SnE K (tDPop2 (tVar i) tb tc) (mDPop2 i b c) := fun ρ μ w μ' h => by
  unfold mDPop2 at h
  split at h
  · rename_i j hi
    split at h
    · rename_i kd d e1 e2
      split at h
      · rename_i k kvs ek hj
        cases h
        have q := pv1_ok (μ := μ) hb e1
        rw [keyOf_eq ek] at q
        exact ev_dpop2 (ev_var hi) q (pv1_ok hc e2) hj
      · cases h
    · cases h
  · cases h
/-! ### repr -/
def showsB (d : D) : Bool := pyOk d && (toPy d).showable && decide ((toPy d).depth ≤ 60) && strsIn d && decide (showCost d ≤ SB)
theorem showsB_ok {d : D} (h : showsB d = true) : Shows d := by
  unfold showsB at h
  simp only [Bool.and_eq_true, decide_eq_true_eq] at h
  exact ⟨h.1.1.1.1, h.1.1.1.2, h.1.1.2, h.1.2, h.2⟩
/-- repr(a) == repr(b), repr(a) != repr(b) -/
def mReprC (neg : Bool) (a b : RE) : RE := fun ρ μ => match a ρ μ with
  | some (x, μ1) => match view μ1 x with
    | some d => if showsB d = true then match b ρ μ1 with
      | some (y, μ2) => match view μ2 y with
        | some e => if showsB e = true then some (.val (.bl (neg ^^ decide ((toPy d).shown = (toPy e).shown))), μ2) else none
        | none => none
      | none => none
      else none
    | none => none
  | none => none
theorem reprC_core {ta tb : TE} {a b : RE} {neg : Bool} {r : R2} (hr : ∀ (x y : Str) H Q, Q (.bl (neg ^^ decide (x = y))) H → r (.str x) (.str y) H Q) (ha : SnE K ta a) (hb : SnE K tb b) : SnE K (tOp r (tCB (rRepr K) (tCons ta tNil)) (tCB (rRepr K) (tCons tb tNil))) (mReprC neg a b) := fun ρ μ w μ' h => by
  unfold mReprC at h
  split at h
  · rename_i x μ1 e1
    split at h
    · rename_i d v1
      split at h
      · rename_i k1
        split at h
        · rename_i y μ2 e2
          split at h
          · rename_i e v2
            split at h
            · rename_i k2
              cases h
              have s1 := showsB_ok k1
              have s2 := showsB_ok k2
              exact fun P as σ G H R Q q => ha _ _ _ _ e1 P as σ G H R _ fun x' as1 G1 H1 n1 R1 r1 => ⟨x', toPy d, rfl, dp_ofT R1.sub s1.py (view_rep R1 r1 v1), s1.sh, noDict d, s1.dp, Nat.le_trans (shown_le d s1.st s1.sh) s1.sz,
                hb _ _ _ _ e2 P as1 σ G1 H1 R1 _ fun y' as2 G2 H2 n2 R2 r2 => ⟨y', toPy e, rfl, dp_ofT R2.sub s2.py (view_rep R2 r2 v2), s2.sh, noDict e, s2.dp, Nat.le_trans (shown_le e s2.st s2.sh) s2.sz,
                  hr _ _ _ _ (q _ as2 G2 H2 (n1.trans n2) R2 rfl)⟩⟩
            · cases h
          · cases h
        · cases h
      · cases h
    · cases h
  · cases h
theorem sn_reprNe {ta tb : TE} {a b : RE} (ha : SnE K ta a) (hb : SnE K tb b) : SnE K (tOp (rNee K) (tCB (rRepr K) (tCons ta tNil)) (tCB (rRepr K) (tCons tb tNil))) (mReprC true a b) :=
  reprC_core (fun x y H Q q => .inl ⟨rfl, by
    rw [dec_congr (show V.str x = V.str y ↔ x = y from ⟨fun e => by injection e, fun e => by rw [e]⟩)]
    rw [Bool.true_xor] at q
    exact q⟩) ha hb
theorem sn_reprEq {ta tb : TE} {a b : RE} (ha : SnE K ta a) (hb : SnE K tb b) : SnE K (tOp (rEqq K) (tCB (rRepr K) (tCons ta tNil)) (tCB (rRepr K) (tCons tb tNil))) (mReprC false a b) :=
  reprC_core (fun x y H Q q => .inl ⟨rfl, by
    rw [dec_congr (show V.str x = V.str y ↔ x = y from ⟨fun e => by injection e, fun e => by rw [e]⟩)]
    rw [Bool.false_xor] at q
    exact q⟩) ha hb
/-! ### xs[::-1] -/
def mRev (a : RE) : RE := fun ρ μ => match dat1 a ρ μ with
  | some (.lst xs, μ1) => some (.val (.lst xs.reverse), μ1)
  | _ => none
theorem sn_rev {ta : TE} {a : RE} (ha : SnE K ta a) : SnE K (tRevL K ta) (mRev a) := fun ρ μ w μ' h => by
  unfold mRev at h
  split at h
  · cases h; exact ev_rev (dat1_ok ha ‹_›)
  · cases h
def mRevM (a : RE) : RE := fun ρ μ => match dat1 a ρ μ with
  | some (.lst xs, μ1) => some (.loc μ1.length, μ1 ++ [.lst xs.reverse])
  | _ => none
theorem sn_revM {ta : TE} {a : RE} (ha : SnE K ta a) : SnE K (tRevL K ta) (mRevM a) := fun ρ μ w μ' h => by
  unfold mRevM at h
  split at h
  · cases h; exact ev_revM (dat1_ok ha ‹_›)
  · cases h
/-! ### *xs in a display -/
theorem ea_star' {te : TE} {t : TA} {ρ : Env'} {μ μ1 μ2 : Mu} {w : W} {xs : List D} {ws : List W} (h : Ev K te ρ μ w μ1) (hw : SeqW μ1 w xs) (hr : EvA K t ρ μ1 ws μ2) : EvA K (StX.tStar K te t) ρ μ (xs.map W.val ++ ws) μ2 := fun P as σ G H R Q q =>
  h P as σ G H R _ fun v as1 G1 H1 n1 R1 r1 => by
    obtain ⟨a, vs, ev, hs, hr1, _⟩ := hw.size R1 r1
    refine ⟨a, vs, ev, hs.symm, hr P as1 σ G1 H1 R1 _ fun us as2 G2 H2 n2 R2 r2 => ?_⟩
    exact q _ as2 G2 H2 (n1.trans n2) R2 (RepWs.append (RepWs.vals.mpr (RepL.mono n2.gr _ _ hr1)) r2)
theorem sn_star {ta : TE} {tr : TA} {a : RE} {r : RA} (ha : SnE K ta a) (hr : SnA K tr r) : SnA K (StX.tStar K ta tr) (mStar a r) := fun ρ μ ws μ' h => by
  unfold mStar at h
  split at h
  · rename_i w μ1 e1
    split at h
    · rename_i xs hs
      split at h
      · rename_i ws2 μ2 e2
        cases h
        exact ea_star' (ha _ _ _ _ e1) (seqOf_W hs) (hr _ _ _ _ e2)
      · cases h
    · cases h
  · cases h
/-! ### chains -/
def mChain (f g : D → D → Option D) (a b c : RE) : RE := fun ρ μ => match dat1 a ρ μ with
  | some (x, μ1) => match dat1 b ρ μ1 with
    | some (y, μ2) => match f x y with
      | some (.bl true) => match dat1 c ρ μ2 with
        | some (z, μ3) => match g y z with
          | some (.bl l) => some (.val (.bl l), μ3)
          | _ => none
        | none => none
      | some (.bl false) => some (.val (.bl false), μ2)
      | _ => none
    | none => none
  | none => none
theorem sn_chain {r r' : R2} {f g : D → D → Option D} {ta tb tc : TE} {a b c : RE} (hf : OpV K r f) (hg : OpV K r' g) (ha : SnE K ta a) (hb : SnE K tb b) (hc : SnE K tc c) : SnE K (tChain r r' ta tb tc) (mChain f g a b c) := fun ρ μ w μ' h => by
  unfold mChain at h
  split at h
  · rename_i x μ1 e1
    split at h
    · rename_i y μ2 e2
      have h1 := dat1_ok ha e1
      have h2 := dat1_ok hb e2
      split at h
      · rename_i hk
        split at h
        · rename_i z μ3 e3
          have h3 := dat1_ok hc e3
          split at h
          · rename_i l hl
            cases h
            exact fun P as σ G H R Q q => h1 P as σ G H R _ fun x' as1 G1 H1 n1 R1 r1 => h2 P as1 σ G1 H1 R1 _ fun y' as2 G2 H2 n2 R2 r2 =>
              hf _ _ _ hk P as2 ρ _ σ G2 H2 x' y' R2 (repT_of R2.sub (Rep.mono n2.gr _ _ r1)) (repT_of R2.sub r2) _ fun u G3 H3 n3 R3 r3 => ⟨true, r3, iteT (h3 P as2 σ G3 H3 R3 _ fun z' as4 G4 H4 n4 R4 r4 =>
                hg _ _ _ hl P as4 ρ _ σ G4 H4 y' z' R4 (repT_of R4.sub (Rep.mono (n3.gr.trans n4.gr) _ _ r2)) (repT_of R4.sub r4) Q fun u G5 H5 n5 R5 r5 => q u as4 G5 H5 ((((n1.trans n2).trans n3).trans n4).trans n5) R5 r5)⟩
          · cases h
        · cases h
      · rename_i hk
        cases h
        exact fun P as σ G H R Q q => h1 P as σ G H R _ fun x' as1 G1 H1 n1 R1 r1 => h2 P as1 σ G1 H1 R1 _ fun y' as2 G2 H2 n2 R2 r2 =>
          hf _ _ _ hk P as2 ρ _ σ G2 H2 x' y' R2 (repT_of R2.sub (Rep.mono n2.gr _ _ r1)) (repT_of R2.sub r2) _ fun u G3 H3 n3 R3 r3 => ⟨false, r3, iteF (q _ as2 G3 H3 ((n1.trans n2).trans n3) R3 rfl)⟩
      · cases h
    · cases h
  · cases h
end
end DX

/-! DXJ: a comprehension whose list is changed later. -/
namespace DX
open PySem PySem.Spec L2 DK
section
variable {K : PySem.W.Frag} {ρ ρ1 ρ2 : Env'} {μ μ1 μ2 μ3 : Mu} {ta tb te tc : TE} {t u : TT} {w : W} {a b d : D} {r : R2} {i : Nat} {G H : Hp} {as : List Addr} {P : Addr → Prop} {σ : L2.St}
theorem rl_own {p : Addr} {xs : List D} {vs : List V} (R : Rl K G H as (fun a => P a ∨ a = p) ρ μ σ) (np : ∀ a, P a → a ≠ p) (hH : H p = some (.lst vs)) (hr : RepL K G xs vs) (hz : xs.length ≤ LB) : Rl K G H (as ++ [p]) P ρ (μ ++ [.lst xs]) σ := by
  obtain ⟨g, _, pin⟩ := R.pro p (.inr rfl)
  refine ⟨R.sub, fun a h => ?_, ?_, by simp [R.len], fun j a k h1 h2 => ?_, fun k hk => ?_, R.sz, fun i w h => ?_⟩
  · obtain ⟨h1, h2, h3⟩ := R.pro a (.inl h)
    refine ⟨h1, h2, fun z => ?_⟩
    rcases List.mem_append.mp z with z | z
    · exact h3 z
    · exact np a h (by simpa using z)
  · refine List.nodup_append.mpr ⟨R.nd, by simp, fun a ha b hb => ?_⟩
    have : b = p := by simpa using hb
    subst this
    exact fun z => pin (z ▸ ha)
  · by_cases q : j < as.length
    · rw [List.getElem?_append_left q] at h1
      rw [List.getElem?_append_left (R.len ▸ q)] at h2
      exact (R.mu j a k h1 h2).mono (Same.refl _) id rfl ⟨[p], rfl⟩
    · have hj : j = as.length := by
        have := (List.getElem?_eq_some_iff.mp h1).1
        simp at this
        omega
      subst hj
      rw [List.getElem?_append_right (Nat.le_refl _)] at h1
      rw [List.getElem?_append_right (by rw [R.len]; exact Nat.le_refl _)] at h2
      simp at h1
      rw [R.len] at h2
      simp at h2
      subst h1 h2
      exact ⟨g, hz, vs, hH, hr⟩
  · rw [List.length_append, List.length_singleton]
    rcases List.mem_append.mp hk with z | z
    · exact below_mono (Nat.le_succ _) (R.wf k z)
    · have : k = .lst xs := by simpa using z
      subst this
      rfl
  · obtain ⟨v, h1, h2⟩ := R.env i w h
    exact ⟨v, h1, h2.mono (Same.refl _) ⟨[p], rfl⟩⟩
theorem ev_lcM {wi : TI} {g : TG} {tt : TT} {vs : List Nat} {C : Mu → Prop} {xs ys : List D} (hi : EvI K wi ρ μ xs μ1 C) (h : Lc K g tt te vs C (wipeE ρ vs) xs μ1 ys μ2) (hz : xs.length ≤ LB) : Ev K (tLc wi g tt te vs) ρ μ (.loc μ2.length) (μ2 ++ [.lst ys]) := fun P as σ G H R Q q =>
  hi.2 P as σ G H R _ fun J as0 G0 H0 n0 R0 it => fun p hp => by
    have gp : G0 p = none := R0.sub.free hp
    have np : ∀ a, P a → a ≠ p := fun a ha z => (R0.pro a ha).2.1 (by rw [z]; exact hp)
    have pas : p ∉ as0 := fun z => R0.here z hp
    refine ⟨fun i m H' => m = xs.length - i ∧ i ≤ xs.length ∧ ∃ as' G' μ' acc done rest, ys = done ++ rest ∧ Nx P as G H as' G' H' ∧ (∃ t, as' = as0 ++ t) ∧ C μ' ∧ Same G0 G' ∧ Rl K G' H' as' (fun a => P a ∨ a = p) ρ μ' σ ∧ H' p = some (.lst acc) ∧ RepL K G' done acc ∧ Lc K g tt te vs C (wipeE ρ vs) (xs.drop i) μ' rest μ2 ∧ done.length ≤ i,
      ⟨xs.length, rfl, Nat.zero_le _, as0, G0, μ1, [], [], ys, rfl, ?_, ⟨[], by simp⟩, hi.1, Same.refl _, ?_, upd_same, rfl, h, Nat.le_refl _⟩, ?_⟩
    · exact ⟨n0.pre, n0.gr, fun a ha => by rw [upd_ne (np a ha)]; exact n0.kp a ha⟩
    · have R1 := (R0.mut (m := .gone) hp (o := .lst []) (by show upd H0 p _ p ≠ none; rw [upd_same]; simp) rfl).1
      have R2 : Rl K G0 (upd H0 p (.lst [])) as0 P ρ μ1 σ := by
        refine ⟨R1.sub, fun a ha => ?_, R0.nd, R0.len, fun j a m h1 h2 => ?_, R0.wf, R0.sz, R0.env⟩
        · obtain ⟨h1, h2, h3⟩ := R0.pro a ha
          exact ⟨h1, by rw [upd_ne (np a ha)]; exact h2, h3⟩
        · have z : a ≠ p := fun e => pas (e ▸ List.mem_of_getElem? h1)
          exact (R0.mu j a m h1 h2).mono (Same.refl _) id (upd_ne z) ⟨[], by simp⟩
      exact R2.guard gp (by rw [upd_same]; simp) pas
    rintro i m H' ⟨rfl, hi, as', G', μ', acc, done, rest, ey, n', a', c', s', R', hH, rl, l', dl⟩
    obtain ⟨go, stop⟩ := it i _ as' ρ μ' σ G' H' s' a' c' R'
    cases e : xs[i]? with
    | none =>
      have hd : xs.drop i = [] := List.drop_eq_nil_of_le (List.getElem?_eq_none_iff.mp e)
      rw [hd] at l'
      cases l'
      rw [List.append_nil] at ey
      subst ey
      refine .inl ⟨stop e, ?_⟩
      have hz' : ys.length ≤ LB := by
        have := List.getElem?_eq_none_iff.mp e
        omega
      have R3 : Rl K G' H' (as' ++ [p]) P ρ (μ2 ++ [.lst ys]) σ := rl_own R' np hH rl hz'
      refine q _ (as' ++ [p]) G' H' ⟨pre_tr n'.pre ⟨[p], rfl⟩, n'.gr, n'.kp⟩ R3 ⟨p, ?_, rfl⟩
      rw [← R'.len, List.getElem?_append_right (Nat.le_refl _)]
      simp
    | some d =>
      have hlt : i < xs.length := (List.getElem?_eq_some_iff.mp e).1
      have hd : xs.drop i = d :: xs.drop (i + 1) := by
        rw [List.drop_eq_getElem_cons hlt]
        have := (List.getElem?_eq_some_iff.mp e).2
        rw [this]
      obtain ⟨hgo, hy⟩ := go d e
      refine .inr ⟨hgo, _, fun H2 z => ⟨xs.length - (i + 1), by omega, z⟩, fun x H2 y => ?_⟩
      obtain ⟨G2, n2, R2, r2⟩ := hy x H2 y
      rw [hd] at l'
      have np2 : ∀ a, P a → P a ∨ a = p := fun a ha => .inl ha
      cases l' with
      | skip hg ht hC hl =>
        refine hg _ as' μ' _ G2 H2 x (R2.wipe vs) r2 _ fun σ3 R3 e3 => ⟨e3.trans wipe_wipe, ht _ as' σ3 G2 H2 R3 _ fun as4 G4 H4 n4 R4 => iteF ?_⟩
        refine ⟨rfl, hlt, as4, G4, _, acc, done, rest, ey, n'.trans ((n2.trans n4).weak np2), pre_tr a' n4.pre, hC, s'.trans (n2.gr.trans n4.gr), ?_, ?_, RepL.mono (n2.gr.trans n4.gr) _ _ rl, hl, Nat.le_succ_of_le dl⟩
        · exact R4.to R2.sz fun k w hk => by
            obtain ⟨v, h1, h2⟩ := R2.env k w hk
            exact ⟨v, h1, h2.mono n4.gr n4.pre⟩
        · exact (n4.kp p (.inr rfl)).trans ((n2.kp p (.inr rfl)).trans hH)
      | take hg ht hv hC hl =>
        rename_i yv ys' ρ1 μ1' μ2'
        refine hg _ as' μ' _ G2 H2 x (R2.wipe vs) r2 _ fun σ3 R3 e3 => ⟨e3.trans wipe_wipe, ht _ as' σ3 G2 H2 R3 _ fun as4 G4 H4 n4 R4 => iteT ?_⟩
        refine hv _ as4 σ3 G4 H4 R4 _ fun v5 as5 G5 H5 n5 R5 r5 => ?_
        have h5 : H5 p = some (.lst acc) := (n5.kp p (.inr rfl)).trans ((n4.kp p (.inr rfl)).trans ((n2.kp p (.inr rfl)).trans hH))
        have al : acc.length = done.length := rl.length
        refine ⟨acc, h5, by rw [al]; exact Nat.lt_of_lt_of_le (Nat.lt_of_le_of_lt dl hlt) (Nat.le_trans hz (by decide)), ?_⟩
        have ng := (n2.trans n4).trans n5
        refine ⟨rfl, hlt, as5, G5, _, acc ++ [v5], done ++ [_], _, by rw [ey, List.append_assoc]; rfl, ?_, pre_tr a' (n4.trans n5).pre, hC, s'.trans ng.gr, ?_, upd_same, (RepL.mono ng.gr _ _ rl).append (RepL.cons r5 RepL.nil), hl, by rw [List.length_append]; exact Nat.succ_le_succ dl⟩
        · have n6 := n'.trans (ng.weak np2)
          exact ⟨n6.pre, n6.gr, fun a ha => by rw [upd_ne (np a ha)]; exact n6.kp a ha⟩
        · have R6 : Rl K G5 H5 as5 (fun a => P a ∨ a = p) ρ μ2' σ := R5.to R2.sz fun k w hk => by
            obtain ⟨v, h1, h2⟩ := R2.env k w hk
            exact ⟨v, h1, h2.mono (n4.gr.trans n5.gr) (n4.trans n5).pre⟩
          exact R6.touch (.inr rfl) _
def mLcM (i : RI) (g : RG) (t : RB) (e : RE) (vs : List Nat) : RE := fun ρ μ => match i ρ μ with
  | some (xs, c, μ1) => if xs.length ≤ LB then match lcR g t e c (wipeE ρ vs) xs μ1 with
    | some (ys, μ2) => some (.loc μ2.length, μ2 ++ [.lst ys])
    | none => none
    else none
  | none => none
theorem sn_lcM {wi : TI} {g : TG} {tt : TT} {te : TE} {i : RI} {m : RG} {t : RB} {e : RE} {vs : List Nat} (hi : SnI K wi i) (hg : SnGc K g m vs) (ht : SnB K tt t) (he : SnE K te e) : SnE K (tLc wi g tt te vs) (mLcM i m t e vs) := fun ρ μ w μ' h => by
  unfold mLcM at h
  split at h
  · split at h
    · split at h
      · cases h; exact ev_lcM (hi _ _ _ _ _ ‹_›) (lcR_ok hg ht he ‹_›) ‹_›
      · cases h
    · cases h
  · cases h
end
end DX

/-! DXK: facts of the head for running; the law's end. -/
namespace DX
open PySem PySem.Spec L2 DK He
def isB (K : PySem.W.Frag) (c : Str) : Bool := (["NoneType", "bool", "int", "str", "tuple", "list"].all fun T => decide (PySem.W.kitOne K (.type T) (.ref (He.ga K c)) = some false)) && decide (PySem.W.kitOne K (.ref (He.ga K c)) (.ref (He.ga K c)) = some true)
theorem isB_ok {K : PySem.W.Frag} {c : Str} (h : isB K c = true) : IsC K c [c] := by
  unfold isB at h
  rw [Bool.and_eq_true] at h
  refine ⟨fun T hT => of_decide_eq_true (List.all_eq_true.mp h.1 T hT), fun x hx => ?_⟩
  have : x = c := by simpa using hx
  subst this
  rw [decide_eq_true rfl]
  exact of_decide_eq_true h.2
section
variable {K : PySem.W.Frag}
/-- the law's promise at the script -/
theorem law_spF {f : FX} {H : Hp} {a : Addr} {ns : List Int} (hf : f [.val (.scr ns)] [] = some (.val (.bl true), [])) (hs : SqL K H a (ns.map V.int)) : spF K f [.ref a] H (fun v _ => v = .bl true) fun _ _ _ => False :=
  ⟨fun _ => False, [], H, [.val (.scr ns)], [], .val (.bl true), [], hf, ⟨Same.refl _, fun _ h => h.elim, List.nodup_nil, rfl, fun j a m h => by simp at h, fun m hm => by simp at hm, rfl, fun i w h => by
    match i, h with
    | 0, h =>
      simp at h
      subst h
      exact ⟨.ref a, rfl, a, rfl, hs⟩
    | i + 1, h => simp at h⟩, fun v as' G' H' _ _ r => r⟩
end
end DX

/-! DXR: more constructs that are run: targets that are fields, several at once, deep in, dicts, += of fields, extend, insert, index, f-strings, int of a text. -/
namespace DX
open PySem PySem.Spec PyProof.Rows L2 DK

section
variable {K : PySem.W.Frag}
/-! ### o.f as a target -/
def gFld (K : PySem.W.Frag) (to : TE) (f : Str) : TG := fun v σ H Q => to σ H fun x H1 => ∃ a C dx fs, x = .ref a ∧ H1 a = some (.ins C dx fs) ∧ Cls K C ∧ NoAttr K C f ∧ fs.length < 1000 ∧ Q σ (upd H1 a (.ins C dx (putF f v fs)))
theorem pg_fld {X : Cx} {o : Expr} {f : Str} {pos : Pos} {to : TE} (ho : PE X o to) : PG X (.Attribute o f pos) (gFld X.K to f) := ⟨fun pins s σ H v u Q I r h => by
  refine PySem.W.kas_attr (thn (ho.run pins s σ H _ I h) fun ov s1 ⟨x, H1, I1, r1, a, C, dx, fs, ex, ea, c, n, l, q⟩ => ?_)
  subst ex
  obtain rfl : ov = Value.ref a := r1
  exact setattr_ok I1 ea c n l r fun s3 I3 => ⟨σ, _, I3, q⟩⟩
/-- a target that may change the store -/
def EvT (K : PySem.W.Frag) (g : TG) (w : W) (ρ : Env') (μ : Mu) (ρ' : Env') (μ' : Mu) : Prop := ∀ (P : Addr → Prop) (as : List Addr) (σ : L2.St) (G H : Hp) (v : V), Rl K G H as P ρ μ σ → RepW K G as w v → ∀ Q : L2.St → Hp → Prop,
  (∀ as' σ' G' H', Nx P as G H as' G' H' → Rl K G' H' as' P ρ' μ' σ' → Q σ' H') → g v σ H Q
abbrev RT := W → Env' → Mu → Option (Env' × Mu)
abbrev RTs := List D → Env' → Mu → Option (Env' × Mu)
def SnT (K : PySem.W.Frag) (g : TG) (m : RT) : Prop := ∀ w ρ μ ρ' μ', m w ρ μ = some (ρ', μ') → EvT K g w ρ μ ρ' μ'
def SnTs (K : PySem.W.Frag) (g : TGs) (m : RTs) : Prop := ∀ ds ρ μ ρ' μ', m ds ρ μ = some (ρ', μ') → ∀ (P : Addr → Prop) (as : List Addr) (σ : L2.St) (G H : Hp) (vs : List V), Rl K G H as P ρ μ σ → RepL K G ds vs → ∀ Q : L2.St → Hp → Prop,
  (∀ as' σ' G' H', Nx P as G H as' G' H' → Rl K G' H' as' P ρ' μ' σ' → Q σ' H') → g vs σ H Q
def uName (i : Nat) : RT := fun w ρ μ => some (ρ.set i (some w), μ)
theorem sn_tName {i : Nat} : SnT K (gName i) (uName i) := fun w ρ μ ρ' μ' h => by
  cases h
  exact fun P as σ G H v R r Q q => q as _ G H .refl (R.set r)
def uFld (c f : Str) (o : RE) : RT := fun w ρ μ => match o ρ μ with
  | some (.loc j, μ1) => match μ1[j]? with
    | some (.ins c' fs) => if c' = c ∧ fs.length < 100 ∧ w.below μ1.length = true then some (ρ, μ1.set j (.ins c (putW f w fs))) else none
    | _ => none
  | _ => none
theorem sn_tFld {c f : Str} {to : TE} {o : RE} (hc : Cls K (He.ga K c)) (hn : NoAttr K (He.ga K c) f) (ho : SnE K to o) : SnT K (gFld K to f) (uFld c f o) := fun w ρ μ ρ' μ' h => by
  unfold uFld at h
  split at h
  · rename_i j μ1 e1
    split at h
    · rename_i c' fs hj
      split at h
      · rename_i hk
        cases h
        obtain ⟨ec, hz, hw⟩ := hk
        subst ec
        exact fun P as σ G H v R r Q q => ho _ _ _ _ e1 P as σ G H R _ fun x as2 G2 H2 n2 R2 r2 => by
          obtain ⟨a, ha', ev⟩ := id r2
          obtain ⟨g, z, dx, vs, hh, rf⟩ := R2.mu j a _ ha' hj
          refine ⟨a, _, dx, vs, ev, hh, hc, hn, by rw [rf.length]; omega, ?_⟩
          obtain ⟨R3, n3⟩ := R2.put (o := .ins (He.ga K c') dx (putF f v vs)) (m' := .ins c' (putW f w fs)) ha' hj g ⟨g, by have := putW_len (f := f) (w := w) (fs := fs); omega, dx, _, upd_same, putW_rep (r.mono n2.gr n2.pre) rf⟩
            (putW_below hw (R2.wf _ (List.mem_of_getElem? hj)))
          exact q as2 σ G2 _ (n2.trans n3) R3
      · cases h
    · cases h
  · cases h
def uNil : RTs := fun ds ρ μ => match ds with
  | [] => some (ρ, μ)
  | _ => none
theorem sn_tNil : SnTs K gNil uNil := fun ds ρ μ ρ' μ' h => by
  unfold uNil at h
  split at h
  · cases h
    exact fun P as σ G H vs R r Q q => ⟨r, q as σ G H .refl R⟩
  · cases h
def uCons (g : RT) (r : RTs) : RTs := fun ds ρ μ => match ds with
  | d :: t => match g (.val d) ρ μ with
    | some (ρ1, μ1) => r t ρ1 μ1
    | none => none
  | [] => none
theorem sn_tCons {g : TG} {gs : TGs} {m : RT} {ms : RTs} (hg : SnT K g m) (hs : SnTs K gs ms) : SnTs K (gCons g gs) (uCons m ms) := fun ds ρ μ ρ' μ' h => by
  unfold uCons at h
  split at h
  · rename_i d t
    split at h
    · rename_i ρ1 μ1 e
      exact fun P as σ G H vs R ⟨v, r, ev, r1, r2⟩ Q q => ⟨v, r, ev, hg _ _ _ _ _ e P as σ G H v R r1 _ fun as1 σ1 G1 H1 n1 R1 => hs _ _ _ _ _ h P as1 σ1 G1 H1 r R1 (RepL.mono n1.gr _ _ r2) Q fun as2 σ2 G2 H2 n2 R2 => q as2 σ2 G2 H2 (n1.trans n2) R2⟩
    · cases h
  · cases h
def uTup (n : Nat) (r : RTs) : RT := fun w ρ μ => match w with
  | .val (.tup ds) => if ds.length = n then r ds ρ μ else none
  | _ => none
theorem sn_tTup {n : Nat} {gs : TGs} {ms : RTs} (hs : SnTs K gs ms) : SnT K (gTup K n gs) (uTup n ms) := fun w ρ μ ρ' μ' h => by
  unfold uTup at h
  split at h
  · split at h
    · rename_i hn
      exact fun P as σ G H v R ⟨hz, a, us, ev, hq, hr⟩ Q q => ⟨a, us, ev, same_sqt R.sub hq, by rw [hr.length]; exact hn, hs _ _ _ _ _ h P as σ G H us R hr Q q⟩
    · cases h
  · cases h
def mAsgT (a : RE) (g : RT) : RS := fun ρ μ => match a ρ μ with
  | some (w, μ1) => match g w ρ μ1 with
    | some (ρ2, μ2) => some (.nx ρ2 μ2)
    | none => none
  | none => none
theorem sn_asgT {ta : TE} {g : TG} {a : RE} {m : RT} (ha : SnE K ta a) (hg : SnT K g m) : SnS K (tAsg ta g) (mAsgT a m) := fun ρ μ o h => by
  unfold mAsgT at h
  split at h
  · split at h
    · cases h
      exact fun P as σ G H R E q => ha _ _ _ _ ‹_› P as σ G H R _ fun v as1 G1 H1 n1 R1 r1 => hg _ _ _ _ _ ‹_› P as1 σ G1 H1 v R1 r1 _ fun as2 σ2 G2 H2 n2 R2 => q as2 σ2 G2 H2 (n1.trans n2) R2
    · cases h
  · cases h
/-! ### a, b, c = x, y, z: names -/
def setAll : List Nat → List W → Env' → Env'
  | i :: is, w :: ws, ρ => setAll is ws (ρ.set i (some w))
  | _, _, ρ => ρ
def gNames : List Nat → TGs
  | [] => gNil
  | i :: is => gCons (gName i) (gNames is)
theorem names_ok {P : Addr → Prop} {as : List Addr} {G H : Hp} {μ : Mu} : ∀ {is : List Nat} {ws : List W} {vs : List V} {ρ : Env'} {σ : L2.St}, is.length = ws.length → Rl K G H as P ρ μ σ → RepWs K G as ws vs → ∀ Q : L2.St → Hp → Prop, (∀ σ', Rl K G H as P (setAll is ws ρ) μ σ' → Q σ' H) → gNames is vs σ H Q
  | [], [], vs, ρ, σ, _, R, r, Q, q => ⟨r, q σ R⟩
  | [], _ :: _, _, _, _, e, _, _, _, _ => by cases e
  | _ :: _, [], _, _, _, e, _, _, _, _ => by cases e
  | i :: is, w :: ws, vs, ρ, σ, e, R, ⟨v, r, ev, r1, r2⟩, Q, q => ⟨v, r, ev, names_ok (by simpa using e) (R.set r1) r2 Q q⟩
def mParN (is : List Nat) (r : RA) : RS := fun ρ μ => match r ρ μ with
  | some (ws, μ1) => if is.length = ws.length ∧ ws.length ≤ LB then some (.nx (setAll is ws ρ) μ1) else none
  | none => none
theorem sn_parN {is : List Nat} {tr : TA} {r : RA} (hr : SnA K tr r) : SnS K (tAsg (tTup tr) (gTup K is.length (gNames is))) (mParN is r) := fun ρ μ o h => by
  unfold mParN at h
  split at h
  · rename_i ws μ1 e
    split at h
    · rename_i hk
      cases h
      exact fun P as σ G H R E q => hr _ _ _ _ e P as σ G H R _ fun vs as1 G1 H1 n1 R1 r1 => ⟨by rw [r1.length]; exact Nat.le_trans hk.2 (by decide), fun p hp => by
        obtain ⟨R2, n2⟩ := R1.junk hp (.tup vs)
        exact ⟨p, vs, rfl, SqT.of upd_same, by rw [r1.length]; exact hk.1.symm, names_ok hk.1 R2 (RepWs.mono n2.gr n2.pre r1) _ fun σ' R' => q as1 σ' G1 _ (n1.trans n2) R'⟩⟩
    · cases h
  · cases h
/-! ### deep in -/
def rInTD (K : PySem.W.Frag) (neg : Bool) : R2 := fun x y H Q => ∃ d ds, Dp K H x d ∧ Dp K H y (.tuple ds) ∧ SeqAt.shaped d = true ∧ SeqAt.shaped (.tuple ds) = true ∧ Q (.bl (neg ^^ ds.any fun z => PyData.eqv z d)) H
theorem op_inTD {X : Cx} (hu : X.A.units + 65 < cLine) : OpR X (compareOp .In) (rInTD X.K false) := by
  intro pins s σ H x y v u Q I rx ry h
  obtain ⟨d, ds, hd, he, sd, se, q⟩ := h
  obtain ⟨as, r1⟩ := Dp.reads I d x v hd rx
  obtain ⟨bs, r2⟩ := Dp.reads I (.tuple ds) y u he ry
  rw [Bool.false_xor] at q
  exact SeqAt.in_tuple_reads r2 r1 (SeqAt.canLay_of_shaped se) (SeqAt.canLay_of_shaped sd) (room_in_shaped sd hu) ⟨.bl _, H, I, rfl, q⟩
def rInn2 (K : PySem.W.Frag) : R2 := fun x y H Q => rInn K x y H Q ∨ (rInD K x y H Q ∨ rInTD K false x y H Q)
theorem op_inn2 {X : Cx} (hu : X.A.units + 65 < cLine) : OpR X (compareOp .In) (rInn2 X.K) := DK.OpR.or op_inn (DK.OpR.or (op_inD hu) (op_inTD hu))
def inDeep (x : D) (xs : List D) : Bool := (toPyL xs).any fun z => PyData.eqv z (toPy x)
def inF2 : D → D → Option D := fun x y => match inF false x y with
  | some d => some d
  | none => match y with
    | .tup xs => if pyOk x = true ∧ pyOk (.tup xs) = true ∧ (toPy x).depth ≤ 64 ∧ (toPy (.tup xs)).depth ≤ 64 then some (.bl (inDeep x xs)) else none
    | .lst xs => if pyOk x = true ∧ pyOk (.lst xs) = true ∧ (toPy x).depth ≤ 64 ∧ (toPy (.lst xs)).depth ≤ 64 then some (.bl (inDeep x xs)) else none
    | _ => none
theorem ov_in2 : OpV K (rInn2 K) inF2 := fun a b d h P as ρ μ σ G H x y R rx ry Q q => by
  unfold inF2 at h
  split at h
  · cases h
    exact .inl (ov_in a b _ ‹_› P as ρ μ σ G H x y R rx ry Q q)
  · split at h
    · split at h
      · cases h
        rename_i hc
        obtain ⟨c1, c2, c3, c4⟩ := hc
        exact .inr (.inr ⟨_, _, dp_ofT R.sub c1 rx, dp_ofT R.sub c2 ry, Bool.and_eq_true_iff.mpr ⟨lay_ofT rx, decide_eq_true c3⟩, Bool.and_eq_true_iff.mpr ⟨lay_ofT ry, decide_eq_true c4⟩, by rw [Bool.false_xor]; exact q _ G H .refl R rfl⟩)
      · cases h
    · split at h
      · cases h
        rename_i hc
        obtain ⟨c1, c2, c3, c4⟩ := hc
        exact .inr (.inl ⟨_, _, dp_ofT R.sub c1 rx, dp_ofT R.sub c2 ry, Bool.and_eq_true_iff.mpr ⟨lay_ofT rx, decide_eq_true c3⟩, Bool.and_eq_true_iff.mpr ⟨lay_ofT ry, decide_eq_true c4⟩, q _ G H .refl R rfl⟩)
      · cases h
    · cases h
end
end DX

/-! DXS: dicts with ints and texts as keys, += of fields, extend, insert, index, f-strings, int of a text. -/
namespace DX
open PySem PySem.Spec PyProof.Rows L2 DK

section
variable {K : PySem.W.Frag}
theorem units65 {k : Nat} {A : Around} (r : Room k A) : A.units + 65 < cLine := by have := r.un; omega
/-! ### {} -/
def mDNew : RE := fun _ μ => some (.loc μ.length, μ ++ [.dK []])
theorem sn_dnew : SnE K tDNewK mDNew := fun ρ μ w μ' h => by
  cases h
  exact fun P as σ G H R Q q p hp => by
    obtain ⟨R2, n2⟩ := R.mut (m := .dK []) (o := .dK []) hp ⟨R.sub.free hp, Nat.zero_le _, [], upd_same, rfl⟩ rfl
    refine q _ _ _ _ n2 R2 ⟨p, ?_, rfl⟩
    rw [← R.len, List.getElem?_append_right (Nat.le_refl _)]
    simp
theorem dk_at {G H : Hp} {as : List Addr} {P : Addr → Prop} {ρ : Env'} {μ : Mu} {σ : L2.St} {j : Nat} {a : Addr} {kvs : List (Key × D)} (R : Rl K G H as P ρ μ σ) (ha : as[j]? = some a) (hm : μ[j]? = some (.dK kvs)) : ∃ vs, H a = some (.dK vs) ∧ RepK K G kvs vs := by
  obtain ⟨_, _, vs, e, r⟩ := R.mu j a _ ha hm
  exact ⟨vs, e, r⟩
/-- d.get(k, x): (x is asked behind k) -/
def mDGet2 (d k x : RE) : RE := fun ρ μ => match d ρ μ with
  | some (.loc j, μ1) => match μ1[j]? with
    | some (.dK _) => match dat1 k ρ μ1 with
      | some (kd, μ2) => match keyOf kd with
        | some key => match dat1 x ρ μ2 with
          | some (z, μ3) => match μ3[j]? with
            | some (.dK kvs) => some (.val ((valD kvs key).getD z), μ3)
            | _ => none
          | none => none
        | none => none
      | none => none
    | _ => none
  | _ => none
theorem sn_dget2 {td tk tx : TE} {d k x : RE} (hd : SnE K td d) (hk : SnE K tk k) (hx : SnE K tx x) : SnE K (tDGet2 td tk tx) (mDGet2 d k x) := fun ρ μ w μ' h => by
  unfold mDGet2 at h
  split at h
  · rename_i j μ1 e1
    split at h
    · rename_i kv0 hj0
      split at h
      · rename_i kd μ2 e2
        split at h
        · rename_i key ek
          split at h
          · rename_i z μ3 e3
            split at h
            · rename_i kvs hj
              cases h
              exact fun P as σ G H R Q q => hd _ _ _ _ e1 P as σ G H R _ fun v as1 G1 H1 n1 R1 r1 => by
                obtain ⟨a, ha, ev⟩ := r1
                obtain ⟨us, h1, _⟩ := dk_at R1 ha hj0
                refine ⟨a, ev, .inl ⟨us, .inl h1⟩, dat1_ok hk e2 P as1 σ G1 H1 R1 _ fun kv as2 G2 H2 n2 R2 r2 => dat1_ok hx e3 P as2 σ G2 H2 R2 _ fun zv as3 G3 H3 n3 R3 r3 => ?_⟩
                obtain ⟨vs, h3, rk⟩ := dk_at R3 (at_pre n3.pre (at_pre n2.pre ha)) hj
                rw [keyOf_eq ek] at r2
                rw [keyD_rep r2]
                refine ⟨_, DGet.k h3, ?_⟩
                cases ev' : valD kvs key with
                | none =>
                  rw [rk.val.2 ev']
                  refine q _ as3 G3 H3 ((n1.trans n2).trans n3) R3 ?_
                  rw [ev']
                  exact r3
                | some y =>
                  obtain ⟨v', e4, r4⟩ := rk.val.1 y ev'
                  rw [e4]
                  refine q _ as3 G3 H3 ((n1.trans n2).trans n3) R3 ?_
                  rw [ev']
                  exact r4
            · cases h
          · cases h
        · cases h
      · cases h
    · cases h
  · cases h
/-- d[k] -/
def mDGet (d k : RE) : RE := fun ρ μ => match d ρ μ with
  | some (.loc j, μ1) => match dat1 k ρ μ1 with
    | some (kd, μ2) => match keyOf kd, μ2[j]? with
      | some key, some (.dK kvs) => match valD kvs key with
        | some z => some (.val z, μ2)
        | none => none
      | _, _ => none
    | none => none
  | _ => none
theorem sn_dget {td tk : TE} {d k : RE} (hd : SnE K td d) (hk : SnE K tk k) : SnE K (tDGet td tk) (mDGet d k) := fun ρ μ w μ' h => by
  unfold mDGet at h
  split at h
  · rename_i j μ1 e1
    split at h
    · rename_i kd μ2 e2
      split at h
      · rename_i key kvs ek hj
        split at h
        · rename_i z ez
          cases h
          exact fun P as σ G H R Q q => hd _ _ _ _ e1 P as σ G H R _ fun v as1 G1 H1 n1 R1 r1 => dat1_ok hk e2 P as1 σ G1 H1 R1 _ fun kv as2 G2 H2 n2 R2 r2 => by
            obtain ⟨a, ha, ev⟩ := r1
            obtain ⟨vs, h3, rk⟩ := dk_at R2 (at_pre n2.pre ha) hj
            rw [keyOf_eq ek] at r2
            rw [keyD_rep r2]
            obtain ⟨v', e4, r4⟩ := rk.val.1 z ez
            exact ⟨a, v', ev, e4 ▸ DGet.k h3, q _ as2 G2 H2 (n1.trans n2) R2 r4⟩
        · cases h
      · cases h
    · cases h
  · cases h
/-! ### o.f += n -/
def mFldAug (c f : Str) (o e : RE) : RS := fun ρ μ => match o ρ μ with
  | some (.loc j, μ1) => match μ1[j]? with
    | some (.ins c1 fs1) => match fs1.lookup f with
      | some (.val (.int m)) => match e ρ μ1 with
        | some (.val (.int n), μ2) => match μ2[j]? with
          | some (.ins c2 fs) => if c1 = c ∧ c2 = c ∧ fs.length < 100 then some (.nx ρ (μ2.set j (.ins c (putW f (.val (.int (m + n))) fs)))) else none
          | _ => none
        | _ => none
      | _ => none
    | _ => none
  | _ => none
theorem sn_fldAug {c f : Str} {to te : TE} {o e : RE} (hc : Cls K (He.ga K c)) (hn : NoAttr K (He.ga K c) f) (ho : SnE K to o) (he : SnE K te e) : SnS K (sFldAug K to te rAdd f) (mFldAug c f o e) := fun ρ μ r h => by
  unfold mFldAug at h
  split at h
  · rename_i j μ1 e1
    split at h
    · rename_i c1 fs1 hj1
      split at h
      · rename_i m hf
        split at h
        · rename_i n μ2 e2
          split at h
          · rename_i c2 fs hj2
            split at h
            · rename_i hk
              cases h
              obtain ⟨k1, k2, hz⟩ := hk
              subst k1
              exact fun P as σ G H R E q => ho _ _ _ _ e1 P as σ G H R _ fun v as1 G1 H1 n1 R1 r1 => by
                obtain ⟨a, ha', ev⟩ := id r1
                obtain ⟨g1, z1, dx1, vs1, hh1, rf1⟩ := R1.mu j a _ ha' hj1
                obtain ⟨u, e3, e4⟩ := lookup_fsome rf1 hf
                refine ⟨a, _, dx1, vs1, u, ev, hh1, hc, hn, e3, he _ _ _ _ e2 P as1 σ G1 H1 R1 _ fun y as2 G2 H2 n2 R2 r2 => ⟨m, n, e4, r2, ?_⟩⟩
                have ha2 := at_pre n2.pre ha'
                obtain ⟨g2, z2, dx2, vs2, hh2, rf2⟩ := R2.mu j a _ ha2 hj2
                rw [k2] at hh2 hj2
                refine ⟨dx2, vs2, hh2, by rw [rf2.length]; omega, ?_⟩
                obtain ⟨R3, n3⟩ := R2.put (o := .ins (He.ga K c1) dx2 (putF f (.int (m + n)) vs2)) (m' := .ins c1 (putW f (.val (.int (m + n))) fs)) ha2 hj2 g2 ⟨g2, by have := putW_len (f := f) (w := .val (.int (m + n))) (fs := fs); omega, dx2, _, upd_same, putW_rep (w := .val (.int (m + n))) rfl rf2⟩
                  (putW_below rfl (R2.wf _ (List.mem_of_getElem? hj2)))
                exact q as2 σ G2 _ ((n1.trans n2).trans n3) R3
            · cases h
          · cases h
        · cases h
      · cases h
    · cases h
  · cases h
/-! ### extend -/
def mExtend (a : RE) (r : RA) : RE := fun ρ μ => match a ρ μ with
  | some (.loc j, μ1) => match view μ1 (.loc j), r ρ μ1 with
    | some _, some ([w], μ2) => match μ2[j]?, view μ2 w with
      | some (.lst xs), some (.lst ys) => if xs.length + ys.length ≤ LB then some (.val .non, μ2.set j (.lst (xs ++ ys))) else none
      | _, _ => none
    | _, _ => none
  | _ => none
theorem sn_extend {ta : TE} {tr : TA} {a : RE} {r : RA} (ha : SnE K ta a) (hr : SnA K tr r) : SnE K (tBM K "list" rExtend ta tr) (mExtend a r) := fun ρ μ w μ' h => by
  unfold mExtend at h
  split at h
  · rename_i j μ1 e1
    split at h
    · rename_i d0 wv μ2 v1 e2
      split at h
      · rename_i xs ys hm v2
        split at h
        · rename_i hz
          cases h
          exact fun P as σ G H R Q q => ha _ _ _ _ e1 P as σ G H R _ fun v as1 G1 H1 n1 R1 ⟨a', ha', ev⟩ => by
            obtain ⟨zs, hl⟩ := view_lst v1
            obtain ⟨us0, h0, _, _⟩ := at_loc R1 ha' hl
            subst ev
            refine ⟨.inl ⟨rfl, _, SqL.of h0⟩, hr _ _ _ _ e2 P as1 σ G1 H1 R1 _ fun us as2 G2 H2 n2 R2 r2 => ?_⟩
            obtain ⟨u, eu, ru⟩ := repW1 r2
            have ha2 := at_pre n2.pre ha'
            obtain ⟨g, z, vs, hh, rl⟩ := R2.mu j a' _ ha2 hm
            obtain ⟨b, vs2, e3, g3, r3, _⟩ := repT_lst (view_rep R2 ru v2)
            refine ⟨a', b, vs, vs2, rfl, by rw [eu, e3], hh, g3, by rw [rl.length, r3.length]; exact Nat.le_trans hz (by decide), ?_⟩
            obtain ⟨R3, n3⟩ := R2.put (o := .lst (vs ++ vs2)) (m' := .lst (xs ++ ys)) ha2 hm g ⟨g, by rw [List.length_append]; exact hz, _, upd_same, rl.append r3⟩ rfl
            exact q _ as2 G2 _ ((n1.trans n2).trans n3) R3 rfl
        · cases h
      · cases h
    · cases h
  · cases h
/-! ### insert -/
def rInsert : V → List V → Hp → VK → Prop := fun x vs H Q => ∃ (l : Addr) (xs : List V) (i : Int) (y : V), x = .ref l ∧ vs = [.int i, y] ∧ H l = some (.lst xs) ∧ xs.length < sizeLine ∧ 0 ≤ i ∧ i < 2 ^ 63 ∧ Q .non (upd H l (.lst (xs.take i.toNat ++ [y] ++ xs.drop i.toNat)))
def mInsert (a : RE) (r : RA) : RE := fun ρ μ => match a ρ μ with
  | some (.loc j, μ1) => match view μ1 (.loc j), dat r ρ μ1 with
    | some _, some ([.int i, d], μ2) => match μ2[j]? with
      | some (.lst xs) => if xs.length < LB ∧ 0 ≤ i ∧ i < 2 ^ 63 then some (.val .non, μ2.set j (.lst (xs.take i.toNat ++ [d] ++ xs.drop i.toNat))) else none
      | _ => none
    | _, _ => none
  | _ => none
theorem sn_insert {ta : TE} {tr : TA} {a : RE} {r : RA} (ha : SnE K ta a) (hr : SnA K tr r) : SnE K (tBM K "list" rInsert ta tr) (mInsert a r) := fun ρ μ w μ' h => by
  unfold mInsert at h
  split at h
  · rename_i j μ1 e1
    split at h
    · rename_i d0 i d μ2 v1 e2
      split at h
      · rename_i xs hm
        split at h
        · rename_i hk
          obtain ⟨hz, h0, h63⟩ := hk
          cases h
          exact fun P as σ G H R Q q => ha _ _ _ _ e1 P as σ G H R _ fun v as1 G1 H1 n1 R1 ⟨a', ha', ev⟩ => by
            obtain ⟨zs, hl⟩ := view_lst v1
            obtain ⟨us0, hh0, _, _⟩ := at_loc R1 ha' hl
            subst ev
            refine ⟨.inl ⟨rfl, _, SqL.of hh0⟩, dat_ok hr e2 P as1 σ G1 H1 R1 _ fun us as2 G2 H2 n2 R2 r2 => ?_⟩
            obtain ⟨u1, u2, eu, ru1, ru2⟩ := repL2 (RepWs.vals.mp r2)
            have ha2 := at_pre n2.pre ha'
            obtain ⟨g, z, vs, hh, rl⟩ := R2.mu j a' _ ha2 hm
            refine ⟨a', vs, i, u2, rfl, by rw [eu, show u1 = .int i from ru1], hh, by rw [rl.length]; exact Nat.lt_of_lt_of_le hz (by decide), h0, h63, ?_⟩
            obtain ⟨R3, n3⟩ := R2.put (o := .lst (vs.take i.toNat ++ [u2] ++ vs.drop i.toNat)) (m' := .lst (xs.take i.toNat ++ [d] ++ xs.drop i.toNat)) ha2 hm g ⟨g, by rw [List.length_append, List.length_append, List.length_take, List.length_drop]; have : ([d] : List D).length = 1 := rfl; omega, _, upd_same, ((rl.take _).append (RepL.cons ru2 RepL.nil)).append (rl.drop _)⟩ rfl
            exact q _ as2 G2 _ ((n1.trans n2).trans n3) R3 rfl
        · cases h
      · cases h
    · cases h
  · cases h
/-! ### index of a text in a list of texts -/
def mIndex (a : RE) (b : RE) : RE := fun ρ μ => match a ρ μ with
  | some (w, μ1) => match pv1 b ρ with
    | some (.str s) => match view μ1 w with
      | some (.lst xs) => match sOf xs with
        | some ss => if s ∈ ss then some (.val (.int (ss.idxOf s : Nat)), μ1) else none
        | none => none
      | _ => none
    | _ => none
  | none => none
theorem sn_index {ta tb : TE} {a b : RE} (ha : SnE K ta a) (hb : SnE K tb b) : SnE K (tBM K "list" (rIndex K) ta (tCons tb tNil)) (mIndex a b) := fun ρ μ w μ' h => by
  unfold mIndex at h
  split at h
  · rename_i w1 μ1 e1
    split at h
    · rename_i s e2
      split at h
      · rename_i xs v1
        split at h
        · rename_i ss hs
          split at h
          · rename_i hm
            cases h
            have ex := sOf_eq hs
            subst ex
            refine ev_indexS (ha _ _ _ _ e1) (ed_cons (pv1_ok hb e2) ed_nil) ?_ hm
            cases w1 with
            | val d => cases v1; exact .lst
            | loc j =>
              unfold view at v1
              dsimp only at v1
              split at v1
              · cases v1; exact .loc ‹_›
              · cases v1; exact .frz ‹_›
              · cases v1
          · cases h
        · cases h
      · cases h
    · cases h
  · cases h
/-! ### f-strings -/
def fmtF : D → Option D
  | .str y => some (.str y)
  | .int i => if i.natAbs.log2 < 1920 ∧ sOkB (toString i : String) = true then some (.str (toString i : String)) else none
  | _ => none
theorem sn_fmt {ta : TE} {a : RE} (ha : SnE K ta a) : SnE K (tFmt ta) (mUn fmtF a) := fun ρ μ w μ' h => by
  refine sn_un (r := fun x H Q => (∃ y : Str, x = .str y ∧ y.length ≤ sizeLine ∧ Q (.str y) H) ∨ ∃ i : Int, x = .int i ∧ i.natAbs.log2 < 1920 ∧ Q (.str (toString i)) H) ?_ ha ρ μ w μ' h
  intro a d h P as ρ μ σ G H x R rx Q q
  unfold fmtF at h
  split at h
  · cases h
    exact .inl ⟨_, rx.1, Nat.le_trans rx.2.1 (by decide), q _ G H .refl R ⟨rfl, rx.2⟩⟩
  · split at h
    · cases h
      rename_i hc
      exact .inr ⟨_, repT_int rx, hc.1, q _ G H .refl R ⟨rfl, sOkB_ok hc.2⟩⟩
    · cases h
  · cases h
/-- the parts of an f-string, one behind the other -/
abbrev RJ := Str → Env' → Mu → Option (Str × Mu)
def SnJ (K : PySem.W.Frag) (ts : List TE) (m : RJ) : Prop := ∀ acc ρ μ out μ', sOk acc → m acc ρ μ = some (out, μ') → sOk out ∧ ∀ (P : Addr → Prop) (as : List Addr) (σ : L2.St) (G H : Hp), Rl K G H as P ρ μ σ → ∀ Q : Str → Hp → Prop,
  (∀ as' G' H', Nx P as G H as' G' H' → Rl K G' H' as' P ρ μ' σ → Q out H') → tJs ts acc σ H Q
def jNil : RJ := fun acc _ μ => some (acc, μ)
theorem sn_jNil : SnJ K [] jNil := fun acc ρ μ out μ' ok h => by
  cases h
  exact ⟨ok, fun P as σ G H R Q q => q as G H .refl R⟩
def jCons (a : RE) (r : RJ) : RJ := fun acc ρ μ => match a ρ μ with
  | some (.val (.str y), μ1) => if (acc ++ y).length ≤ SB ∧ sOkB y = true then r (acc ++ y) ρ μ1 else none
  | _ => none
theorem sn_jCons {ta : TE} {ts : List TE} {a : RE} {r : RJ} (ha : SnE K ta a) (hr : SnJ K ts r) : SnJ K (ta :: ts) (jCons a r) := fun acc ρ μ out μ' ok h => by
  unfold jCons at h
  split at h
  · rename_i y μ1 e
    split at h
    · rename_i hk
      have ok2 := sOk_append ok (sOkB_ok hk.2) hk.1
      obtain ⟨o1, o2⟩ := hr _ _ _ _ _ ok2 h
      refine ⟨o1, fun P as σ G H R Q q => ha _ _ _ _ e P as σ G H R _ fun v as1 G1 H1 n1 R1 r1 => ⟨y, r1.1, Nat.le_trans hk.1 (by decide), o2 P as1 σ G1 H1 R1 Q fun as2 G2 H2 n2 R2 => q as2 G2 H2 (n1.trans n2) R2⟩⟩
    · cases h
  · cases h
def mJoined (r : RJ) : RE := fun ρ μ => match r Str.empty ρ μ with
  | some (out, μ1) => some (.val (.str out), μ1)
  | none => none
def tJoined (ts : List TE) : TE := fun σ H Q => tJs ts Str.empty σ H fun out H1 => Q (.str out) H1
theorem sn_joined {ts : List TE} {r : RJ} (hr : SnJ K ts r) : SnE K (tJoined ts) (mJoined r) := fun ρ μ w μ' h => by
  unfold mJoined at h
  split at h
  · cases h
    obtain ⟨o1, o2⟩ := hr _ _ _ _ _ (show sOk Str.empty from ⟨by decide +kernel, by decide +kernel⟩) ‹_›
    exact fun P as σ G H R Q q => o2 P as σ G H R _ fun as1 G1 H1 n1 R1 => q _ as1 G1 H1 n1 R1 ⟨rfl, o1⟩
  · cases h
theorem pe_joinedT {X : Cx} {v1 v2 : Expr} {rest : List Expr} {ts : List TE} {pos : Pos} (h : PJ X (v1 :: v2 :: rest) ts) : PE X (.JoinedStr (v1 :: v2 :: rest) pos) (tJoined ts) := pe_joined h
/-! ### int -/
def rIntA : List V → Hp → VK → Prop := fun xs H Q => rInt1 xs H Q ∨ ∃ a n, xs = [.str a] ∧ PySem.intText? a = some n ∧ a.length ≤ 640 ∧ Q (.int n) H
theorem call_intA {X : Cx} : CallR X (.type "int") rIntA := DK.CallR.or call_int1' call_int_str
def intF2 : D → Option D
  | .str a => if a.length ≤ 640 then match PySem.intText? a with
    | some n => some (.int n)
    | none => none
    else none
  | d => intF d
theorem ou_int2 : OpU K (fun x H Q => rIntA [x] H Q) intF2 := fun a d h P as ρ μ σ G H x R rx Q q => by
  unfold intF2 at h
  split at h
  · split at h
    · split at h
      · cases h
        exact .inr ⟨_, _, by rw [rx.1], ‹_›, ‹_›, q _ G H .refl R rfl⟩
      · cases h
    · cases h
  · exact .inl (ou_int _ _ h P as ρ μ σ G H x R rx Q q)
end
end DX

/-! DXT: str(o), len(o), o == p, o[i] by defs of the class. -/
namespace DX
open PySem PySem.Spec PyProof.Rows L2 DK

section
variable {prog : Program} {w : World} {A : Around} {E : Value → Shared → Prop} {s : Shared} {K : PySem.W.Frag} {x C f : Addr} {ox : Obj} {odd : Option Obj}
theorem meetsIn_str_new {v : Value} {S : PySem.Spec} (hs : ∀ (A : Around) (R : Result → Shared → Prop) (s : Shared), S A R s →
      wpAny (model prog w) A.in1 (Builtin.Str.strOf v) (fun r s' => R (.ok (.ret r)) s') (fun e s' => R (.error e) s') s) : MeetsIn prog w (Builtin.«str.__new__» ⟨[.type "str", v], []⟩) S := by
  refine MeetsIn.of_wp fun A R s h => ?_
  rw [str_new_tree v]
  refine wpAny_bind (wpAny_pure ?_)
  refine wpAny_bind (wpAny_of_eq isSubtype_str_str ?_)
  exact wpAny_bind (wpAny_mono (hs A R s h) (fun r s' h' => wpAny_pure ⟨_, rfl, h'⟩) fun _ _ e => e)
theorem strOf_own {Q : Value → Shared → Prop} (hu : A.units < cLine) (X : K.In s.heap) (I : PySem.W.InstAt s.heap x ox C odd) (hs : PySem.W.findIn K (.ref C) "__str__" = some (some (.ref f))) (hf : PySem.W.isFn K (.ref f) = true)
    (h : wpAny (model prog w) A (call (.ref f) [.ref x]) (fun r s' => ∃ y t, r = Value.str y t ∧ Q r s') E s) : wpAny (model prog w) A (Builtin.Str.strOf (.ref x)) Q E s := by
  unfold Builtin.Str.strOf
  refine wpAny_ite_false rfl ?_
  refine wpAny_bind (wpAny_cRoomFor hu ?_)
  refine wpAny_bind (m := callSpecial? (.ref x) (Str.ofString "__str__")) (PySem.W.special_fn X I hs (beq_iff_eq.mp hf) (wpAny_mono h (fun r s' hr => ?_) fun _ _ y => y))
  obtain ⟨y, t, rfl, hq⟩ := hr
  repeat (any_goals (first | assumption | wp_step))
theorem str_own {Q : Value → Shared → Prop} (hu : A.units + 2 < cLine) (X : K.In s.heap) (I : PySem.W.InstAt s.heap x ox C odd) (hs : PySem.W.findIn K (.ref C) "__str__" = some (some (.ref f))) (hf : PySem.W.isFn K (.ref f) = true)
    (h : wpAny (model prog w) A.in1.in1 (call (.ref f) [.ref x]) (fun r s' => ∃ y t, r = Value.str y t ∧ Q r s') E s) : wpAny (model prog w) A (call (.type "str") [.ref x]) Q E s :=
  callType_newIn PySem.F.called_str (by decide) (PySem.F.typeCall_str_1 _) (PySem.F.newCall_str_1 _) (fun obj => PySem.F.args_object_init_2 obj _) PySem.F.entry_str_new
    (meetsIn_str_new (S := fun A' R s' => A'.units + 1 < cLine ∧ K.In s'.heap ∧ PySem.W.InstAt s'.heap x ox C odd ∧ wpAny (model prog w) A'.in1 (call (.ref f) [.ref x]) (fun r s₁ => ∃ y t, r = Value.str y t ∧ R (.ok (.ret r)) s₁) (fun e s₁ => R (.error e) s₁) s')
      fun A' R s' hq => strOf_own (A := A'.in1) hq.1 hq.2.1 hq.2.2.1 hs hf hq.2.2.2)
    ⟨(show A.units + 1 + 1 < cLine from hu), X, I, wpAny_mono h (fun r s₁ ⟨y, t, e, q⟩ => ⟨y, t, e, by rw [e]; exact typeIs_str _ _ _, q⟩) fun _ _ y => y⟩
end
section
variable {X : Cx} {CX : CXT} {C g : Addr} {n : Nat} {sp : Sp} {fd : FuncData} {ps : List Str}
theorem fnR_of (F : FnOk X.prog X.w X.K X.mg X.base CX0 n g fd ps sp) (b : Binds X.K fd ps []) : FnR X.prog X.w X.K X.mg X.base CX0 n g sp := fun A outer s H us vs Q E hr e0 r hs =>
  FnOk.raw F b .nil A outer s H us vs Q E hr e0 r (by show sp (vs ++ []) H Q E; rw [List.append_nil]; exact hs)
/-- str(o) -/
def rStrOwn (C : Addr) (sp : Sp) : List V → Hp → VK → Prop := fun xs H Q => ∃ a dx fs, xs = [V.ref a] ∧ H a = some (.ins C dx fs) ∧ sp [.ref a] H (fun z H' => ∃ y, z = .str y ∧ Q z H') E0
theorem call_strOwn (hs : PySem.W.findIn X.K (.ref C) "__str__" = some (some (.ref g))) (hf : PySem.W.isFn X.K (.ref g) = true) (F : FnOk X.prog X.w X.K X.mg X.base CX0 n g fd ps sp) (b : Binds X.K fd ps []) (hr : Room (n + 2) X.A) (hu : X.A.units + 2 < cLine) : CallR X (.type "str") (rStrOwn C sp) := by
  intro pins s σ H xs us Q I r h
  obtain ⟨a, dx, fs, rfl, ha, q⟩ := h
  obtain ⟨u, rfl, ru⟩ := vals1 r
  cases (show u = Value.ref a from ru)
  obtain ⟨mA, O, _, _, _, _⟩ := ins_get I.hok ha
  obtain ⟨od, J, _⟩ := O.look
  have hr2 : Room n X.A.in1.in1 := (show Room (n + 1) X.A.in1 from Room.in1 hr).in1
  have FR := fnR_of F b
  refine str_own hu I.kIn J hs hf (wpAny_mono (wpAny_call (SlX.run_at (us := [.ref a]) (ws := [.ref a]) FR hr2 I.env0.in1.in1 pass0 I (.cons rfl .nil) q)) (fun w s' z => ?_) fun _ _ x => x)
  obtain ⟨z', H', I', rz, y, ey, qz⟩ := z
  subst ey
  obtain ⟨t, e⟩ := (show ∃ t, w = Value.str y t from rz)
  cases e
  exact ⟨y, t, rfl, .str y, H', I', ⟨t, rfl⟩, qz⟩
/-- len(o) -/
def rLenOwn (C : Addr) (sp : Sp) : List V → Hp → VK → Prop := fun xs H Q => ∃ a dx fs, xs = [V.ref a] ∧ H a = some (.ins C dx fs) ∧ sp [.ref a] H (fun z H' => ∃ i : Int, z = .int i ∧ (0 ≤ i ∧ i < 2 ^ 63) ∧ Q z H') E0
theorem call_lenOwn (hs : PySem.W.findIn X.K (.ref C) "__len__" = some (some (.ref g))) (hf : PySem.W.isFn X.K (.ref g) = true) (F : FnOk X.prog X.w X.K X.mg X.base CX0 n g fd ps sp) (b : Binds X.K fd ps []) (hr : Room (n + 1) X.A) : CallR X (.builtin "len") (rLenOwn C sp) := by
  intro pins s σ H xs us Q I r h
  obtain ⟨a, dx, fs, rfl, ha, q⟩ := h
  obtain ⟨u, rfl, ru⟩ := vals1 r
  cases (show u = Value.ref a from ru)
  obtain ⟨mA, O, _, _, _, _⟩ := ins_get I.hok ha
  obtain ⟨od, J, _⟩ := O.look
  have hr2 : Room n X.A.in1 := Room.in1 hr
  obtain ⟨m, hF⟩ := I.fr
  refine PySem.W.len_K hF I.ok.mod.kin J hs hf (wpAny_mono (wpAny_call (SlX.run_at (us := [.ref a]) (ws := [.ref a]) (fnR_of F b) hr2 I.env0.in1 pass0 I (.cons rfl .nil) q)) (fun w s' z => ?_) fun _ _ x => x)
  obtain ⟨z', H', I', rz, i, ei, hi, qz⟩ := z
  subst ei
  obtain ⟨t, e⟩ := (show ∃ t, w = Value.int i t from rz)
  cases e
  exact ⟨hi, .int i, H', I'.tok _, ⟨_, rfl⟩, qz⟩
/-- o == p (both instances of the class at C) -/
def rEqOwn (C : Addr) (sp : Sp) : R2 := fun x y H Q => ∃ a dx fs b dy gs, x = .ref a ∧ y = .ref b ∧ H a = some (.ins C dx fs) ∧ H b = some (.ins C dy gs) ∧ sp [x, y] H Q E0
theorem op_eqOwn {op : CmpOp} (hop : ∀ a b, compareOp op a b = richCompare op a b) (hs : PySem.W.findIn X.K (.ref C) (cmpInfo op).2.1 = some (some (.ref g))) (hf : PySem.W.isFn X.K (.ref g) = true) (F : FnOk X.prog X.w X.K X.mg X.base CX0 n g fd ps sp) (b : Binds X.K fd ps []) (hr : Room n X.A) : OpR X (compareOp op) (rEqOwn C sp) := by
  intro pins s σ H x y v u Q I rx ry h
  obtain ⟨a, dx, fs, b', dy, gs, rfl, rfl, ha, hb, q⟩ := h
  cases (show v = Value.ref a from rx)
  cases (show u = Value.ref b' from ry)
  obtain ⟨mA, O, _, _, _, _⟩ := ins_get I.hok ha
  obtain ⟨od, J, _⟩ := O.look
  obtain ⟨mB, O', _, _, _, _⟩ := ins_get I.hok hb
  obtain ⟨od', J', _⟩ := O'.look
  obtain ⟨m, hF⟩ := I.fr
  rw [hop]
  refine PySem.W.cmp_K (op := op) (tb := .ref C) hr.units0 hF I.ok.mod.kin J J'.type (by unfold PySem.W.notFirst; simp) hs hf ?_
  refine wpAny_mono (wpAny_call (SlX.run_at (us := [.ref a, .ref b']) (ws := [.ref a, .ref b']) (fnR_of F b) hr I.env0 pass0 I (.cons rfl (.cons rfl .nil)) q)) (fun w s' z => ?_) fun _ _ x => x
  obtain ⟨z', H', I', rz, qz⟩ := z
  exact SlX.cmpback rz ⟨z', H', I', rz, qz⟩
end
/-! ### run -/
section
variable {K : PySem.W.Frag}
/-- the instances of a class, frozen or of the store -/
def isIns (c : Str) (μ : Mu) : W → Bool
  | .val (.obj c' _ _) => decide (c' = c)
  | .loc j => match μ[j]? with
    | some (.ins c' _) => decide (c' = c)
    | _ => false
  | _ => false
theorem isIns_rep {G H : Hp} {as : List Addr} {P : Addr → Prop} {ρ : Env'} {μ : Mu} {σ : L2.St} {c : Str} {w : W} {v : V} (R : Rl K G H as P ρ μ σ) (r : RepW K G as w v) (h : isIns c μ w = true) : ∃ a dx fs, v = .ref a ∧ H a = some (.ins (He.ga K c) dx fs) := by
  unfold isIns at h
  split at h
  · have ec := of_decide_eq_true h
    subst ec
    obtain ⟨_, a, dx, vs, e, g, hl, rl⟩ := r
    exact ⟨a, dx, _, e, R.sub _ _ g⟩
  · split at h
    · rename_i hj
      have ec := of_decide_eq_true h
      subst ec
      obtain ⟨a, ha, ev⟩ := r
      obtain ⟨g, z, dx, vs, hh, rf⟩ := R.mu _ a _ ha hj
      exact ⟨a, dx, vs, ev, hh⟩
    · cases h
  · cases h
/-- str(o), len(o) -/
def mOwn1 (c : Str) (ok : D → Bool) (f : FX) (a : RE) : RE := fun ρ μ => match a ρ μ with
  | some (w, μ1) => if isIns c μ1 w = true then match callX f [w] μ1 with
    | some (.val d, μ2) => if ok d = true then some (.val d, μ2) else none
    | _ => none
    else none
  | none => none
def okStr : D → Bool
  | .str _ => true
  | _ => false
def okLen : D → Bool
  | .int (.ofNat n) => Nat.ble n 1000000000
  | _ => false
theorem sn_strOwn {c : Str} {f : FX} {ta : TE} {a : RE} (ha : SnE K ta a) : SnE K (tCB (rStrOwn (He.ga K c) (spF K f)) (tCons ta tNil)) (mOwn1 c okStr f a) := fun ρ μ w μ' h => by
  unfold mOwn1 at h
  split at h
  · rename_i x μ1 e1
    split at h
    · rename_i hi
      split at h
      · rename_i d μ2 e2
        split at h
        · rename_i hd
          cases h
          exact fun P as σ G H R Q q => ha _ _ _ _ e1 P as σ G H R _ fun v as1 G1 H1 n1 R1 r1 => by
            obtain ⟨a', dx, fs, ev, hh⟩ := isIns_rep R1 r1 hi
            subst ev
            refine ⟨a', dx, fs, rfl, hh, call_fx (ws := [x]) R1 ⟨_, [], rfl, r1, rfl⟩ e2 fun v as2 G2 H2 n2 R2 r2 => ?_⟩
            cases d <;> first | cases hd | skip
            exact ⟨_, r2.1, q _ as2 G2 H2 (n1.trans n2) R2 r2⟩
        · cases h
      · cases h
    · cases h
  · cases h
theorem okLen_ok {i : Int} (h : okLen (.int i) = true) : 0 ≤ i ∧ i < 2 ^ 63 := by
  cases i with
  | ofNat n =>
    have h1 : n ≤ 1000000000 := Nat.le_of_ble_eq_true h
    have h2 : (2 : Int) ^ 63 = 9223372036854775808 := by decide +kernel
    rw [h2, Int.ofNat_eq_natCast]
    omega
  | negSucc n => cases h
theorem sn_lenOwn {c : Str} {f : FX} {ta : TE} {a : RE} (ha : SnE K ta a) : SnE K (tCB (rLenOwn (He.ga K c) (spF K f)) (tCons ta tNil)) (mOwn1 c okLen f a) := fun ρ μ w μ' h => by
  unfold mOwn1 at h
  split at h
  · rename_i x μ1 e1
    split at h
    · rename_i hi
      split at h
      · rename_i d μ2 e2
        split at h
        · rename_i hd
          cases h
          exact fun P as σ G H R Q q => ha _ _ _ _ e1 P as σ G H R _ fun v as1 G1 H1 n1 R1 r1 => by
            obtain ⟨a', dx, fs, ev, hh⟩ := isIns_rep R1 r1 hi
            subst ev
            refine ⟨a', dx, fs, rfl, hh, call_fx (ws := [x]) R1 ⟨_, [], rfl, r1, rfl⟩ e2 fun v as2 G2 H2 n2 R2 r2 => ?_⟩
            cases d <;> first | cases hd | skip
            exact ⟨_, r2, okLen_ok hd, q _ as2 G2 H2 (n1.trans n2) R2 r2⟩
        · cases h
      · cases h
    · cases h
  · cases h
/-- o == p -/
def mEqOwn (c : Str) (f : FX) (a b : RE) : RE := fun ρ μ => match a ρ μ with
  | some (x, μ1) => match b ρ μ1 with
    | some (y, μ2) => if isIns c μ2 x = true ∧ isIns c μ2 y = true then callX f [x, y] μ2 else none
    | none => none
  | none => none
theorem sn_eqOwn {c : Str} {f : FX} {ta tb : TE} {a b : RE} (ha : SnE K ta a) (hb : SnE K tb b) : SnE K (tOp (rEqOwn (He.ga K c) (spF K f)) ta tb) (mEqOwn c f a b) := fun ρ μ w μ' h => by
  unfold mEqOwn at h
  split at h
  · rename_i x μ1 e1
    split at h
    · rename_i y μ2 e2
      split at h
      · rename_i hi
        exact fun P as σ G H R Q q => ha _ _ _ _ e1 P as σ G H R _ fun v as1 G1 H1 n1 R1 r1 => hb _ _ _ _ e2 P as1 σ G1 H1 R1 _ fun u as2 G2 H2 n2 R2 r2 => by
          have r1' := r1.mono n2.gr n2.pre
          obtain ⟨a', dx, fs, ev, hh⟩ := isIns_rep R2 r1' hi.1
          obtain ⟨b', dy, gs, eu, hh'⟩ := isIns_rep R2 r2 hi.2
          refine ⟨a', dx, fs, b', dy, gs, ev, eu, hh, hh', call_fx (ws := [x, y]) R2 ⟨_, _, rfl, r1', _, [], rfl, r2, rfl⟩ h fun v as3 G3 H3 n3 R3 r3 => q v as3 G3 H3 ((n1.trans n2).trans n3) R3 r3⟩
      · cases h
    · cases h
  · cases h
end
end DX

/-! DXV: head, *rest = a list. -/
namespace DX
open PySem PySem.Spec PyProof.Rows L2 DK

section
variable {prog : Program} {w : World} {A : Around} {E : Value → Shared → Prop} {s : Shared}
theorem walks_from (hh : A.handled = none) (I ax : Addr) (hne : ax ≠ I) (items : Array Value) (k : Nat) (hk : k ≤ items.size) :
    Walks prog w A I [I, ax] [I] (items.size - k) (fun i v => items[k + i]? = some v) (fun i h => h.IsListIter I ax (k + i) ∧ h.IsList ax items) where
  sub := fun b hb => by simp at hb; simp [hb]
  frame := fun _ _ _ st hk => ⟨st.1.at fun o e => hk I (by simp) o e, st.2.at fun o e => hk ax (by simp) o e⟩
  item := fun i s Q E hi st hQ => by
    have hlt : k + i < items.size := by omega
    refine wpAny_pyNext_list_item st.1 st.2 (x := items[k + i]) (by simp [hlt]) fun h' hit' hs' => ?_
    exact hQ _ h' s.toks (by simp [hlt]) ⟨hit', st.2.extBut hs'.extBut hne⟩ fun b o hb e => hs'.extBut b o (fun h => hb (by simp [h])) e
  done := fun s Q E st hQ => wpAny_pyNext_list_end hh st.1 st.2 (by simp; omega) fun h' he' => hQ h' s.toks fun b o hb e => he' b o (fun h => hb (by simp [h])) e
  self := fun _ _ _ _ st hQ => wpAny_pyIter_listiter st.1 hQ
theorem unpack_star1 {l : Addr} {items : Array Value} {Q : List Value → Shared → Prop} (hh : A.handled = none) (hl : s.heap.IsList l items) (h1 : 1 ≤ items.size) (hz : items.size ≤ sizeLine)
    (hQ : ∀ (s1 : Shared) (p : Addr), s1.gens = s.gens → s1.drawn = s.drawn → s1.os = s.os → (∀ b o, s.heap.get? b = some o → s1.heap.get? b = some o) → s.heap.get? p = none → s1.heap.get? p = some { cls := .type "list", data := .seq (items.toList.drop 1).toArray } → Q [items[0], .ref p] s1) :
    wpAny (model prog w) A (unpackItems (.ref l) 2 (some 1)) Q E s := by
  have hlt : l ≠ s.heap.objs.size := by obtain ⟨o, ho, _⟩ := hl; exact Nat.ne_of_lt (Heap.lt_size ho)
  unfold unpackItems
  refine wpAny_bind ?_
  unfold notIterableAtAll
  refine wpAny_bind (wpAny_specialOf hl.typeIs PySem.F.slot_list_iter.lookup ?_)
  refine wpAny_pure ?_
  simp only [Bool.false_eq_true, if_false]
  refine wpAny_bind (wpAny_holding (wpAny_pyIter_list hl ?_))
  refine wpAny_bind (wpAny_holding (PySem.W.kun_draw hlt 1 0 _ _ ⟨_, Heap.get?_push_size _ rfl, rfl, rfl⟩ (hl.push _) (by omega) fun h₁ hit₁ hs₁ => ?_))
  have e0 : (items.toList.drop 0).take 1 = [items[0]] := by
    rw [List.drop_zero]
    have : items.toList = items[0] :: items.toList.drop 1 := by
      have := List.drop_eq_getElem_cons (l := items.toList) (i := 0) (by simp; omega)
      simpa using this
    rw [this]
    rfl
  rw [e0]
  rw [if_neg (by simp)]
  have hl₁ : h₁.IsList l items := (hl.push _).extBut hs₁.extBut hlt
  have W := (walks_from (prog := prog) (w := w) (A := A.in1) hh s.heap.objs.size l hlt items 1 h1).toS
  have hsz1 : s.heap.objs.size < h₁.objs.size := by
    obtain ⟨o, ho, _⟩ := hit₁
    exact Heap.lt_size ho
  have hl1 : l < h₁.objs.size := by
    obtain ⟨o, ho, _⟩ := hl₁
    exact Heap.lt_size ho
  refine wpAny_bind (wpAny_holding (wpAny_collect_iter (T := "list_iterator") (.inr (.inr (.inl rfl))) W (fun i s' st => st.1.typeIs) ⟨hit₁, hl₁⟩ (fun b hb => ?_) (by simp) (fun s2 acc hm hacc => ?_) (by omega)))
  · simp at hb
    rcases hb with rfl | rfl
    · exact hsz1
    · exact hl1
  have ea : acc.toList = items.toList.drop 1 := by
    refine List.ext_getElem? fun i => ?_
    rw [List.getElem?_drop]
    by_cases hi : i < acc.size
    · have := hacc.2 i acc[i] (by simp [hi])
      simp only [Array.getElem?_toList] 
      rw [this]
      simp [hi]
    · have h3 := hacc.1
      rw [List.getElem?_eq_none (by simpa using hi), List.getElem?_eq_none (by simp; omega)]
  have el : acc.toList.length = items.size - 1 := by rw [Array.length_toList]; exact hacc.1
  show wpAny _ _ (if acc.toList.length < 2 - 1 - 1 then _ else _) _ _ _
  rw [if_neg (by omega)]
  show wpAny _ _ (newList (acc.toList.take (acc.toList.length - 0)) >>= _) _ _ _
  rw [Nat.sub_zero, List.take_length, ea]
  refine wpAny_bind (wpAny_newList ?_ (by rw [← ea, el]; omega))
  refine wpAny_pure ?_
  rw [List.drop_length, List.append_nil]
  refine hQ _ s2.heap.objs.size hm.gens hm.drawn hm.os (fun b o e => Heap.get?_push_of_some _ (hm.heap b o (fun hb => ?_) (hs₁.extBut b o (fun hb => ?_) (Heap.get?_push_of_some _ e)))) ?_ (Heap.get?_push_size _ rfl)
  · simp at hb
    exact absurd (Heap.lt_size e) (by rw [hb]; exact Nat.lt_irrefl _)
  · exact absurd (Heap.lt_size e) (by rw [hb]; exact Nat.lt_irrefl _)
  · cases e : s.heap.get? s2.heap.objs.size with
    | none => rfl
    | some o =>
      have hb : s2.heap.objs.size ≠ s.heap.objs.size := fun hb => absurd (Heap.lt_size e) (by rw [hb]; exact Nat.lt_irrefl _)
      have h3 := hm.heap _ o (by simp; exact hb) (hs₁.extBut _ o hb (Heap.get?_push_of_some _ e))
      exact absurd (Heap.lt_size h3) (Nat.lt_irrefl _)
end
/-- head, *rest -/
def gStar1 (K : PySem.W.Frag) (t : TGs) : TG := fun v σ H Q => ∃ a x xs, v = .ref a ∧ SqL K H a (x :: xs) ∧ (x :: xs).length ≤ sizeLine ∧ ∀ p, H p = none → t [x, .ref p] σ (upd H p (.lst xs)) Q
section
variable {X : Cx} {pos : Pos}
theorem pg_star1 {es : List Expr} {k : Nat} {t : TGs} (hc : X.calm = true) (h : PGs X es t)
    (hn : (assignEach es X.env).length = 2 := by rfl) (hst : (assignEach es X.env).findIdx? (·.1) = some 1 := by rfl) : PG X (.Tuple es k pos) (gStar1 X.K t) := by
  refine ⟨fun pins s σ H v u Q I r hw => ?_⟩
  obtain ⟨a, x, xs, e1, hq, hz, hw⟩ := hw
  subst e1
  cases r
  obtain ⟨its, rv, pl, hz'⟩ := I.list hq
  rw [PyProof.Rows.assign_Tuple]
  refine wpAny_bind (wpAny_standAt ?_)
  unfold unpack
  rw [hn, hst]
  cases rv with
  | cons rx rxs =>
    rename_i ux uxs
    refine wpAny_bind (wpAny_holding (unpack_star1 (I.ok.hd hc) pl.isList (by simp) (by rw [List.size_toArray, List.length_cons, ← rxs.length]; simpa using hz) fun s1 p g1 g2 g3 g4 g5 g6 => ?_))
    have hp : H p = none := I.hok.gone g5
    have e0 : ((ux :: uxs).toArray)[0] = ux := rfl
    have e2 : (((ux :: uxs).toArray).toList.drop 1) = uxs := by simp
    rw [e2] at g6
    obtain ⟨hh, gg, dd, tt, oo⟩ := s1
    cases g1
    cases g2
    cases g3
    have I1 : Inv X pins σ (upd H p (.lst xs)) { s with heap := hh, toks := tt } := I.laidN g4 g5 hp ⟨by simp at hz; omega, uxs, 0, rxs, g6⟩
    exact h.run pins _ σ (upd H p (.lst xs)) [x, .ref p] _ Q I1 (.cons rx (.cons rfl .nil)) (hw p hp)
theorem pgs_star {e : Expr} {es : List Expr} {p : Pos} {t : TG} {u : TGs} (h1 : PG X e t) (h2 : PGs X es u)
    (hs : (assignEach (.Starred e p :: es) X.env).map (·.2) = assign e X.env :: (assignEach es X.env).map (·.2) := by rfl) : PGs X (.Starred e p :: es) (gCons t u) := by
  refine ⟨fun pins s σ H vs us Q I r h => ?_⟩
  obtain ⟨v, vr, e1, h⟩ := h
  subst e1
  cases r with
  | cons r rr =>
    rw [hs]
    refine assignInOrder_cons (thn (h1.run pins s σ H _ _ _ I r h) fun _ s1 ⟨σ1, H1, I1, q1⟩ => ?_)
    exact h2.run pins s1 σ1 H1 _ _ Q I1 rr q1
end
section
variable {K : PySem.W.Frag}
def mStar1 (i j : Nat) (a : RE) : RS := fun ρ μ => match a ρ μ with
  | some (w, μ1) => match view μ1 w with
    | some (.lst (d :: ds)) => some (.nx ((ρ.set i (some (.val d))).set j (some (.val (.lst ds)))) μ1)
    | _ => none
  | none => none
theorem sn_star1 {i j : Nat} {ta : TE} {a : RE} (ha : SnE K ta a) : SnS K (tAsg ta (gStar1 K (gCons (gName i) (gCons (gName j) gNil)))) (mStar1 i j a) := fun ρ μ o h => by
  unfold mStar1 at h
  split at h
  · rename_i w μ1 e1
    split at h
    · rename_i d ds v1
      cases h
      exact fun P as σ G H R E q => ha _ _ _ _ e1 P as σ G H R _ fun v as1 G1 H1 n1 R1 r1 => by
        obtain ⟨z, a', vs, e, g, hr⟩ := view_rep R1 r1 v1
        obtain ⟨x, xs, ev, rx, rxs⟩ := hr
        subst ev
        have hl : (x :: xs).length = (d :: ds).length := by
          rw [List.length_cons, List.length_cons, rxs.length]
        refine ⟨a', x, xs, e, SqL.of g, by rw [hl]; exact Nat.le_trans z (by decide), fun p hp => ?_⟩
        obtain ⟨R2, n2⟩ := R1.imm hp (.lst xs)
        refine ⟨x, [.ref p], rfl, .ref p, [], rfl, rfl, ?_⟩
        have R3 := R2.set (i := i) (w := .val d) (Rep.mono n2.gr _ _ rx)
        have R4 := R3.set (i := j) (w := .val (.lst ds)) ⟨by simp at z; omega, p, xs, rfl, upd_same, RepL.mono n2.gr _ _ rxs⟩
        exact q as1 _ _ _ (n1.trans n2) R4
    · cases h
  · cases h
/-! ### C(..) through a name of the def -/
def tMakeL (i : Nat) (C : Addr) (sp : Sp) (dvs : List V) (E : XK) (t : TA) : TE := fun σ H Q => σ[i]? = some (some (.ref C)) ∧ tMake C sp dvs E t σ H Q
theorem pe_makeL {X : Cx} {CX : CXT} {k i : Nat} {f C : Addr} {fd : FuncData} {ps : List Str} {sp : Sp} {dvs : List V} {ds : List Value} {E : XK} {x : Str} {p pos : Pos} {e : Expr} {es : List Expr} {t : TA}
    (M : Mk X.K C f) (F : FnOk X.prog X.w X.K X.mg X.base CX k f fd ps sp) (hr : Room (k + 1) X.A) (hN : X.N[i]? = some x) (hv : Vis X.env.scope x) (hb : Binds X.K fd ps ds) (hd : Vals dvs ds) (hx : Passes CX X E)
    (ha : PA X (e :: es) t) (hdb : (x == ("__debug__" : Str)) = false := by decide) (hcd : (x == ("__classdict__" : Str)) = false := by decide) (he : starEach (e :: es) X.env = (false, eval e X.env) :: starEach es X.env := by rfl) (hpl : (backTo pos (starEach es X.env)).any (·.1) = false := by rfl) :
    PE X (.Call (.Name x p) (e :: es) [] pos) (tMakeL i C sp dvs E t) := by
  refine ⟨fun pins s σ H Q I h => ?_⟩
  obtain ⟨hs, ht⟩ := h
  refine wpAny_Call_Name_kw (thn ((pe_var (pos := p) hN hv hdb hcd).run pins s σ H (fun v H1 => v = .ref C ∧ H1 = H) I ⟨.ref C, hs, rfl, rfl⟩) fun u s1 ⟨v, H1, I1, r1, q1⟩ => ?_)
  obtain ⟨rfl, rfl⟩ := q1
  cases r1
  refine PySem.W.callWith_K (h₀ := X.base) I.ok.mod.kin M.kp (thn (ha.run pos pins s1 σ _ _ I1 ht) fun us s2 ⟨vs, H2, I2, r, q⟩ => ⟨I2.kIn, ?_⟩) he hpl
  exact run_make M F hr hb hd hx I2 r q
theorem pe_makeL0 {X : Cx} {CX : CXT} {k i : Nat} {f C : Addr} {fd : FuncData} {ps : List Str} {sp : Sp} {dvs : List V} {ds : List Value} {E : XK} {x : Str} {p pos : Pos}
    (M : Mk X.K C f) (F : FnOk X.prog X.w X.K X.mg X.base CX k f fd ps sp) (hr : Room (k + 1) X.A) (hN : X.N[i]? = some x) (hv : Vis X.env.scope x) (hb : Binds X.K fd ps ds) (hd : Vals dvs ds) (hx : Passes CX X E)
    (hdb : (x == ("__debug__" : Str)) = false := by decide) (hcd : (x == ("__classdict__" : Str)) = false := by decide) : PE X (.Call (.Name x p) [] [] pos) (tMakeL i C sp dvs E tNil) := by
  refine ⟨fun pins s σ H Q I h => ?_⟩
  obtain ⟨hs, ht⟩ := h
  refine wpAny_Call_Name_kw (thn ((pe_var (pos := p) hN hv hdb hcd).run pins s σ H (fun v H1 => v = .ref C ∧ H1 = H) I ⟨.ref C, hs, rfl, rfl⟩) fun u s1 ⟨v, H1, I1, r1, q1⟩ => ?_)
  obtain ⟨rfl, rfl⟩ := q1
  cases r1
  exact PySem.W.callWith_K0 I1.kIn M.kp (run_make (us := []) M F hr hb hd hx I1 .nil ht)
def mMakeL (i : Nat) (c : Str) (m : RE) : RE := fun ρ μ => match ρ[i]? with
  | some (some (.val (.cls c'))) => if c' = c then m ρ μ else none
  | _ => none
theorem sn_makeL {i : Nat} {c : Str} {sp : Sp} {dvs : List V} {E : XK} {ta : TA} {m : RE} (hm : SnE K (tMake (He.ga K c) sp dvs E ta) m) : SnE K (tMakeL i (He.ga K c) sp dvs E ta) (mMakeL i c m) := fun ρ μ w μ' h => by
  unfold mMakeL at h
  split at h
  · rename_i c' hi
    split at h
    · rename_i ec
      subst ec
      exact fun P as σ G H R Q q => by
        obtain ⟨v, h1, h2⟩ := R.env i _ hi
        rw [show v = .ref (He.ga K c') from h2] at h1
        exact ⟨h1, hm _ _ _ _ h P as σ G H R Q q⟩
    · cases h
  · cases h
/-! ### C.m(..), a classmethod -/
def mCMeth (c : Str) (f : FX) (dds : List D) (o : RE) (a : RA) : RE := fun ρ μ => match o ρ μ with
  | some (.val (.cls c'), μ1) => if c' = c then match a ρ μ1 with
    | some (ws, μ2) => callX f (.val (.cls c) :: (ws ++ dds.map W.val)) μ2
    | none => none
    else none
  | _ => none
theorem sn_cmeth {c : Str} {f : FX} {E : XK} {to : TE} {ta : TA} {o : RE} {a : RA} (ho : SnE K to o) (ha : SnA K ta a) : SnE K (ClX.tCMeth (He.ga K c) (spF K f) E to ta) (mCMeth c f [] o a) := fun ρ μ w μ' h => by
  unfold mCMeth at h
  split at h
  · rename_i c' μ1 e1
    split at h
    · rename_i ec
      subst ec
      split at h
      · rename_i ws μ2 e2
        rw [List.map_nil, List.append_nil] at h
        exact fun P as σ G H R Q q => ho _ _ _ _ e1 P as σ G H R _ fun v as1 G1 H1 n1 R1 r1 => ⟨r1, ha _ _ _ _ e2 P as1 σ G1 H1 R1 _ fun us as2 G2 H2 n2 R2 r2 =>
          call_fx (ws := .val (.cls c') :: ws) R2 ⟨_, us, rfl, (rfl : RepW K G2 as2 (.val (.cls c')) (.ref (He.ga K c'))), r2⟩ h fun v as3 G3 H3 n3 R3 r3 => q v as3 G3 H3 ((n1.trans n2).trans n3) R3 r3⟩
      · cases h
    · cases h
  · cases h
end
end DX

/-! DXW: the head with defs at any place, dicts of the top, one more Bool; d.get(k) of a dict of the top. -/
namespace DX
open PySem PySem.Spec PyProof.Rows L2 DK He

/-! ### the head -/
structure DefY where
  ad : PySem.W.Frag → Addr
  d : DefD
def recAd (K : PySem.W.Frag) (p : Addr) (kind : String) : Addr := match PySem.W.recIn K p kind with
  | some (.ref g :: _) => g
  | _ => 0
def fnY (K : PySem.W.Frag) (a : Addr) : FnW := match K.lookup a with
  | some ⟨_, _, .func fd, _⟩ => some (fd.name, fd.qualname, fd.params, fd.body, fd.scope, fd.globals, fd.closure, fd.builtins)
  | _ => none
def DefY.ok (K : PySem.W.Frag) (y : DefY) : Bool := PySem.W.keepIn K (.ref (y.ad K)) && (match K.lookup (y.ad K) with
  | some ⟨_, _, .func fd, _⟩ => PySem.W.codeIn K fd.code y.d.qual && (dflB K fd.defaults (y.d.dvs K) && kwdB K fd.kwdefaults (y.d.kws K))
  | _ => false)
theorem DefY.funD {K : PySem.W.Frag} {y : DefY} (e : fnY K (y.ad K) = y.d.val) (c : y.ok K = true) : ∃ fd, FunD K y.d.name y.d.qual y.d.params y.d.body y.d.scope (y.d.dvs K) (y.d.kws K) (y.ad K) fd := by
  obtain ⟨kp, c2⟩ := ba c
  unfold fnY at e
  cases q : K.lookup (y.ad K) with
  | none =>
    rw [q] at c2
    cases c2
  | some o =>
    obtain ⟨oc, od, dt, osl⟩ := o
    rw [q] at c2 e
    cases dt with
    | func fd =>
      obtain ⟨n1, n2, n3, n4, n5, n6, n7, n8, n9, n10, n11, n12, n13, n14, n15⟩ := fd
      have e2 : (some (n1, n2, n3, n4, n5, n6, n7, n15) : FnW) = some (y.d.name, y.d.qual, y.d.params, .stmts y.d.body, y.d.scope, mainGlobals, [], builtinsNs) := e
      simp only [Option.some.injEq, Prod.mk.injEq] at e2
      obtain ⟨h1, h2, h3, h4, h5, h6, h7, h8⟩ := e2
      subst h1 h2 h3 h4 h5 h6 h7 h8
      have c3 : (PySem.W.codeIn K n13 y.d.qual && (dflB K n8 (y.d.dvs K) && kwdB K n9 (y.d.kws K))) = true := c2
      obtain ⟨k1, k2⟩ := ba c3
      obtain ⟨k3, k4⟩ := ba k2
      exact ⟨_, ⟨oc, od, n8, n9, n10, n11, n12, n13, n14, osl, rfl, q, k1, dflB_ok k3, kwdB_ok k4⟩, kp⟩
    | _ => cases c2
abbrev AlY : Type := Bool × List FnW × List (Option (List (Option (Str × Int))))
structure SpecY where
  fa : List Fa
  fn : List DefY
  dc : List (Str × List Str)
  xb : PySem.W.Frag → Bool
/-- what the module's names reach in n steps; what is seen is kept as bits -/
def visitE : List Addr → Nat → List Addr → Nat × List Addr
  | [], m, out => (m, out)
  | a :: as, m, out => bif Nat.beq (Nat.mod (Nat.shiftRight m a) 2) 0 then visitE as (Nat.lor m (Nat.shiftLeft 1 a)) (a :: out) else visitE as m out
def growE (g : Addr → Option Obj) : Nat → List Addr → Nat → List Addr → List Addr
  | 0, _, _, acc => acc
  | n + 1, fr, m, acc => match visitE (fr.flatMap fun a => match g a with
      | some o => He.refsD o
      | none => []) m [] with
    | (m', new) => growE g n new m' (new ++ acc)
def asE (g : Addr → Option Obj) (n : Nat) : List Addr := growE g n [mainGlobals, cStatics] (2 ^ mainGlobals + 2 ^ cStatics) [mainGlobals, cStatics]
def obsYK (S : SpecY) (K : PySem.W.Frag) : AlY := ((S.fa.all fun f => f.ok K) && ((S.fn.all fun d => d.ok K) && S.xb K), S.fn.map fun d => fnY K (d.ad K), S.dc.map fun d => dicW K (ga K d.1))
def obsY (n : Nat) (S : SpecY) (g : Addr → Option Obj) : AlY := obsYK S (frG g (asE g n))
def valY (S : SpecY) (w : World) : AlY := (true, S.fn.map fun d => d.d.val, S.dc.map fun d => some (keysIn w.params d.2))
def SaysY (S : SpecY) (w : World) (K : PySem.W.Frag) : Prop := obsYK S K = valY S w
def hookY (n : Nat) (S : SpecY) : PySem.W.Hook where
  α := AlY
  obs := fun s => obsY n S s.heap.get?
  val := fun w => valY S w
  says := fun w h => ∃ K : PySem.W.Frag, K.In h ∧ SaysY S w K
  of := fun _ _ e => ⟨_, frG_in, e⟩
  keeps := fun _ _ _ ⟨K, hK, c⟩ k => ⟨K, PySem.W.Frag.In.keeps hK k, c⟩
theorem obsY_eq {n : Nat} {S : SpecY} {g : Addr → Option Obj} {s : Shared} (h : ∀ a, g a = s.heap.get? a) : obsY n S g = (hookY n S).obs s := by
  have e : g = s.heap.get? := funext h
  rw [e] <;> rfl
section
variable {S : SpecY} {w : World} {K : PySem.W.Frag}
theorem SaysY.b (c : SaysY S w K) : ((S.fa.all fun f => f.ok K) && ((S.fn.all fun d => d.ok K) && S.xb K)) = true := congrArg (fun z : AlY => z.1) c
theorem SaysY.fact (c : SaysY S w K) (i : Nat) {f : Fa} (h : S.fa[i]? = some f := by rfl) : f.ok K = true := List.all_eq_true.mp (ba c.b).1 f (List.mem_of_getElem? h)
theorem SaysY.x (c : SaysY S w K) : S.xb K = true := (ba (ba c.b).2).2
theorem SaysY.def_ (c : SaysY S w K) (i : Nat) {y : DefY} (h : S.fn[i]? = some y := by rfl) : ∃ fd, FunD K y.d.name y.d.qual y.d.params y.d.body y.d.scope (y.d.dvs K) (y.d.kws K) (y.ad K) fd := by
  have e : S.fn.map (fun d => fnY K (d.ad K)) = S.fn.map fun d => d.d.val := congrArg (fun z : AlY => z.2.1) c
  have e2 : (S.fn.map fun d => fnY K (d.ad K))[i]? = (S.fn.map fun d => d.d.val)[i]? := by rw [e]
  rw [List.getElem?_map, List.getElem?_map, h] at e2
  exact DefY.funD (Option.some.inj e2) (List.all_eq_true.mp (ba (ba c.b).2).1 y (List.mem_of_getElem? h))
theorem SaysY.dict (c : SaysY S w K) (i : Nat) {d : Str × List Str} (h : S.dc[i]? = some d := by rfl) : dicW K (ga K d.1) = some (keysIn w.params d.2) := by
  have e : S.dc.map (fun d => dicW K (ga K d.1)) = S.dc.map fun d => some (keysIn w.params d.2) := congrArg (fun z : AlY => z.2.2) c
  have e2 : (S.dc.map fun d => dicW K (ga K d.1))[i]? = (S.dc.map fun d => some (keysIn w.params d.2))[i]? := by rw [e]
  rw [List.getElem?_map, List.getElem?_map, h] at e2
  exact Option.some.inj e2
end
/-! ### dicts of the top: texts to flat data -/
structure DicT (K : PySem.W.Frag) (w : World) (d : Addr) (kvs : List (Str × D)) : Prop where
  kd : ∃ es n, KDict K w d es n
  hit : ∀ x v, kvs.lookup x = some v → ∃ u, PySem.W.nsIn K d x = some (some u) ∧ ∀ G, ∃ z, Rep K G v z ∧ RelV z u
  miss : ∀ x, kvs.lookup x = none → PySem.W.nsIn K d x = some none
def bls2 (kvs : List (Str × Bool)) : List (Str × D) := kvs.map fun q => (q.1, D.bl q.2)
theorem dicT_of {K : PySem.W.Frag} {w : World} {a : Addr} {kvs : List (Str × Bool)} (h : dicW K a = some (keysIn w.params (kvs.map Prod.fst))) (hv : valsB K a (kvs.map fun q => (q.1, Dv.bl q.2)) = true) : DicT K w a (bls2 kvs) := by
  refine ⟨dicW_ok h, fun x v hx => ?_, fun x hx => ?_⟩
  · have hm : ∃ b, (x, b) ∈ kvs ∧ v = D.bl b := by
      clear h hv
      induction kvs with
      | nil => cases hx
      | cons q r ih =>
        unfold bls2 at hx ih
        rw [List.map_cons, List.lookup_cons] at hx
        cases e : x == q.1 with
        | true =>
          rw [e] at hx
          cases hx
          exact ⟨q.2, by rw [beq_iff_eq.mp e]; simp, rfl⟩
        | false =>
          rw [e] at hx
          obtain ⟨b, h1, h2⟩ := ih hx
          exact ⟨b, List.mem_cons_of_mem _ h1, h2⟩
    obtain ⟨b, hb, rfl⟩ := hm
    obtain ⟨u, h1, h2⟩ := valsB_ok hv (q := (x, Dv.bl b)) (List.mem_map.mpr ⟨(x, b), hb, rfl⟩)
    exact ⟨u, h1, fun G => ⟨.bl b, rfl, h2⟩⟩
  · have hn : x ∉ kvs.map Prod.fst := by
      clear h hv
      induction kvs with
      | nil => simp
      | cons q r ih =>
        unfold bls2 at hx ih
        rw [List.map_cons, List.lookup_cons] at hx
        cases e : x == q.1 with
        | true => rw [e] at hx; cases hx
        | false =>
          rw [e] at hx
          rw [List.map_cons, List.mem_cons]
          rintro (z | z)
          · rw [z] at e
            simp at e
          · exact ih hx z
    obtain ⟨es, n, kd⟩ := dicW_ok h
    have hk : es.toList.map He.keyOf = keysIn w.params (kvs.map Prod.fst) := by
      unfold dicW at h
      rw [kd.at_] at h
      have low := kd.low
      rw [low] at h
      exact Option.some.inj h
    unfold PySem.W.nsIn
    rw [kd.at_]
    dsimp only
    have key : ∀ e ∈ es.toList, ∃ y t, e.key = .str y t ∧ y ∈ kvs.map Prod.fst := fun e he => by
      have hm : He.keyOf e ∈ keysIn w.params (kvs.map Prod.fst) := by rw [← hk]; exact List.mem_map_of_mem he
      unfold keysIn at hm
      obtain ⟨y, hy, ey⟩ := List.mem_map.mp hm
      unfold He.keyOf at ey
      split at ey
      · rename_i x' t q
        have h4 := Option.some.inj ey
        obtain ⟨h5, _⟩ := Prod.mk.inj h4
        exact ⟨x', t, q, h5 ▸ hy⟩
      · cases ey
    have nf : es.toList.find? (fun e => e.key.isStr x) = none := by
      rw [List.find?_eq_none]
      intro e he
      obtain ⟨y, t, ek, hy⟩ := key e he
      rw [ek]
      intro hz
      have : y = x := by
        simpa [Value.isStr] using hz
      exact hn (this ▸ hy)
    rw [nf]
    dsimp only
    have nr : es.toList.any (fun e => e.refKey) = false := by
      rw [List.any_eq_false]
      intro e he
      obtain ⟨y, t, ek, hy⟩ := key e he
      unfold DictEntry.refKey
      rw [ek]
      simp
    rw [nr]
    rfl
end DX

/-! DXX: D.get(k), k in D, D[k] of a dict of the top. -/
namespace DX
open PySem PySem.Spec PyProof.Rows L2 DK

def tKGet (K : PySem.W.Frag) (d : Addr) (te : TE) : TE := fun σ H Q => te σ H fun y H1 => ∃ (z : Str) (r : Option Value) (v0 : V), y = .str z ∧ PySem.W.nsIn K d z = some r ∧ RelV v0 (r.getD .none) ∧ Q v0 H1
section
variable {X : Cx} {d : Addr} {es : Array DictEntry} {n : Nat}
theorem pe_kget {x : Str} {p apos cpos : Pos} {e : Expr} {te : TE} (D : ∃ es n, KDict X.K X.w d es n) (hg : Gl X x) (hm : X.mg x = some (.ref d)) (he : PE X e te) (m : M1 X (.Name x p) "get" apos e cpos) (hdb : (x == ("__debug__" : Str)) = false := by decide) :
    PE X (.Call (.Attribute (.Name x p) "get" apos) [e] [] cpos) (tKGet X.K d te) := by
  obtain ⟨es, n, D⟩ := D
  refine ⟨fun pins s σ H Q I h => ?_⟩
  refine wpAny_Call_method m.base m.few m.line PySem.F.plainAttrs_dict PySem.F.slot_dict_get PySem.F.type_dict_get (ld_glob I hg hm ?_ hdb)
  refine ⟨kd_type D I, fun b q => ?_, ?_⟩
  · cases q
    exact ⟨_, I.kIn _ _ D.at_, rfl⟩
  rw [m.trees]
  refine Calls.callWith_builtin rfl (Calls.evalArgs_plain (Calls.spliced_cons (thn (he.run pins s σ H _ I h) fun iv s2 ⟨y, H2, I2, ry, z, r, v0, ey, en, rv, q2⟩ => Calls.spliced_nil ?_)))
  subst ey
  obtain ⟨t, rfl⟩ := ry
  refine call_meetsIn PySem.F.slot_dict_get (kd_type D I2) PySem.F.entry_dict_get (PySem.F.args_dict_get_2 _ _) (meets_dict_get (strKind X.prog X.w) d (PySem.strKind_is X.prog X.w z t) D.low) ⟨_, PySem.W.mapOf_K (prog := X.prog) I2.kIn D.at_ D.lit, ?_⟩
  have : (PySem.findBy Value.isStrOf es z).getD .none = r.getD .none := by rw [PySem.W.find_K D.at_ en]
  show EP X pins σ Q ((PySem.findBy Value.isStrOf es z).getD .none) _
  rw [this]
  exact ⟨v0, H2, I2.tok _, rv, q2⟩
end
section
variable {K : PySem.W.Frag} {w : World}
def mKGet (kvs : List (Str × D)) (a : RE) : RE := fun ρ μ => match a ρ μ with
  | some (.val (.str z), μ1) => some (.val ((kvs.lookup z).getD .non), μ1)
  | _ => none
theorem sn_kget {d : Addr} {kvs : List (Str × D)} {ta : TE} {a : RE} (T : DicT K w d kvs) (ha : SnE K ta a) : SnE K (tKGet K d ta) (mKGet kvs a) := fun ρ μ w' μ' h => by
  unfold mKGet at h
  split at h
  · rename_i z μ1 e1
    cases h
    exact fun P as σ G H R Q q => ha _ _ _ _ e1 P as σ G H R _ fun v as1 G1 H1 n1 R1 r1 => by
      cases e : kvs.lookup z with
      | none =>
        refine ⟨z, none, .non, r1.1, T.miss z e, rfl, ?_⟩
        rw [e] at q
        exact q _ as1 G1 H1 n1 R1 rfl
      | some x =>
        obtain ⟨u, h1, h2⟩ := T.hit z x e
        obtain ⟨z', h3, h4⟩ := h2 G1
        refine ⟨z, some u, z', r1.1, h1, h4, ?_⟩
        rw [e] at q
        exact q _ as1 G1 H1 n1 R1 h3
  · cases h
end
theorem units2 {k : Nat} {A : Around} (r : Room k A) : A.units + 2 < cLine := by have := r.un; omega
/-! ### facts of the head -/
section
open He
variable {K : PySem.W.Frag}
def crB (K : PySem.W.Frag) (c : Str) : Bool := PySem.W.readsIn K (ga K c) (.type "type") && eqO (PySem.W.specialIn K (.ref (ga K c)) "__getattribute__") (some (some (.builtin "type.__getattribute__")))
theorem crB_ok {c : Str} (h : crB K c = true) : ClX.CRead K (ga K c) (.type "type") := by
  obtain ⟨h1, h2⟩ := ba h
  exact ⟨h1, eqO_ok h2⟩
def cmB (K : PySem.W.Frag) (c m : Str) : Bool := (match PySem.W.findCls K (.ref (ga K c)) (.type "type") m with
  | some (.get (.builtin id) (.ref p) .none (.ref D)) => decide (id = "classmethod.__get__") && (decide (p = ma K (ga K c) m) && decide (D = ga K c))
  | _ => false) && ((match PySem.W.recIn K (ma K (ga K c) m) "classmethod" with
  | some (.ref _ :: _) => true
  | _ => false) && PySem.W.fnIn K (recAd K (ma K (ga K c) m) "classmethod"))
theorem cmB_ok {c m : Str} (h : cmB K c m = true) : ClX.CMet K (ga K c) (.type "type") m (ma K (ga K c) m) (recAd K (ma K (ga K c) m) "classmethod") := by
  obtain ⟨h1, h2⟩ := ba h
  obtain ⟨h3, h4⟩ := ba h2
  refine ⟨?_, ?_, h4⟩
  · split at h1
    · rename_i id p D e
      obtain ⟨k1, k2⟩ := ba h1
      obtain ⟨k3, k4⟩ := ba k2
      rw [e, of_decide_eq_true k1, of_decide_eq_true k3, of_decide_eq_true k4]
    · cases h1
  · split at h3
    · rename_i g rest e
      refine ⟨rest, ?_⟩
      unfold recAd
      rw [e]
    · cases h3
def fsB (K : PySem.W.Frag) (c m : Str) : Bool := eqO (PySem.W.findIn K (.ref (ga K c)) m) (some (some (.ref (ma K (ga K c) m)))) && PySem.W.isFn K (.ref (ma K (ga K c) m))
theorem fsB_ok {c m : Str} (h : fsB K c m = true) : PySem.W.findIn K (.ref (ga K c)) m = some (some (.ref (ma K (ga K c) m))) ∧ PySem.W.isFn K (.ref (ma K (ga K c) m)) = true := by
  obtain ⟨h1, h2⟩ := ba h
  exact ⟨eqO_ok h1, h2⟩
def tup0B (K : PySem.W.Frag) (a : Addr) : Bool := match K.lookup a with
  | some ⟨.type c, _, .seq its _, _⟩ => decide (c = "tuple") && its.isEmpty
  | _ => false
theorem tup0B_ok {a : Addr} (h : tup0B K a = true) (H : Hp) : SqT K H a [] := by
  unfold tup0B at h
  split at h
  · rename_i c od its n sl e
    obtain ⟨h1, h2⟩ := ba h
    have e1 := of_decide_eq_true h1
    have e2 : its = #[] := Array.isEmpty_iff.mp h2
    subst e1 e2
    exact .inr ⟨_, #[], n, e, rfl, rfl, Nat.zero_le _, .nil⟩
  · cases h
end
end DX

/-! DXP: the program's defs, run. Printed by gen/mkp.py. -/
namespace DX
open PySem PySem.Spec L2 DK
def cc_BARRED : List Str := ["and", "do", "if", "mark", "not", "open", "shut", "then"]
def cc_LEARNING : List Str := ["next", "near", "far", "house"]
def cc_WORDS : List Str := ["same", "next", "near", "far", "last", "elder", "house"]
def kb_ANSWERS : List (Str × Bool) := [("open", true), ("shut", false)]
def kv_ANSWERS : List (Str × D) := bls2 kb_ANSWERS
def dd_Story_init_1 : List D := [.tup []]
def m_is_integer : RS :=
  (mRet (mAndV (mUn (isTF "int") (mVar 0)) (mNotV (mUn (isTF "bool") (mVar 0)))))
def f_is_integer : FX := bodyF true 1 1 m_is_integer
def m_is_sequence : RS :=
  (mRet (mUn isSeqF (mVar 0)))
def f_is_sequence : FX := bodyF true 1 1 m_is_sequence
def m_is_name : RS :=
  (mSeq (mIfS (mOr (mNot (mTest (mUn (isTF "str") (mVar 0)))) (mNot (mTest (mChain leF leF (mC (.int 1)) (mUn lenF (mVar 0)) (mC (.int 4)))))) (mRet (mC (.bl false))) mNext)
      (mRet (mAndV (mUn allF (mLc (kStr (mVar 0)) (hName 1) mYes (mOp (inF false) (mVar 1) (mC (.str "abcdefghijklmnopqrstuvwxyz"))) [1])) (mOp (inF true) (mVar 0) (mC (.tup (cc_BARRED.map D.str)))))))
def f_is_name : FX := bodyF true 1 2 m_is_name
def m_Row_fits_1 : RS :=
  (mSeq (mAsg (mOp splitF (mVar 2) (mC (.str " "))) (hName 3))
      (mIfS (mTest (mOp (eqF false) (mOp (inF false) (mIx (mVar 3) (mUn negF (mC (.int 1)))) (mVar 1)) (mOp (eqF false) (mIx (mVar 3) (mC (.int 0))) (mC (.str "not"))))) (mRet (mC (.bl false))) mNext))
def m_Row_fits : RS :=
  (mSeq (mFor (kSeq (mFld "Row" "tests" (mVar 0))) (hName 2) m_Row_fits_1)
      (mRet (mC (.bl true))))
def f_Row_fits : FX := bodyF true 2 4 m_Row_fits
def m_Row_marks_behind_1 : RS :=
  (mSeq (mAsg (mOp splitF (mVar 4) (mC (.str " "))) (hName 5))
      (mIfS (mTest (mOp (eqF false) (mIx (mVar 5) (mC (.int 0))) (mC (.str "mark")))) (mDPut (mVar 3) (mIx (mVar 5) (mC (.int 1))) (mC (.bl true))) (mIfS (mTest (mOp (eqF false) (mIx (mVar 5) (mC (.int 0))) (mC (.str "clear")))) (mDrop (mDPop2 3 (mIx (mVar 5) (mC (.int 1))) (mC .non))) mNext)))
def m_Row_marks_behind : RS :=
  (mSeq (mAsg (mDc (kSeq (mVar 1)) (hName 2) mYes (mVar 2) (mC (.bl true)) [2]) (hName 3))
      (mSeq (mFor (kSeq (mFld "Row" "deeds" (mVar 0))) (hName 4) m_Row_marks_behind_1)
      (mRet (mUn tupF (mUn sortF (mLcKeys 3 (hName 2) mYes (mUn strF (mVar 2)) [2]))))))
def f_Row_marks_behind : FX := bodyF true 2 6 m_Row_marks_behind
def m_names_in : RS :=
  (mSeq (mAsg (mLc2 (kSeq (mVar 0)) (hName 1) mYes (kSeq (mTup (mStar (mFld "Row" "tests" (mVar 1)) (mStar (mFld "Row" "deeds" (mVar 1)) mNil)))) (hName 2) (mTest (mOp (inF false) (mC (.str " ")) (mVar 2))) (mVar 2) [1, 2] [2]) (hName 3))
      (mRet (mUn tupF (mSetSort (kSeq (mVar 3)) (hName 2) mYes (mIx (mOp splitF (mVar 2) (mC (.str " "))) (mUn negF (mC (.int 1)))) [2]))))
def f_names_in : FX := bodyF true 1 4 m_names_in
def m_Tool_word_of : RS :=
  (mSeq (mAsg (mOp minusF (mVar 2) (mVar 1)) (hName 3))
      (mSeq (mIfS (mTest (mOp ltF (mVar 3) (mC (.int 0)))) (mRet (mIf (mTest (mOp (eqF false) (mVar 3) (mUn negF (mC (.int 1))))) (mC (.str "last")) (mC (.str "elder")))) mNext)
      (mSeq (mIfS (mTest (mOp ltF (mVar 3) (mC (.int 2)))) (mRet (mIf (mTest (mOp (eqF false) (mVar 3) (mC (.int 0)))) (mC (.str "same")) (mC (.str "next")))) mNext)
      (mRet (mIf (mTest (mOp leF (mVar 3) (mFld "Tool" "window" (mVar 0)))) (mC (.str "near")) (mC (.str "far")))))))
def f_Tool_word_of : FX := bodyF true 3 4 m_Tool_word_of
def m_is_test : RS :=
  (mSeq (mIfS (mNot (mTest (mUn (isTF "str") (mVar 0)))) (mRet (mC (.bl false))) mNext)
      (mSeq (mAsg (mOp splitF (mVar 0) (mC (.str " "))) (hName 1))
      (mSeq (mIfS (mTest (mOp (eqF false) (mIx (mVar 1) (mC (.int 0))) (mC (.str "not")))) (mAsg (mSl (mVar 1) (mPart (mC (.int 1))) mNoPart) (hName 1)) mNext)
      (mRet (mAndV (mOp (eqF false) (mUn lenF (mVar 1)) (mC (.int 2))) (mAndV (mOp (eqF false) (mIx (mVar 1) (mC (.int 0))) (mC (.str "marked"))) (mCall f_is_name [] (mCons (mIx (mVar 1) (mC (.int 1))) mNil))))))))
def f_is_test : FX := bodyF true 1 2 m_is_test
def m_is_deed : RS :=
  (mSeq (mIfS (mNot (mTest (mUn (isTF "str") (mVar 0)))) (mRet (mC (.bl false))) mNext)
      (mSeq (mAsg (mOp splitF (mVar 0) (mC (.str " "))) (hName 1))
      (mRet (mOrV (mOp (eqF false) (mVar 1) (mLst (mCons (mC (.str "learn")) mNil))) (mAndV (mOp (eqF false) (mUn lenF (mVar 1)) (mC (.int 2))) (mAndV (mOp (inF false) (mIx (mVar 1) (mC (.int 0))) (mTup (mCons (mC (.str "mark")) (mCons (mC (.str "clear")) mNil)))) (mCall f_is_name [] (mCons (mIx (mVar 1) (mC (.int 1))) mNil))))))))
def f_is_deed : FX := bodyF true 1 2 m_is_deed
def m_Tool_init : RS :=
  (mSeq (mIfS (mOr (mNot (mTest (mCall f_is_integer [] (mCons (mVar 1) mNil)))) (mTest (mOp ltF (mVar 1) (mC (.int 1))))) mNever mNext)
      (mSeq (mIfS (mOr (mNot (mTest (mCall f_is_sequence [] (mCons (mVar 2) mNil)))) (mNot (mTest (mUn allF (mLc (kSeq (mVar 2)) (hName 3) mYes (mUn (isCF "Row" ["Row"]) (mVar 3)) [3]))))) mNever mNext)
      (mSeq (mFldS "Tool" "window" (mVar 0) (mVar 1))
      (mSeq (mFldS "Tool" "rows" (mVar 0) (mUn tupF (mVar 2)))
      (mFldS "Tool" "marks" (mVar 0) (mCall f_names_in [] (mCons (mFld "Tool" "rows" (mVar 0)) mNil)))))))
def f_Tool_init : FX := bodyF true 3 4 m_Tool_init
def m_Tool_row_for_1 : RS :=
  (mIfS (mAnd (mTest (mOp (eqF false) (mFld "Row" "word" (mVar 4)) (mVar 1))) (mTest (mMeth "Row" "fits" f_Row_fits [] (mVar 4) (mCons (mVar 2) mNil)))) (mRet (mVar 3)) mNext)
def m_Tool_row_for : RS :=
  (mSeq (mFor (kEnum (mCons (mFld "Tool" "rows" (mVar 0)) mNil)) (hTup 2 (hCons (hName 3) (hCons (hName 4) hNil))) m_Tool_row_for_1)
      (mRet (mC .non)))
def f_Tool_row_for : FX := bodyF true 3 5 m_Tool_row_for
def m_are_tests : RS :=
  (mRet (mAndV (mCall f_is_sequence [] (mCons (mVar 0) mNil)) (mUn allF (mLc (kSeq (mVar 0)) (hName 1) mYes (mCall f_is_test [] (mCons (mVar 1) mNil)) [1]))))
def f_are_tests : FX := bodyF true 1 2 m_are_tests
def m_are_deeds : RS :=
  (mSeq (mIfS (mOr (mNot (mTest (mCall f_is_sequence [] (mCons (mVar 0) mNil)))) (mNot (mTest (mUn allF (mLc (kSeq (mVar 0)) (hName 2) mYes (mCall f_is_deed [] (mCons (mVar 2) mNil)) [2]))))) (mRet (mC (.bl false))) mNext)
      (mRet (mOrV (mOp (eqF false) (mUn lenF (mVar 0)) (mC (.int 0))) (mAndV (mOp (inF false) (mVar 1) (mC (.tup (cc_LEARNING.map D.str)))) (mOp (inF false) (mC (.str "learn")) (mVar 0))))))
def f_are_deeds : FX := bodyF true 2 3 m_are_deeds
def m_Tool_answer : RS :=
  (mSeq (mAsg (mUn tupF (mUn sortF (mLc (kSeq (mVar 2)) (hName 4) mYes (mUn strF (mVar 4)) [4]))) (hName 5))
      (mSeq (mAsg (mMeth "Tool" "row_for" f_Tool_row_for [] (mVar 0) (mCons (mMeth "Tool" "word_of" f_Tool_word_of [] (mVar 0) (mCons (mVar 1) (mCons (mVar 3) mNil))) (mCons (mVar 5) mNil))) (hName 6))
      (mSeq (mIfS (mTest (mIsN false (mVar 6))) (mRet (mTup (mCons (mC (.bl false)) (mCons (mVar 1) (mCons (mVar 5) (mCons (mC .non) mNil)))))) mNext)
      (mSeq (mAsg (mIx (mFld "Tool" "rows" (mVar 0)) (mVar 6)) (hName 7))
      (mRet (mTup (mCons (mFld "Row" "opens" (mVar 7)) (mCons (mIf (mTest (mOp (inF false) (mC (.str "learn")) (mFld "Row" "deeds" (mVar 7)))) (mVar 3) (mVar 1)) (mCons (mMeth "Row" "marks_behind" f_Row_marks_behind [] (mVar 7) (mCons (mVar 5) mNil)) (mCons (mVar 6) mNil))))))))))
def f_Tool_answer : FX := bodyF true 4 8 m_Tool_answer
def m_wrong_in : RS :=
  (mSeq (mIfS (mOr (mNot (mTest (mUn (isTF "str") (mVar 0)))) (mTest (mOp (inF true) (mVar 0) (mC (.tup (cc_WORDS.map D.str)))))) (mRet (mC (.str "word"))) mNext)
      (mSeq (mIfS (mNot (mTest (mCall f_are_tests [] (mCons (mVar 1) mNil)))) (mRet (mC (.str "tests"))) mNext)
      (mSeq (mIfS (mNot (mTest (mCall f_are_deeds [] (mCons (mVar 2) (mCons (mVar 0) mNil))))) (mRet (mC (.str "deeds"))) mNext)
      (mRet (mIf (mAnd (mTest (mUn (isTF "bool") (mVar 3))) (mOr (mTest (mVar 3)) (mTest (mOp (eqF true) (mVar 0) (mC (.str "house")))))) (mC .non) (mC (.str "opens")))))))
def f_wrong_in : FX := bodyF true 4 4 m_wrong_in
def m_Row_init : RS :=
  (mSeq (mAsg (mCall f_wrong_in [] (mCons (mVar 1) (mCons (mVar 2) (mCons (mVar 3) (mCons (mVar 4) mNil))))) (hName 5))
      (mSeq (mIfS (mTest (mIsN true (mVar 5))) mNever mNext)
      (mSeq (mFldS "Row" "word" (mVar 0) (mVar 1))
      (mSeq (mFldS "Row" "tests" (mVar 0) (mUn tupF (mVar 2)))
      (mSeq (mFldS "Row" "deeds" (mVar 0) (mUn tupF (mVar 3)))
      (mFldS "Row" "opens" (mVar 0) (mVar 4)))))))
def f_Row_init : FX := bodyF true 5 6 m_Row_init
def m_Course_init : RS :=
  (mSeq (mFldS "Course" "door" (mVar 0) (mVar 1))
      (mSeq (mFldS "Course" "number" (mVar 0) (mC (.int 0)))
      (mSeq (mFldS "Course" "marks" (mVar 0) (mTup mNil))
      (mSeq (mFldS "Course" "top" (mVar 0) (mC (.int 0)))
      (mSeq (mFldS "Course" "opened" (mVar 0) (mLst mNil))
      (mSeq (mFldS "Course" "shown" (mVar 0) (mC (.int 0)))
      (mFldS "Course" "lower" (mVar 0) (mDNew))))))))
def f_Course_init : FX := bodyF true 2 2 m_Course_init
def m_Course_give : RS :=
  (mSeq (mFldAug "Course" "top" (mVar 0) (mC (.int 1)))
      (mRet (mTup (mCons (mC .non) (mCons (mC .non) (mCons (mLst mNil) mNil))))))
def f_Course_give : FX := bodyF true 1 1 m_Course_give
def m_Course_faults_open_1 : RS :=
  (mDPut (mFld "Course" "lower" (mVar 0)) (mVar 3) (mOrV (mDGet2 (mFld "Course" "lower" (mVar 0)) (mVar 3) (mC (.bl false))) (mOp gtF (mVar 3) (mVar 1))))
def m_Course_faults_open : RS :=
  (mSeq (mAsg (mLstM mNil) (hName 2))
      (mSeq (mIfS (mTest (mUn anyF (mLc (kSeq (mFld "Course" "opened" (mVar 0))) (hName 3) mYes (mOp gtF (mVar 3) (mVar 1)) [3]))) (mDrop (mAppend (mVar 2) (mCons (mC (.str "behind")) mNil))) mNext)
      (mSeq (mIfS (mTest (mDGet2 (mFld "Course" "lower" (mVar 0)) (mVar 1) (mC (.bl false)))) (mDrop (mAppend (mVar 2) (mCons (mC (.str "both")) mNil))) mNext)
      (mSeq (mIfS (mTest (mOp gtF (mFld "Course" "shown" (mVar 0)) (mVar 1))) (mDrop (mAppend (mVar 2) (mCons (mC (.str "told")) mNil))) mNext)
      (mSeq (mFor (kSeq (mFld "Course" "opened" (mVar 0))) (hName 3) m_Course_faults_open_1)
      (mSeq (mDPut (mFld "Course" "lower" (mVar 0)) (mVar 1) (mC (.bl false)))
      (mSeq (mFldS "Course" "opened" (mVar 0) (mLst (mStar (mLc (kSeq (mFld "Course" "opened" (mVar 0))) (hName 3) (mTest (mOp (eqF true) (mVar 3) (mVar 1))) (mVar 3) [3]) (mCons (mVar 1) mNil))))
      (mRet (mVar 2)))))))))
def f_Course_faults_open : FX := bodyF true 2 4 m_Course_faults_open
def m_Course_faults_shut : RS :=
  (mSeq (mIfS (mTest (mOp (eqF true) (mVar 1) (mFld "Course" "top" (mVar 0)))) (mRet (mLst mNil)) mNext)
      (mRet (mIf (mTest (mOp (inF false) (mVar 1) (mFld "Course" "opened" (mVar 0)))) (mLst (mCons (mC (.str "out")) (mCons (mC (.str "shut")) mNil))) (mLst (mCons (mC (.str "shut")) mNil)))))
def f_Course_faults_shut : FX := bodyF true 2 2 m_Course_faults_shut
def m_Played_init : RS :=
  (mSeq (mFldS "Played" "number" (mVar 0) (mFld "Course" "number" (mVar 1)))
      (mSeq (mFldS "Played" "marks" (mVar 0) (mFld "Course" "marks" (mVar 1)))
      (mSeq (mFldS "Played" "opened" (mVar 0) (mUn tupF (mVar 2)))
      (mSeq (mFldS "Played" "done" (mVar 0) (mUn tupF (mVar 3)))
      (mFldS "Played" "met" (mVar 0) (mUn tupF (mVar 4)))))))
def f_Played_init : FX := bodyF true 5 5 m_Played_init
def m_number_in : RS :=
  (mSeq (mIfS (mOr (mNot (mTest (mChain leF leF (mC (.int 1)) (mUn lenF (mVar 0)) (mVar 1)))) (mNot (mTest (mUn allF (mLc (kStr (mVar 0)) (hName 2) mYes (mOp (inF false) (mVar 2) (mC (.str "0123456789"))) [2]))))) (mRet (mC .non)) mNext)
      (mRet (mIf (mOr (mTest (mOp (eqF false) (mVar 0) (mC (.str "0")))) (mTest (mOp (eqF true) (mIx (mVar 0) (mC (.int 0))) (mC (.str "0"))))) (mUn intF2 (mVar 0)) (mC .non))))
def f_number_in : FX := bodyF true 2 3 m_number_in
def m_is_possible : RS :=
  (mSeq (mIfS (mTest (mIsN false (mVar 0))) (mRet (mC (.bl false))) mNext)
      (mRet (mOrV (mOp (eqF false) (mIx (mVar 0) (mC (.int 0))) (mC (.str "give"))) (mAndV (mOp gtF (mVar 1) (mC (.int 0))) (mOrV (mOp (eqF false) (mIx (mVar 0) (mC (.int 0))) (mC (.str "house"))) (mChain leF leF (mC (.int 1)) (mIx (mVar 0) (mC (.int 1))) (mVar 1)))))))
def f_is_possible : FX := bodyF true 2 2 m_is_possible
def m_parts_between : RS :=
  (mRet (mIf (mTest (mOp (eqF false) (mSl (mVar 0) mNoPart (mPart (mC (.int 1)))) (mLst (mCons (mVar 1) mNil)))) (mOp splitF (mJoin (mC (.str " ")) (mSl (mVar 0) (mPart (mC (.int 1))) mNoPart)) (mJoined (jCons (mC (.str " ")) (jCons (mUn fmtF (mVar 2)) (jCons (mC (.str " ")) jNil))))) (mLst mNil)))
def f_parts_between : FX := bodyF true 3 3 m_parts_between
def m_Row_str : RS :=
  (mSeq (mAsg (mIf (mTest (mOp gtF (mUn lenF (mFld "Row" "tests" (mVar 0))) (mC (.int 0)))) (mLst (mCons (mJoined (jCons (mC (.str "if ")) (jCons (mUn fmtF (mJoin (mC (.str " and ")) (mFld "Row" "tests" (mVar 0)))) jNil))) mNil)) (mLst mNil)) (hName 1))
      (mSeq (mAsg (mIf (mTest (mOp gtF (mUn lenF (mFld "Row" "deeds" (mVar 0))) (mC (.int 0)))) (mLst (mCons (mJoined (jCons (mC (.str "do ")) (jCons (mUn fmtF (mJoin (mC (.str " then ")) (mFld "Row" "deeds" (mVar 0)))) jNil))) mNil)) (mLst mNil)) (hName 2))
      (mRet (mJoin (mC (.str " ")) (mLst (mCons (mFld "Row" "word" (mVar 0)) (mStar (mVar 1) (mStar (mVar 2) (mCons (mIf (mTest (mFld "Row" "opens" (mVar 0))) (mC (.str "open")) (mC (.str "shut"))) mNil)))))))))
def f_Row_str : FX := bodyF true 1 3 m_Row_str
def m_is_number : RS :=
  (mRet (mAndV (mCall f_is_integer [] (mCons (mVar 0) mNil)) (mOp geF (mVar 0) (mC (.int 0)))))
def f_is_number : FX := bodyF true 1 1 m_is_number
def m_parse : RS :=
  (mSeq (mAsg (mIf (mTest (mUn (isTF "str") (mVar 0))) (mOp splitF (mVar 0) (mC (.str " "))) (mLst mNil)) (hName 1))
      (mSeq (mIfS (mTest (mOp inF2 (mVar 1) (mTup (mCons (mLst (mCons (mC (.str "give")) mNil)) (mCons (mLst (mCons (mC (.str "house")) mNil)) mNil))))) (mRet (mTup (mCons (mIx (mVar 1) (mC (.int 0))) mNil))) mNext)
      (mSeq (mAsg (mIf (mAnd (mTest (mOp (eqF false) (mUn lenF (mVar 1)) (mC (.int 2)))) (mTest (mOp (eqF false) (mIx (mVar 1) (mC (.int 0))) (mC (.str "try"))))) (mCall f_number_in [] (mCons (mIx (mVar 1) (mC (.int 1))) (mCons (mC (.int 2)) mNil))) (mC .non)) (hName 2))
      (mRet (mIf (mTest (mIsN false (mVar 2))) (mC .non) (mTup (mCons (mC (.str "try")) (mCons (mVar 2) mNil))))))))
def f_parse : FX := bodyF true 1 3 m_parse
def m_Terms_init : RS :=
  (mSeq (mIfS (mAnd (mTest (mIsN true (mVar 1))) (mNot (mTest (mCall f_is_number [] (mCons (mVar 1) mNil))))) mNever mNext)
      (mSeq (mIfS (mNot (mTest (mUn (isTF "bool") (mVar 2)))) mNever mNext)
      (mSeq (mIfS (mNot (mTest (mUn (isTF "bool") (mVar 3)))) mNever mNext)
      (mSeq (mFldS "Terms" "skips" (mVar 0) (mVar 1))
      (mSeq (mFldS "Terms" "elder" (mVar 0) (mVar 2))
      (mFldS "Terms" "house" (mVar 0) (mVar 3)))))))
def f_Terms_init : FX := bodyF true 4 4 m_Terms_init
def m_Tool_after_house : RS :=
  (mSeq (mAsg (mUn tupF (mUn sortF (mLc (kSeq (mVar 2)) (hName 4) mYes (mUn strF (mVar 4)) [4]))) (hName 5))
      (mSeq (mAsg (mIf (mTest (mOp gtF (mVar 3) (mVar 1))) (mMeth "Tool" "row_for" f_Tool_row_for [] (mVar 0) (mCons (mC (.str "house")) (mCons (mVar 5) mNil))) (mC .non)) (hName 6))
      (mSeq (mIfS (mTest (mIsN false (mVar 6))) (mRet (mTup (mCons (mVar 1) (mCons (mVar 5) (mCons (mC .non) mNil))))) mNext)
      (mSeq (mAsg (mIx (mFld "Tool" "rows" (mVar 0)) (mVar 6)) (hName 7))
      (mRet (mTup (mCons (mIf (mTest (mOp (inF false) (mC (.str "learn")) (mFld "Row" "deeds" (mVar 7)))) (mVar 3) (mVar 1)) (mCons (mMeth "Row" "marks_behind" f_Row_marks_behind [] (mVar 7) (mCons (mVar 5) mNil)) (mCons (mVar 6) mNil)))))))))
def f_Tool_after_house : FX := bodyF true 4 8 m_Tool_after_house
def m_never_opens : RS :=
  (mSeq (mAsg (mMeth "Tool" "answer" f_Tool_answer [] (mVar 0) (mCons (mVar 1) (mCons (mVar 2) (mCons (mVar 3) mNil)))) (hTup 4 (hCons (hName 4) (hCons (hName 5) (hCons (hName 6) (hCons (hName 7) hNil))))))
      (mSeq (mIfS (mTest (mVar 4)) (mRet (mC (.bl false))) mNext)
      (mRet (mNotV (mIx (mMeth "Tool" "answer" f_Tool_answer [] (mVar 0) (mCons (mVar 5) (mCons (mVar 6) (mCons (mVar 3) mNil)))) (mC (.int 0)))))))
def f_never_opens : FX := bodyF true 4 8 m_never_opens
def m_Course_put_house : RS :=
  (mSeq (mAsgT (mMeth "Tool" "after_house" f_Tool_after_house [] (mFld "Course" "door" (mVar 0)) (mCons (mFld "Course" "number" (mVar 0)) (mCons (mFld "Course" "marks" (mVar 0)) (mCons (mFld "Course" "top" (mVar 0)) mNil)))) (uTup 3 (uCons (uFld "Course" "number" (mVar 0)) (uCons (uFld "Course" "marks" (mVar 0)) (uCons (uName 1) uNil)))))
      (mSeq (mFldS "Course" "shown" (mVar 0) (mFld "Course" "top" (mVar 0)))
      (mRet (mTup (mCons (mC .non) (mCons (mVar 1) (mCons (mLst mNil) mNil)))))))
def f_Course_put_house : FX := bodyF true 1 2 m_Course_put_house
def m_Course_try_card : RS :=
  (mSeq (mAsgT (mMeth "Tool" "answer" f_Tool_answer [] (mFld "Course" "door" (mVar 0)) (mCons (mFld "Course" "number" (mVar 0)) (mCons (mFld "Course" "marks" (mVar 0)) (mCons (mVar 1) mNil)))) (uTup 4 (uCons (uName 2) (uCons (uFld "Course" "number" (mVar 0)) (uCons (uFld "Course" "marks" (mVar 0)) (uCons (uName 3) uNil))))))
      (mRet (mTup (mCons (mVar 2) (mCons (mVar 3) (mCons (mIf (mTest (mVar 2)) (mMeth "Course" "faults_open" f_Course_faults_open [] (mVar 0) (mCons (mVar 1) mNil)) (mMeth "Course" "faults_shut" f_Course_faults_shut [] (mVar 0) (mCons (mVar 1) mNil))) mNil))))))
def f_Course_try_card : FX := bodyF true 2 4 m_Course_try_card
def m_Course_is_stuck : RS :=
  (mRet (mAndV (mOp gtF (mFld "Course" "top" (mVar 0)) (mC (.int 0))) (mCall f_never_opens [] (mCons (mFld "Course" "door" (mVar 0)) (mCons (mFld "Course" "number" (mVar 0)) (mCons (mFld "Course" "marks" (mVar 0)) (mCons (mFld "Course" "top" (mVar 0)) mNil)))))))
def f_Course_is_stuck : FX := bodyF true 1 1 m_Course_is_stuck
def m_needs_of_1 : RS :=
  (mIfS (mTest (mOp (eqF false) (mIx (mVar 5) (mC (.int 0))) (mC (.str "give")))) (mSeq (mAsg (mOp maxF (mVar 3) (mOp minusF (mVar 1) (mVar 2))) (hName 3))
      (mAug 1 (mC (.int 1)))) (mIfS (mTest (mOp (eqF false) (mIx (mVar 5) (mC (.int 0))) (mC (.str "try")))) (mSeq (mAsg (mOp maxF (mVar 2) (mUn intF (mIx (mVar 5) (mC (.int 1))))) (hName 2))
      (mAsg (mOrV (mVar 4) (mOp (eqF true) (mIx (mVar 5) (mC (.int 1))) (mVar 1))) (hName 4))) mNext))
def m_needs_of : RS :=
  (mSeq (mParN [1, 2, 3, 4] (mCons (mC (.int 0)) (mCons (mC (.int 0)) (mCons (mC (.int 0)) (mCons (mC (.bl false)) mNil)))))
      (mSeq (mFor (kSeq (mVar 0)) (hName 5) m_needs_of_1)
      (mRet (mMake "Terms" f_Terms_init [] (mCons (mVar 3) (mCons (mVar 4) (mCons (mOp inF2 (mTup (mCons (mC (.str "house")) mNil)) (mVar 0)) mNil)))))))
def f_needs_of : FX := bodyF true 1 6 m_needs_of
def m_play_1 : RS :=
  (mSeq (mIfS (mTest (mOp (eqF false) (mIx (mVar 7) (mC (.int 0))) (mC (.str "try")))) (mSeq (mAsg (mMeth "Course" "try_card" f_Course_try_card [] (mVar 2) (mCons (mIx (mVar 7) (mC (.int 1))) mNil)) (hTup 3 (hCons (hName 8) (hCons (hName 9) (hCons (hName 10) hNil)))))
      (mDrop (mAppend (mVar 3) (mCons (mVar 8) mNil)))) (mAsg (mIf (mTest (mOp (eqF false) (mIx (mVar 7) (mC (.int 0))) (mC (.str "give")))) (mMeth "Course" "give" f_Course_give [] (mVar 2) mNil) (mMeth "Course" "put_house" f_Course_put_house [] (mVar 2) mNil)) (hTup 3 (hCons (hName 8) (hCons (hName 9) (hCons (hName 10) hNil))))))
      (mSeq (mDrop (mAppend (mVar 4) (mCons (mVar 9) mNil)))
      (mSeq (mAsg (mIf (mTest (mMeth "Course" "is_stuck" f_Course_is_stuck [] (mVar 2) mNil)) (mLst (mStar (mVar 10) (mCons (mC (.str "stuck")) mNil))) (mVar 10)) (hName 10))
      (mDrop (mExtend (mVar 5) (mCons (mLc (kSeq (mUn sortF (mLc (kSeq (mVar 10)) (hName 12) mYes (mUn strF (mVar 12)) [12]))) (hName 11) mYes (mTup (mCons (mVar 6) (mCons (mVar 11) mNil))) [11]) mNil))))))
def m_play : RS :=
  (mSeq (mParN [2, 3, 4, 5] (mCons (mMakeM "Course" f_Course_init [] (mCons (mVar 0) mNil)) (mCons (mLstM mNil) (mCons (mLstM mNil) (mCons (mLstM mNil) mNil)))))
      (mSeq (mFor (kEnum (mCons (mFld "Story" "parsed" (mVar 1)) mNil)) (hTup 2 (hCons (hName 6) (hCons (hName 7) hNil))) m_play_1)
      (mRet (mMake "Played" f_Played_init [] (mCons (mVar 2) (mCons (mVar 3) (mCons (mVar 4) (mCons (mVar 5) mNil))))))))
def f_play : FX := bodyF true 2 13 m_play
def m_Story_init_1 : RS :=
  (mSeq (mAsg (mCall f_parse [] (mCons (mVar 5) mNil)) (hName 6))
      (mSeq (mIfS (mNot (mTest (mCall f_is_possible [] (mCons (mVar 6) (mCons (mVar 3) mNil))))) mNever mNext)
      (mSeq (mAug 3 (mUn intF (mOp (eqF false) (mIx (mVar 6) (mC (.int 0))) (mC (.str "give")))))
      (mDrop (mAppend (mVar 2) (mCons (mVar 6) mNil))))))
def m_Story_init : RS :=
  (mSeq (mIfS (mNot (mTest (mCall f_is_sequence [] (mCons (mVar 1) mNil)))) mNever mNext)
      (mSeq (mPar 2 3 (mCons (mLstM mNil) (mCons (mC (.int 0)) mNil)))
      (mSeq (mFor (kEnum (mCons (mVar 1) mNil)) (hTup 2 (hCons (hName 4) (hCons (hName 5) hNil))) m_Story_init_1)
      (mSeq (mFldS "Story" "events" (mVar 0) (mUn tupF (mVar 1)))
      (mSeq (mFldS "Story" "parsed" (mVar 0) (mUn tupF (mVar 2)))
      (mFldS "Story" "needs" (mVar 0) (mCall f_needs_of [] (mCons (mFld "Story" "parsed" (mVar 0)) mNil))))))))
def f_Story_init : FX := bodyF true 2 7 m_Story_init
def m_Row_read : RS :=
  (mSeq (mAsg (mOp splitF (mVar 1) (mC (.str " "))) (hName 2))
      (mSeq (mAsg (mSl (mVar 2) (mPart (mC (.int 1))) (mPart (mUn negF (mC (.int 1))))) (hName 3))
      (mSeq (mAsg (mIf (mTest (mOp (inF false) (mC (.str "do")) (mVar 3))) (mIndex (mVar 3) (mC (.str "do"))) (mUn lenF (mVar 3))) (hName 4))
      (mSeq (mAsg (mCall f_parts_between [] (mCons (mSl (mVar 3) mNoPart (mPart (mVar 4))) (mCons (mC (.str "if")) (mCons (mC (.str "and")) mNil)))) (hName 5))
      (mSeq (mAsg (mCall f_parts_between [] (mCons (mSl (mVar 3) (mPart (mVar 4)) mNoPart) (mCons (mC (.str "do")) (mCons (mC (.str "then")) mNil)))) (hName 6))
      (mSeq (mAsg (mKGet kv_ANSWERS (mIx (mVar 2) (mUn negF (mC (.int 1))))) (hName 7))
      (mSeq (mIfS (mOr (mTest (mIsN false (mVar 7))) (mTest (mIsN true (mCall f_wrong_in [] (mCons (mIx (mVar 2) (mC (.int 0))) (mCons (mVar 5) (mCons (mVar 6) (mCons (mVar 7) mNil)))))))) mNever mNext)
      (mSeq (mAsg (mMakeL 0 "Row" (mMake "Row" f_Row_init [] (mCons (mIx (mVar 2) (mC (.int 0))) (mCons (mVar 5) (mCons (mVar 6) (mCons (mVar 7) mNil)))))) (hName 8))
      (mSeq (mIfS (mTest (mOp (eqF true) (mOwn1 "Row" okStr f_Row_str (mVar 8)) (mVar 1))) mNever mNext)
      (mRet (mVar 8)))))))))))
def f_Row_read : FX := bodyF true 2 9 m_Row_read
def m_Story_read : RS :=
  (mSeq (mIfS (mTest (mOp (eqF false) (mVar 1) (mC (.str "-")))) (mRet (mMakeL 0 "Story" (mMake "Story" f_Story_init dd_Story_init_1 mNil))) mNext)
      (mSeq ((mAsg (mMakeL 0 "Story" (mMake "Story" f_Story_init [] (mCons (mOp splitF (mVar 1) (mC (.str "; "))) mNil))) (hName 2)))
      (mRet (mVar 2))))
def f_Story_read : FX := bodyF true 2 4 m_Story_read
def m_row_in : RS :=
  (mSeq ((mAsg (mCMeth "Row" f_Row_read [] (mC (.cls "Row")) (mCons (mVar 0) mNil)) (hName 2)))
      (mRet (mVar 2)))
def f_row_in : FX := bodyF true 2 4 m_row_in
def m_Tool_read : RS :=
  (mSeq (mStar1 2 3 (mOp splitF (mVar 1) (mC (.str "\n"))))
      (mSeq (mAsg (mOp splitF (mVar 2) (mC (.str " "))) (hName 4))
      (mSeq (mAsg (mIf (mAnd (mTest (mOp (eqF false) (mUn lenF (mVar 4)) (mC (.int 2)))) (mTest (mOp (eqF false) (mIx (mVar 4) (mC (.int 0))) (mC (.str "window"))))) (mCall f_number_in [] (mCons (mIx (mVar 4) (mC (.int 1))) (mCons (mC (.int 2)) mNil))) (mC .non)) (hName 5))
      (mSeq (mIfS (mOr (mTest (mIsN false (mVar 5))) (mTest (mOp (eqF false) (mVar 5) (mC (.int 0))))) mNever mNext)
      (mRet (mMakeL 0 "Tool" (mMake "Tool" f_Tool_init [] (mCons (mVar 5) (mCons (mLc (kEnum (mCons (mVar 3) mNil)) (hTup 2 (hCons (hName 6) (hCons (hName 7) hNil))) mYes (mCall f_row_in [] (mCons (mVar 7) (mCons (mOp plusF (mVar 6) (mC (.int 1))) mNil))) [6, 7]) mNil)))))))))
def f_Tool_read : FX := bodyF true 2 8 m_Tool_read
def m_Tool_need_row : RS :=
  (mIfS (mNot (mTest (mChain leF ltF (mC (.int 0)) (mVar 1) (mUn lenF (mFld "Tool" "rows" (mVar 0)))))) mNever mNext)
def f_Tool_need_row : FX := bodyF true 2 2 m_Tool_need_row
def m_Tool_len : RS :=
  (mRet (mUn lenF (mFld "Tool" "rows" (mVar 0))))
def f_Tool_len : FX := bodyF true 1 1 m_Tool_len
def m_Row_eq : RS :=
  (mRet (mAndV (mUn (isCF "Row" ["Row"]) (mVar 1)) (mOp (eqF false) (mOwn1 "Row" okStr f_Row_str (mVar 0)) (mOwn1 "Row" okStr f_Row_str (mVar 1)))))
def f_Row_eq : FX := bodyF true 2 2 m_Row_eq
def m_Tool_without : RS :=
  (mSeq (mDrop (mMeth "Tool" "need_row" f_Tool_need_row [] (mVar 0) (mCons (mVar 1) mNil)))
      (mRet (mMake "Tool" f_Tool_init [] (mCons (mFld "Tool" "window" (mVar 0)) (mCons (mLst (mStar (mSl (mFld "Tool" "rows" (mVar 0)) mNoPart (mPart (mVar 1))) (mStar (mSl (mFld "Tool" "rows" (mVar 0)) (mPart (mOp plusF (mVar 1) (mC (.int 1)))) mNoPart) mNil))) mNil)))))
def f_Tool_without : FX := bodyF true 2 2 m_Tool_without
def m_Tool_at_window : RS :=
  (mRet (mMake "Tool" f_Tool_init [] (mCons (mVar 1) (mCons (mFld "Tool" "rows" (mVar 0)) mNil))))
def f_Tool_at_window : FX := bodyF true 2 2 m_Tool_at_window
def m_Tool_str : RS :=
  (mRet (mJoin (mC (.str "\n")) (mLst (mCons (mJoined (jCons (mC (.str "window ")) (jCons (mUn fmtF (mFld "Tool" "window" (mVar 0))) jNil))) (mStar (mLc (kSeq (mFld "Tool" "rows" (mVar 0))) (hName 1) mYes (mOwn1 "Row" okStr f_Row_str (mVar 1)) [1]) mNil)))))
def f_Tool_str : FX := bodyF true 1 2 m_Tool_str
def m_Tool_eq : RS :=
  (mRet (mAndV (mUn (isCF "Tool" ["Tool"]) (mVar 1)) (mOp (eqF false) (mOwn1 "Tool" okStr f_Tool_str (mVar 0)) (mOwn1 "Tool" okStr f_Tool_str (mVar 1)))))
def f_Tool_eq : FX := bodyF true 2 2 m_Tool_eq
def m_Story_len : RS :=
  (mRet (mUn lenF (mFld "Story" "events" (mVar 0))))
def f_Story_len : FX := bodyF true 1 1 m_Story_len
def m_Live_story : RS :=
  (mRet (mFld "Live" "line" (mVar 0)))
def f_Live_story : FX := bodyF true 1 1 m_Live_story
def m_Live_played : RS :=
  (mRet (mFld "Live" "shown_now" (mVar 0)))
def f_Live_played : FX := bodyF true 1 1 m_Live_played
def m_Live_stand : RS :=
  (mRet (mTup (mCons (mFld "Live" "used_tool" (mVar 0)) (mCons (mFld "Live" "line" (mVar 0)) (mCons (mFld "Live" "shown_now" (mVar 0)) mNil)))))
def f_Live_stand : FX := bodyF true 1 1 m_Live_stand
def m_Live_go_back : RS :=
  (mAsgT (mVar 1) (uTup 3 (uCons (uFld "Live" "used_tool" (mVar 0)) (uCons (uFld "Live" "line" (mVar 0)) (uCons (uFld "Live" "shown_now" (mVar 0)) uNil)))))
def f_Live_go_back : FX := bodyF true 2 2 m_Live_go_back
def m_Live_len : RS :=
  (mRet (mUn lenF (mFld "Live" "past" (mVar 0))))
def f_Live_len : FX := bodyF true 1 1 m_Live_len
def m_Live_undo : RS :=
  (mSeq (mIfS (mTest (mOp (eqF false) (mUn lenF (mFld "Live" "past" (mVar 0))) (mC (.int 0)))) (mRet (mC (.bl false))) mNext)
      (mSeq (mDrop (mMeth "Live" "go_back" f_Live_go_back [] (mVar 0) (mCons (mIx (mFld "Live" "past" (mVar 0)) (mUn negF (mC (.int 1)))) mNil)))
      (mSeq (mFldS "Live" "past" (mVar 0) (mSl (mFld "Live" "past" (mVar 0)) mNoPart (mPart (mUn negF (mC (.int 1))))))
      (mRet (mC (.bl true))))))
def f_Live_undo : FX := bodyF true 1 1 m_Live_undo
def m_Live_change : RS :=
  (mSeq (mAsg (mMeth "Live" "stand" f_Live_stand [] (mVar 0) mNil) (hName 2))
      (mSeq (mFldS "Live" "shown_now" (mVar 0) (mCall f_play [] (mCons (mVar 1) (mCons (mFld "Live" "line" (mVar 0)) mNil))))
      (mSeq (mFldS "Live" "used_tool" (mVar 0) (mVar 1))
      (mFldS "Live" "past" (mVar 0) (mTup (mStar (mFld "Live" "past" (mVar 0)) (mCons (mVar 2) mNil)))))))
def f_Live_change : FX := bodyF true 2 3 m_Live_change
def m_Story_more : RS :=
  (mSeq (mIfS (mNot (mTest (mCall f_is_sequence [] (mCons (mVar 1) mNil)))) mNever mNext)
      (mRet (mMake "Story" f_Story_init [] (mCons (mLst (mStar (mFld "Story" "events" (mVar 0)) (mStar (mVar 1) mNil))) mNil))))
def f_Story_more : FX := bodyF true 2 2 m_Story_more
def m_Live_init : RS :=
  (mSeq (mFldS "Live" "used_tool" (mVar 0) (mVar 1))
      (mSeq (mFldS "Live" "line" (mVar 0) (mMake "Story" f_Story_init dd_Story_init_1 mNil))
      (mSeq (mFldS "Live" "shown_now" (mVar 0) (mCall f_play [] (mCons (mVar 1) (mCons (mFld "Live" "line" (mVar 0)) mNil))))
      (mFldS "Live" "past" (mVar 0) (mTup mNil)))))
def f_Live_init : FX := bodyF true 2 2 m_Live_init
def m_Live_go : RS :=
  (mSeq (mFldS "Live" "line" (mVar 0) (mMeth "Story" "more" f_Story_more [] (mFld "Live" "line" (mVar 0)) (mCons (mLst (mCons (mVar 1) mNil)) mNil)))
      (mSeq (mFldS "Live" "shown_now" (mVar 0) (mCall f_play [] (mCons (mFld "Live" "used_tool" (mVar 0)) (mCons (mFld "Live" "line" (mVar 0)) mNil))))
      (mRet (mIf (mTest (mOp (eqF false) (mIx (mCall f_parse [] (mCons (mVar 1) mNil)) (mC (.int 0))) (mC (.str "try")))) (mIx (mFld "Played" "opened" (mFld "Live" "shown_now" (mVar 0))) (mUn negF (mC (.int 1)))) (mC .non)))))
def f_Live_go : FX := bodyF true 2 2 m_Live_go
def m_Live_do : RS :=
  (mSeq (mAsg (mMeth "Live" "stand" f_Live_stand [] (mVar 0) mNil) (hName 2))
      (mSeq (mAsg (mMeth "Live" "go" f_Live_go [] (mVar 0) (mCons (mVar 1) mNil)) (hName 3))
      (mSeq (mFldS "Live" "past" (mVar 0) (mTup (mStar (mFld "Live" "past" (mVar 0)) (mCons (mVar 2) mNil))))
      (mRet (mVar 3)))))
def f_Live_do : FX := bodyF true 2 4 m_Live_do
def m_Live_several_1 : RS :=
  ((mDrop (mAppend (mVar 3) (mCons (mMeth "Live" "go" f_Live_go [] (mVar 0) (mCons (mVar 5) mNil)) mNil))))
def m_Live_several : RS :=
  (mSeq (mPar 2 3 (mCons (mMeth "Live" "stand" f_Live_stand [] (mVar 0) mNil) (mCons (mLstM mNil) mNil)))
      (mSeq (mIfS (mNot (mTest (mCall f_is_sequence [] (mCons (mVar 1) mNil)))) mNever mNext)
      (mSeq (mFor (kEnum (mCons (mVar 1) mNil)) (hTup 2 (hCons (hName 4) (hCons (hName 5) hNil))) m_Live_several_1)
      (mSeq (mFldS "Live" "past" (mVar 0) (mTup (mStar (mFld "Live" "past" (mVar 0)) (mCons (mVar 2) mNil))))
      (mRet (mUn tupF (mVar 3)))))))
def f_Live_several : FX := bodyF true 2 7 m_Live_several
end DX

/-! DXM: the equations by which a run is simplified. -/
namespace DX
open PySem PySem.Spec L2 DK
variable {ρ : Env'} {μ : Mu}
def Out.then (o : Out) (b : RS) : Option Out := match o with
  | .nx ρ μ => b ρ μ
  | o => some o
theorem then_nx {b : RS} : Out.then (.nx ρ μ) b = b ρ μ := rfl
theorem then_rt {w : W} {b : RS} : Out.then (.rt w μ) b = some (.rt w μ) := rfl
theorem then_ct {b : RS} : Out.then (.ct ρ μ) b = some (.ct ρ μ) := rfl
theorem then_bk {b : RS} : Out.then (.bk ρ μ) b = some (.bk ρ μ) := rfl
theorem q_seq {a b : RS} : mSeq a b ρ μ = (a ρ μ).bind fun o => Out.then o b := by
  unfold mSeq
  cases a ρ μ with
  | none => rfl
  | some o => cases o <;> rfl
theorem ite_bind {α β : Type} {p : Prop} [Decidable p] {x y : Option α} {f : α → Option β} : (if p then x else y).bind f = if p then x.bind f else y.bind f := by split <;> rfl
theorem q_ifS {t : RB} {a b : RS} : mIfS t a b ρ μ = (t ρ μ).bind fun p => if p.1 = true then a ρ p.2 else b ρ p.2 := by
  unfold mIfS
  cases t ρ μ with
  | none => rfl
  | some p => obtain ⟨k, μ1⟩ := p; cases k <;> rfl
theorem q_if {t : RB} {a b : RE} : mIf t a b ρ μ = (t ρ μ).bind fun p => if p.1 = true then a ρ p.2 else b ρ p.2 := by
  unfold mIf
  cases t ρ μ with
  | none => rfl
  | some p => obtain ⟨k, μ1⟩ := p; cases k <;> rfl
theorem q_and {a b : RB} : mAnd a b ρ μ = (a ρ μ).bind fun p => if p.1 = true then b ρ p.2 else some (false, p.2) := by
  unfold mAnd
  cases a ρ μ with
  | none => rfl
  | some p => obtain ⟨k, μ1⟩ := p; cases k <;> rfl
theorem q_or {a b : RB} : mOr a b ρ μ = (a ρ μ).bind fun p => if p.1 = true then some (true, p.2) else b ρ p.2 := by
  unfold mOr
  cases a ρ μ with
  | none => rfl
  | some p => obtain ⟨k, μ1⟩ := p; cases k <;> rfl
theorem q_not {a : RB} : mNot a ρ μ = (a ρ μ).bind fun p => some (!p.1, p.2) := by
  unfold mNot
  cases a ρ μ <;> rfl
theorem q_andV {a b : RE} : mAndV a b ρ μ = (mTest a ρ μ).bind fun p => if p.1 = true then b ρ p.2 else some (.val (.bl false), p.2) := by
  unfold mAndV
  cases mTest a ρ μ with
  | none => rfl
  | some p => obtain ⟨k, μ1⟩ := p; cases k <;> rfl
theorem q_orV {a b : RE} : mOrV a b ρ μ = (mTest a ρ μ).bind fun p => if p.1 = true then some (.val (.bl true), p.2) else b ρ p.2 := by
  unfold mOrV
  cases mTest a ρ μ with
  | none => rfl
  | some p => obtain ⟨k, μ1⟩ := p; cases k <;> rfl
theorem q_notV {a : RE} : mNotV a ρ μ = (mTest a ρ μ).bind fun p => some (.val (.bl (!p.1)), p.2) := by
  unfold mNotV
  cases mTest a ρ μ <;> rfl
theorem q_test {a : RE} : mTest a ρ μ = (a ρ μ).bind fun p => (isBl p.1).bind fun b => some (b, p.2) := by
  unfold mTest
  cases a ρ μ with
  | none => rfl
  | some p => obtain ⟨w, μ1⟩ := p; dsimp only [Option.bind]; cases isBl w <;> rfl
theorem q_op {f : D → D → Option D} {a b : RE} : mOp f a b ρ μ = (a ρ μ).bind fun p => (b ρ p.2).bind fun q => (view q.2 p.1).bind fun d => (view q.2 q.1).bind fun e => (f d e).bind fun r => some (.val r, q.2) := by
  unfold mOp
  cases a ρ μ with
  | none => rfl
  | some p =>
    obtain ⟨w, μ1⟩ := p
    dsimp only [Option.bind]
    cases b ρ μ1 with
    | none => rfl
    | some q =>
      obtain ⟨v, μ2⟩ := q
      dsimp only
      cases view μ2 w with
      | none => cases view μ2 v <;> rfl
      | some d =>
        cases view μ2 v with
        | none => rfl
        | some e => dsimp only; cases f d e <;> rfl
theorem q_un {f : D → Option D} {a : RE} : mUn f a ρ μ = (a ρ μ).bind fun p => (view p.2 p.1).bind fun d => (f d).bind fun r => some (.val r, p.2) := by
  unfold mUn
  cases a ρ μ with
  | none => rfl
  | some p =>
    obtain ⟨w, μ1⟩ := p
    dsimp only [Option.bind]
    cases view μ1 w with
    | none => rfl
    | some d => dsimp only; cases f d <;> rfl
theorem q_asg {a : RE} {g : RG} : mAsg a g ρ μ = (a ρ μ).bind fun p => (g p.1 ρ).bind fun ρ1 => some (.nx ρ1 p.2) := by
  unfold mAsg
  cases a ρ μ with
  | none => rfl
  | some p => obtain ⟨w, μ1⟩ := p; dsimp only [Option.bind]; cases g w ρ <;> rfl
theorem q_ret {a : RE} : mRet a ρ μ = (a ρ μ).bind fun p => some (.rt p.1 p.2) := by
  unfold mRet
  cases a ρ μ <;> rfl
theorem q_drop {a : RE} : mDrop a ρ μ = (a ρ μ).bind fun p => some (.nx ρ p.2) := by
  unfold mDrop
  cases a ρ μ <;> rfl
theorem q_cons {a : RE} {r : RA} : mCons a r ρ μ = (a ρ μ).bind fun p => (r ρ p.2).bind fun q => some (p.1 :: q.1, q.2) := by
  unfold mCons
  cases a ρ μ with
  | none => rfl
  | some p => obtain ⟨w, μ1⟩ := p; dsimp only [Option.bind]; cases r ρ μ1 <;> rfl
theorem q_dat {a : RA} : dat a ρ μ = (a ρ μ).bind fun p => frzL p.2 p.1 := by
  unfold dat
  cases a ρ μ <;> rfl
theorem q_dat1 {a : RE} : dat1 a ρ μ = (a ρ μ).bind fun p => frz1 p.2 p.1 := by
  unfold dat1
  cases a ρ μ <;> rfl
theorem q_tup {a : RA} : mTup a ρ μ = (dat a ρ μ).bind fun p => if p.1.length ≤ LB then some (.val (.tup p.1), p.2) else none := by
  unfold mTup
  cases dat a ρ μ <;> rfl
theorem q_lst {a : RA} : mLst a ρ μ = (dat a ρ μ).bind fun p => if p.1.length ≤ LB then some (.val (.lst p.1), p.2) else none := by
  unfold mLst
  cases dat a ρ μ <;> rfl
theorem q_lstM {a : RA} : mLstM a ρ μ = (dat a ρ μ).bind fun p => if p.1.length ≤ LB then some (.loc p.2.length, p.2 ++ [.lst p.1]) else none := by
  unfold mLstM
  cases dat a ρ μ <;> rfl
theorem q_call {f : FX} {dds : List D} {a : RA} : mCall f dds a ρ μ = (a ρ μ).bind fun p => callX f (p.1 ++ dds.map W.val) p.2 := by
  unfold mCall
  cases a ρ μ <;> rfl
theorem q_make {c : Str} {f : FX} {dds : List D} {a : RA} : mMake c f dds a ρ μ = (a ρ μ).bind fun p => makeX c f (p.1 ++ dds.map W.val) p.2 := by
  unfold mMake
  cases a ρ μ <;> rfl
theorem q_meth {c m : Str} {f : FX} {dds : List D} {o : RE} {a : RA} : mMeth c m f dds o a ρ μ = (o ρ μ).bind fun p => if recvOk c m p.2 p.1 = true then (a ρ p.2).bind fun q => callX f (p.1 :: (q.1 ++ dds.map W.val)) q.2 else none := by
  unfold mMeth
  cases o ρ μ with
  | none => rfl
  | some p =>
    obtain ⟨w, μ1⟩ := p
    dsimp only [Option.bind]
    split
    · cases a ρ μ1 <;> rfl
    · rfl
theorem q_for {i : RI} {g : RG} {b : RS} : mFor i g b ρ μ = (i ρ μ).bind fun p => loopR g b p.2.1 p.1 ρ p.2.2 := by
  unfold mFor
  cases i ρ μ <;> rfl
theorem q_lc {i : RI} {g : RG} {t : RB} {e : RE} {vs : List Nat} : mLc i g t e vs ρ μ = (i ρ μ).bind fun p => if p.1.length ≤ LB then (lcR g t e p.2.1 (wipeE ρ vs) p.1 p.2.2).bind fun q => some (.val (.lst q.1), q.2) else none := by
  unfold mLc
  cases i ρ μ with
  | none => rfl
  | some p =>
    dsimp only [Option.bind]
    split
    · cases lcR g t e p.2.1 (wipeE ρ vs) p.1 p.2.2 <;> rfl
    · rfl
theorem q_seqI {a : RE} : kSeq a ρ μ = (a ρ μ).bind fun p => (seqOf p.2 p.1).bind fun xs => some (xs, guardOf p.1 xs, p.2) := by
  unfold kSeq
  cases a ρ μ with
  | none => rfl
  | some p => obtain ⟨w, μ1⟩ := p; dsimp only [Option.bind]; cases seqOf μ1 w <;> rfl
theorem q_sl {a : RE} {l u : RO} : mSl a l u ρ μ = (a ρ μ).bind fun p => (l ρ p.2).bind fun lo => (u ρ lo.2).bind fun hi => (view hi.2 p.1).bind fun d => (slF lo.1 hi.1 d).bind fun r => some (.val r, hi.2) := by
  unfold mSl
  cases a ρ μ with
  | none => rfl
  | some p =>
    dsimp only [Option.bind]
    cases l ρ p.2 with
    | none => rfl
    | some lo =>
      dsimp only
      cases u ρ lo.2 with
      | none => rfl
      | some hi =>
        dsimp only
        cases view hi.2 p.1 with
        | none => rfl
        | some d => dsimp only; cases slF lo.1 hi.1 d <;> rfl
theorem q_part {a : RE} {n : Int} {μ1 : Mu} (h : a ρ μ = some (.val (.int n), μ1)) : mPart a ρ μ = some (some n, μ1) := by
  unfold mPart
  rw [h]
/-- xs[i] of data -/
theorem q_ix {a b : RE} {d : D} {n : Int} {r : D} {μ1 μ2 : Mu} (h1 : a ρ μ = some (.val d, μ1)) (h2 : b ρ μ1 = some (.val (.int n), μ2)) (h : ixF d (.int n) = some r) : mIx a b ρ μ = some (.val r, μ2) := by
  unfold mIx
  rw [h1]
  dsimp only
  rw [h2]
  dsimp only [view]
  rw [h]
end DX

/-! DXN: loops and comprehensions that are run, by their items. -/
namespace DX
open PySem PySem.Spec L2 DK
variable {ρ : Env'} {μ : Mu}
theorem loop_cons {g : RG} {b : RS} {c : Option (Nat × List D)} {x : D} {xs : List D} : loopR g b c (x :: xs) ρ μ = (g (.val x) ρ).bind fun ρ1 => (b ρ1 μ).bind fun o => match o with
      | .nx ρ2 μ2 => if standB c μ2 = true then loopR g b c xs ρ2 μ2 else none
      | .ct ρ2 μ2 => if standB c μ2 = true then loopR g b c xs ρ2 μ2 else none
      | .bk ρ2 μ2 => some (.nx ρ2 μ2)
      | .rt w μ2 => some (.rt w μ2) := by
  rw [loopR]
  cases g (.val x) ρ with
  | none => rfl
  | some ρ1 =>
    dsimp only [Option.bind]
    cases b ρ1 μ with
    | none => rfl
    | some o => cases o <;> rfl
theorem loop_nil {g : RG} {b : RS} {c : Option (Nat × List D)} : loopR g b c [] ρ μ = some (.nx ρ μ) := rfl
/-- the first item with p ends the loop -/
theorem loop_find {α : Type} {g : RG} {b : RS} {c : Option (Nat × List D)} {f : α → D} {p : α → Bool} {w : α → W} {Inv : Env' → Prop} (hc : standB c μ = true) : ∀ {l : List α} {ρ : Env'}, (∀ x ρ, x ∈ l → Inv ρ → ∃ ρ1, g (.val (f x)) ρ = some ρ1 ∧ (p x = true → b ρ1 μ = some (.rt (w x) μ)) ∧ (p x = false → ∃ ρ2, Inv ρ2 ∧ (b ρ1 μ = some (.nx ρ2 μ) ∨ b ρ1 μ = some (.ct ρ2 μ)))) → Inv ρ →
    (∀ x, l.find? p = some x → loopR g b c (l.map f) ρ μ = some (.rt (w x) μ)) ∧ (l.find? p = none → ∃ ρ2, Inv ρ2 ∧ loopR g b c (l.map f) ρ μ = some (.nx ρ2 μ))
  | [], ρ, _, h0 => ⟨fun x e => by simp at e, fun _ => ⟨ρ, h0, rfl⟩⟩
  | x :: l, ρ, hs, h0 => by
    obtain ⟨ρ1, hg, ht, hf⟩ := hs x ρ (by simp) h0
    cases e : p x with
    | true =>
      rw [List.find?_cons_of_pos (by simpa using e)]
      refine ⟨fun y ey => ?_, fun z => by cases z⟩
      cases ey
      rw [List.map_cons, loop_cons, hg]
      dsimp only [Option.bind]
      rw [ht e]
    | false =>
      obtain ⟨ρ2, h2, hb⟩ := hf e
      have ih := loop_find (l := l) (ρ := ρ2) hc (fun y ρ hy => hs y ρ (List.mem_cons_of_mem _ hy)) h2
      rw [List.find?_cons_of_neg (by rw [e]; exact Bool.false_ne_true), List.map_cons, loop_cons, hg]
      dsimp only [Option.bind]
      rcases hb with hb | hb <;> (rw [hb]; dsimp only; rw [if_pos hc]; exact ih)
/-- a loop by an invariant; each turn ends as next or continue -/
theorem loop_inv {α : Type} {g : RG} {b : RS} {c : Option (Nat × List D)} {f : α → D} {I : Nat → Env' → Mu → Prop} : ∀ {l : List α} {k : Nat} {ρ : Env'} {μ : Mu}, (∀ n x ρ μ, l[n]? = some x → I (k + n) ρ μ → ∃ ρ1 ρ2 μ2, g (.val (f x)) ρ = some ρ1 ∧ (b ρ1 μ = some (.nx ρ2 μ2) ∨ b ρ1 μ = some (.ct ρ2 μ2)) ∧ standB c μ2 = true ∧ I (k + n + 1) ρ2 μ2) → I k ρ μ → ∃ ρ2 μ2, loopR g b c (l.map f) ρ μ = some (.nx ρ2 μ2) ∧ I (k + l.length) ρ2 μ2
  | [], k, ρ, μ, _, h0 => ⟨ρ, μ, rfl, h0⟩
  | x :: l, k, ρ, μ, hs, h0 => by
    obtain ⟨ρ1, ρ2, μ2, hg, hb, hc, h1⟩ := hs 0 x ρ μ rfl h0
    obtain ⟨ρ3, μ3, e3, h3⟩ := loop_inv (l := l) (k := k + 1) (ρ := ρ2) (μ := μ2) (f := f) (g := g) (b := b) (c := c) (I := I) (fun n y ρ μ hy hI => by
      have := hs (n + 1) y ρ μ (by simpa using hy) (by rw [show k + (n + 1) = k + 1 + n by omega]; exact hI)
      obtain ⟨a1, a2, a3, q1, q2, q3, q4⟩ := this
      exact ⟨a1, a2, a3, q1, q2, q3, by rw [show k + 1 + n + 1 = k + (n + 1) + 1 by omega]; exact q4⟩) h1
    refine ⟨ρ3, μ3, ?_, by rw [List.length_cons, show k + (l.length + 1) = k + 1 + l.length by omega]; exact h3⟩
    rw [List.map_cons, loop_cons, hg]
    dsimp only [Option.bind]
    rcases hb with hb | hb <;> (rw [hb]; dsimp only; rw [if_pos hc]; exact e3)
/-- a comprehension that leaves the store -/
theorem lc_map {α : Type} {g : RG} {t : RB} {e : RE} {c : Option (Nat × List D)} {f h : α → D} {p : α → Bool} (hc : standB c μ = true) : ∀ {l : List α}, (∀ x ∈ l, ∃ ρ1, g (.val (f x)) ρ = some ρ1 ∧ t ρ1 μ = some (p x, μ) ∧ (p x = true → dat1 e ρ1 μ = some (h x, μ))) → lcR g t e c ρ (l.map f) μ = some ((l.filter p).map h, μ)
  | [], _ => rfl
  | x :: l, hs => by
    obtain ⟨ρ1, hg, ht, he⟩ := hs x (by simp)
    have ih := lc_map (l := l) hc (fun y hy => hs y (List.mem_cons_of_mem _ hy))
    rw [List.map_cons, lcR, hg]
    dsimp only
    rw [ht]
    cases e : p x with
    | true =>
      dsimp only
      rw [he e]
      dsimp only
      rw [if_pos hc, ih, List.filter_cons_of_pos e]
      rfl
    | false =>
      dsimp only
      rw [if_pos hc, ih, List.filter_cons_of_neg (by rw [e]; exact Bool.false_ne_true)]
/-- without a test -/
theorem lc_map1 {α : Type} {g : RG} {e : RE} {c : Option (Nat × List D)} {f h : α → D} (hc : standB c μ = true) {l : List α} (hs : ∀ x ∈ l, ∃ ρ1, g (.val (f x)) ρ = some ρ1 ∧ dat1 e ρ1 μ = some (h x, μ)) : lcR g mYes e c ρ (l.map f) μ = some (l.map h, μ) := by
  have := lc_map (p := fun _ => true) (t := mYes) (e := e) (g := g) (f := f) (h := h) (ρ := ρ) hc (l := l) (fun x hx => by
    obtain ⟨ρ1, h1, h2⟩ := hs x hx
    exact ⟨ρ1, h1, rfl, fun _ => h2⟩)
  rw [List.filter_eq_self.mpr (fun _ _ => rfl)] at this
  exact this
theorem lcP_map {α : Type} {g : RG} {t : RB} {e : RE} {f h : α → D} {p : α → Bool} : ∀ {l : List α}, (∀ x ∈ l, ∃ ρ1, g (.val (f x)) ρ = some ρ1 ∧ pb1 t ρ1 = some (p x) ∧ (p x = true → pv1 e ρ1 = some (h x))) → lcP g t e ρ (l.map f) = some ((l.filter p).map h)
  | [], _ => rfl
  | x :: l, hs => by
    obtain ⟨ρ1, hg, ht, he⟩ := hs x (by simp)
    have ih := lcP_map (l := l) (fun y hy => hs y (List.mem_cons_of_mem _ hy))
    rw [List.map_cons, lcP, hg]
    dsimp only
    rw [ht]
    cases e : p x with
    | true =>
      dsimp only
      rw [he e]
      dsimp only
      rw [ih, List.filter_cons_of_pos e]
      rfl
    | false =>
      dsimp only
      rw [ih, List.filter_cons_of_neg (by rw [e]; exact Bool.false_ne_true)]
theorem lcP_map1 {α : Type} {g : RG} {e : RE} {f h : α → D} {l : List α} (hs : ∀ x ∈ l, ∃ ρ1, g (.val (f x)) ρ = some ρ1 ∧ pv1 e ρ1 = some (h x)) : lcP g mYes e ρ (l.map f) = some (l.map h) := by
  have := lcP_map (p := fun _ => true) (t := mYes) (e := e) (g := g) (f := f) (h := h) (ρ := ρ) (l := l) (fun x hx => by
    obtain ⟨ρ1, h1, h2⟩ := hs x hx
    exact ⟨ρ1, h1, rfl, fun _ => h2⟩)
  rw [List.filter_eq_self.mpr (fun _ _ => rfl)] at this
  exact this
/-! ### data -/
theorem inF_strsT {neg : Bool} {s : Str} {ss : List Str} : inF neg (.str s) (.tup (ss.map D.str)) = some (.bl (neg ^^ decide (s ∈ ss))) := by
  have h1 : (ss.map D.str).all flatD = true := by simp [flatD]
  have h2 : (ss.map D.str).map dV = ss.map V.str := by simp [dV]
  unfold inF
  dsimp only
  rw [if_pos ⟨rfl, h1⟩, h2]
  exact congrArg (fun b => some (D.bl (neg ^^ b))) inV_strs
theorem inF_strsL {neg : Bool} {s : Str} {ss : List Str} : inF neg (.str s) (.lst (ss.map D.str)) = some (.bl (neg ^^ decide (s ∈ ss))) := by
  have h1 : (ss.map D.str).all flatD = true := by simp [flatD]
  have h2 : (ss.map D.str).map dV = ss.map V.str := by simp [dV]
  unfold inF
  dsimp only
  rw [if_pos ⟨rfl, h1⟩, h2]
  exact congrArg (fun b => some (D.bl (neg ^^ b))) inV_strs
theorem inF_seqS {neg : Bool} {s : Str} {ss : List Str} {m : D} (h : seqD m = some (ss.map D.str)) : inF neg (.str s) m = some (.bl (neg ^^ decide (s ∈ ss))) := by
  cases m with
  | tup ys => cases h; exact inF_strsT
  | lst ys => cases h; exact inF_strsL
  | _ => cases h
theorem ixF_fst {l : List Str} (h : l ≠ []) : ixF (.lst (l.map D.str)) (.int 0) = some (.str (fst l)) := at_map (at_fst h)
theorem ixF_lst {l : List Str} (h : l ≠ []) : ixF (.lst (l.map D.str)) (.int (-1)) = some (.str (DK.lst l)) := at_map (at_lst h)
theorem splitF_sp {s : Str} : splitF (.str s) (.str " ") = some (.lst ((wds s).map D.str)) := by
  unfold splitF
  dsimp only
  rw [if_pos ⟨sp_ne, sp_k⟩]
  rfl
theorem seqOf_D {μ : Mu} {m : D} {xs : List D} (h : seqD m = some xs) : seqOf μ (.val m) = some xs := by
  cases m with
  | tup ys => cases h; rfl
  | lst ys => cases h; rfl
  | _ => cases h
theorem frz1_val {d : D} : frz1 μ (.val d) = some (d, μ) := rfl
theorem dat1_val {e : RE} {d : D} {μ1 : Mu} (h : e ρ μ = some (.val d, μ1)) : dat1 e ρ μ = some (d, μ1) := by
  unfold dat1
  rw [h]
  rfl
/-! ### bodies, statements -/
theorem body_rt {fz : Bool} {k n : Nat} {m : RS} {ws : List W} {w : W} {μ1 : Mu} {r : Option (W × Mu)} (hk : ws.length = k) (h : m (start n ws) μ = some (.rt w μ1)) (he : exitF fz μ.length w μ1 = r) : bodyF fz k n m ws μ = r := by
  unfold bodyF
  rw [if_pos hk, h]
  exact he
theorem body_nx {fz : Bool} {k n : Nat} {m : RS} {ws : List W} {ρ1 : Env'} {μ1 : Mu} {r : Option (W × Mu)} (hk : ws.length = k) (h : m (start n ws) μ = some (.nx ρ1 μ1)) (he : exitF fz μ.length (.val .non) μ1 = r) : bodyF fz k n m ws μ = r := by
  unfold bodyF
  rw [if_pos hk, h]
  exact he
theorem seq_nx {a b : RS} {ρ1 : Env'} {μ1 : Mu} {r : Option Out} (h : a ρ μ = some (.nx ρ1 μ1)) (k : b ρ1 μ1 = r) : mSeq a b ρ μ = r := by
  unfold mSeq
  rw [h]
  exact k
theorem seq_rt {a b : RS} {w : W} {μ1 : Mu} (h : a ρ μ = some (.rt w μ1)) : mSeq a b ρ μ = some (.rt w μ1) := by
  unfold mSeq
  rw [h]
theorem seq_ct {a b : RS} {ρ1 : Env'} {μ1 : Mu} (h : a ρ μ = some (.ct ρ1 μ1)) : mSeq a b ρ μ = some (.ct ρ1 μ1) := by
  unfold mSeq
  rw [h]
theorem if_t {t : RB} {a b : RS} {μ1 : Mu} {r : Option Out} {k : Bool} (h : t ρ μ = some (k, μ1)) (hk : k = true) (q : a ρ μ1 = r) : mIfS t a b ρ μ = r := by
  unfold mIfS
  rw [h, hk]
  exact q
theorem if_f {t : RB} {a b : RS} {μ1 : Mu} {r : Option Out} {k : Bool} (h : t ρ μ = some (k, μ1)) (hk : k = false) (q : b ρ μ1 = r) : mIfS t a b ρ μ = r := by
  unfold mIfS
  rw [h, hk]
  exact q
theorem for_of {i : RI} {g : RG} {b : RS} {xs : List D} {c : Option (Nat × List D)} {μ1 : Mu} {r : Option Out} (h : i ρ μ = some (xs, c, μ1)) (k : loopR g b c xs ρ μ1 = r) : mFor i g b ρ μ = r := by
  unfold mFor
  rw [h]
  exact k
theorem ret_of {a : RE} {w : W} {μ1 : Mu} (h : a ρ μ = some (w, μ1)) : mRet a ρ μ = some (.rt w μ1) := by
  unfold mRet
  rw [h]
theorem asg_of {a : RE} {i : Nat} {w : W} {μ1 : Mu} (h : a ρ μ = some (w, μ1)) : mAsg a (hName i) ρ μ = some (.nx (ρ.set i (some w)) μ1) := by
  unfold mAsg
  rw [h]
  rfl
theorem test_of {a : RE} {k : Bool} {μ1 : Mu} (h : a ρ μ = some (.val (.bl k), μ1)) : mTest a ρ μ = some (k, μ1) := by
  unfold mTest
  rw [h]
  rfl
theorem op_of {f : D → D → Option D} {a b : RE} {x y r : D} {μ1 μ2 : Mu} (h1 : a ρ μ = some (.val x, μ1)) (h2 : b ρ μ1 = some (.val y, μ2)) (h : f x y = some r) : mOp f a b ρ μ = some (.val r, μ2) := by
  rw [q_op, h1]
  dsimp only [Option.bind]
  rw [h2]
  dsimp only [view]
  rw [h]
theorem un_of {f : D → Option D} {a : RE} {x r : D} {μ1 : Mu} (h1 : a ρ μ = some (.val x, μ1)) (h : f x = some r) : mUn f a ρ μ = some (.val r, μ1) := by
  rw [q_un, h1]
  dsimp only [Option.bind, view]
  rw [h]
theorem seqI_of {a : RE} {m : D} {xs : List D} {μ1 : Mu} (h : a ρ μ = some (.val m, μ1)) (k : seqD m = some xs) : kSeq a ρ μ = some (xs, none, μ1) := by
  unfold kSeq
  rw [h]
  dsimp only
  rw [seqOf_D k]
  rfl
theorem lc_of {i : RI} {g : RG} {t : RB} {e : RE} {vs : List Nat} {xs ys : List D} {c : Option (Nat × List D)} {μ1 μ2 : Mu} (h : i ρ μ = some (xs, c, μ1)) (hz : xs.length ≤ LB) (k : lcR g t e c (wipeE ρ vs) xs μ1 = some (ys, μ2)) : mLc i g t e vs ρ μ = some (.val (.lst ys), μ2) := by
  unfold mLc
  rw [h]
  dsimp only
  rw [if_pos hz, k]
theorem call_of {f : FX} {a : RA} {ws : List W} {w : W} {μ1 μ2 : Mu} (h : a ρ μ = some (ws, μ1)) (k : callX f ws μ1 = some (w, μ2)) : mCall f [] a ρ μ = some (w, μ2) := by
  unfold mCall
  rw [h]
  dsimp only
  rw [List.map_nil, List.append_nil]
  exact k
end DX

/-! DXL: the laws' draws, run. -/
namespace DX
open PySem PySem.Spec L2 DK
def m_law_deal_1 : RS :=
  (mAsg (mOp mdF (mUn intF (mOp plusF (mOp timesF (mVar 4) (mC (.int 16807))) (mOp mdF (mUn intF (mVar 2)) (mC (.int 2147483629))))) (mC (.int 2147483647))) (hName 4))
def m_law_deal : RS :=
  (mSeq (mAsg (mLc (kSeq (mSl (mVar 0) (mPart (mVar 1)) (mPart (mC (.int 60))))) (hName 2) mYes (mUn absF (mVar 2)) [2]) (hName 3))
      (mSeq (mAsg (mOp plusF (mC (.int 36195017)) (mOp timesF (mC (.int 43)) (mVar 1))) (hName 4))
      (mSeq (mFor (kSeq (mVar 3)) (hName 2) m_law_deal_1)
      (mRet (mLsW (mCons (mRevM (mLc (kSeq (mVar 3)) (hName 2) (mTest (mOp geF (mVar 2) (mOp pwF (mC (.int 10)) (mC (.int 18))))) (mVar 2) [2])) (mCons (mVar 4) mNil)))))))
def f_law_deal : FX := bodyF false 2 5 m_law_deal
def m_law_draw_1 : RS :=
  (mDrop (mPop (mIx (mVar 0) (mC (.int 0)))))
def m_law_draw : RS :=
  (mSeq (mWhile (mAnd (mTest (mOp (eqF true) (mIx (mVar 0) (mC (.int 0))) (mLst mNil))) (mTest (mOp (eqF false) (mIx (mIx (mVar 0) (mC (.int 0))) (mUn negF (mC (.int 1)))) (mC (.int 0))))) m_law_draw_1)
      (mSeq (mIfS (mTest (mOp (eqF true) (mIx (mVar 0) (mC (.int 0))) (mLst mNil))) (mSeq (mAsg (mPop (mIx (mVar 0) (mC (.int 0)))) (hName 2))
      (mSeq (mDrop (mAppend (mIx (mVar 0) (mC (.int 0))) (mCons (mOp fdF (mVar 2) (mVar 1)) mNil)))
      (mRet (mOp mdF (mUn intF (mVar 2)) (mVar 1))))) mNext)
      (mSeq (mSetI (mOp mdF (mUn intF (mOp plusF (mOp timesF (mIx (mVar 0) (mC (.int 1))) (mC (.int 48271))) (mC (.int 11)))) (mC (.int 2147483647))) (mVar 0) (mC (.int 1)))
      (mRet (mOp mdF (mUn intF (mOp fdF (mIx (mVar 0) (mC (.int 1))) (mC (.int 8)))) (mVar 1))))))
def f_law_draw : FX := bodyF true 2 3 m_law_draw
def m_law_pick : RS :=
  (mRet (mIx (mVar 1) (mCall f_law_draw [] (mCons (mVar 0) (mCons (mUn lenF (mVar 1)) mNil)))))
def f_law_pick : FX := bodyF true 2 2 m_law_pick
def m_law_mixed_1 : RS :=
  (mDrop (mAppend (mVar 3) (mCons (mPopAt (mVar 2) (mCons (mCall f_law_draw [] (mCons (mVar 0) (mCons (mUn lenF (mVar 2)) mNil))) mNil)) mNil)))
def m_law_mixed : RS :=
  (mSeq (mPar 2 3 (mCons (mLstOfM (mVar 1)) (mCons (mLstM mNil) mNil)))
      (mSeq (mFor (kRng1 (mCons (mUn lenF (mVar 2)) mNil)) (hName 4) m_law_mixed_1)
      (mRet (mVar 3))))
def f_law_mixed : FX := bodyF true 2 5 m_law_mixed

/-! ### calls -/
theorem locTop_vals : ∀ ds : List D, locTop (ds.map W.val) = 0
  | [] => rfl
  | d :: ds => by rw [List.map_cons, locTop]; exact locTop_vals ds
/-- a callee that sees the front μ0 alone -/
theorem callX_front {f : FX} {ws : List W} {μ0 rest : Mu} {w : W} {μ1 : Mu} (ht : locTop ws = μ0.length) (hb : μ0.all (MO.below μ0.length) = true) (h : f ws μ0 = some (w, μ1)) (hl : μ1.length = μ0.length) : callX f ws (μ0 ++ rest) = some (w, μ1 ++ rest) := by
  have e : preN ws (μ0 ++ rest) = μ0.length := by
    unfold preN
    rw [ht, List.take_left, if_pos]
    exact ⟨by rw [List.length_append]; omega, hb⟩
  unfold callX
  rw [e, List.take_left, h]
  dsimp only
  rw [if_pos hl, List.drop_left]
theorem callX_pure {f : FX} {ws : List W} {μ : Mu} {w : W} (ht : locTop ws = 0) (h : f ws [] = some (w, [])) : callX f ws μ = some (w, μ) := callX_front (μ0 := []) (rest := μ) ht rfl h rfl
/-! ### the source of draws: at 0 and 1 of the store -/
def dst (d : Dl) : Mu := [.lst (d.1.map D.int), .lsW [.loc 0, .val (.int d.2)]]
theorem callX_dst {f : FX} {ws : List W} {rest : Mu} {w : W} {d d' : Dl} (ht : locTop ws = 2) (h : f ws (dst d) = some (w, dst d')) : callX f ws (dst d ++ rest) = some (w, dst d' ++ rest) := callX_front (μ0 := dst d) ht rfl h rfl
theorem eqF_ints {neg : Bool} {a b : List Int} : eqF neg (.lst (a.map D.int)) (.lst (b.map D.int)) = some (.bl (neg ^^ decide (a = b))) := by
  have e : eqP (.lst (a.map D.int)) (.lst (b.map D.int)) = decide (a = b) := by
    show PyData.eqvAll (toPyL (a.map D.int)) (toPyL (b.map D.int)) = _
    induction a generalizing b with
    | nil => cases b <;> simp [toPyL, toPy, PyData.eqvAll]
    | cons x a ih =>
      cases b with
      | nil => simp [toPyL, toPy, PyData.eqvAll]
      | cons y b =>
        simp only [List.map_cons, toPyL, toPy, PyData.eqvAll, PyData.eqv, ih]
        by_cases h : x = y <;> simp [h]
  unfold eqF
  dsimp only
  rw [if_pos ⟨pyOkL_ints, pyOkL_ints, depth_ints, depth_ints⟩, e]
theorem eqF_nil {neg : Bool} {a : List Int} : eqF neg (.lst (a.map D.int)) (.lst []) = some (.bl (neg ^^ decide (a = []))) := eqF_ints (b := [])

theorem nil_or_app {α : Type} (l : List α) : l = [] ∨ ∃ r x, l = r ++ [x] := by
  rcases List.eq_nil_or_concat l with h | ⟨r, x, h⟩
  · exact .inl h
  · exact .inr ⟨r, x, by rw [h, List.concat_eq_append]⟩
theorem whileR_succ {t : RB} {b : RS} {n : Nat} {ρ : Env'} {μ : Mu} : whileR t b (n + 1) ρ μ = match t ρ μ with
    | some (false, μ1) => some (.nx ρ μ1)
    | some (true, μ1) => match b ρ μ1 with
      | some (.nx ρ2 μ2) => whileR t b n ρ2 μ2
      | some (.ct ρ2 μ2) => whileR t b n ρ2 μ2
      | some (.bk ρ2 μ2) => some (.nx ρ2 μ2)
      | some (.rt w μ2) => some (.rt w μ2)
      | none => none
    | none => none := rfl
def tDraw : RB := (mAnd (mTest (mOp (eqF true) (mIx (mVar 0) (mC (.int 0))) (mLst mNil))) (mTest (mOp (eqF false) (mIx (mIx (mVar 0) (mC (.int 0))) (mUn negF (mC (.int 1)))) (mC (.int 0)))))
theorem big_at {ρ : Env'} {d : Dl} (h : ρ[0]? = some (some (.loc 1))) : mIx (mVar 0) (mC (.int 0)) ρ (dst d) = some (.loc 0, dst d) := by
  unfold mIx mVar mC
  rw [h]
  rfl
theorem bigNe {ρ : Env'} {d : Dl} (h : ρ[0]? = some (some (.loc 1))) : mTest (mOp (eqF true) (mIx (mVar 0) (mC (.int 0))) (mLst mNil)) ρ (dst d) = some (!decide (d.1 = []), dst d) := by
  unfold mTest mOp
  rw [big_at h]
  have e : mLst mNil ρ (dst d) = some (.val (.lst []), dst d) := rfl
  dsimp only
  rw [e]
  dsimp only
  have v : view (dst d) (.loc 0) = some (.lst (d.1.map D.int)) := rfl
  rw [v]
  dsimp only [view]
  rw [eqF_nil]
  dsimp only [isBl]
  rw [Bool.true_xor]
theorem last_at {l : List Int} {x : Int} : atI ((l ++ [x]).map D.int) (-1) = some (.int x) := at_map (DK.at_last (l := l) (x := x))
theorem lastZ {ρ : Env'} {l : List Int} {x m : Int} (h : ρ[0]? = some (some (.loc 1))) : mTest (mOp (eqF false) (mIx (mIx (mVar 0) (mC (.int 0))) (mUn negF (mC (.int 1)))) (mC (.int 0))) ρ (dst (l ++ [x], m)) = some (decide (x = 0), dst (l ++ [x], m)) := by
  have e1 : mIx (mIx (mVar 0) (mC (.int 0))) (mUn negF (mC (.int 1))) ρ (dst (l ++ [x], m)) = some (.val (.int x), dst (l ++ [x], m)) := by
    unfold mIx
    have := big_at (ρ := ρ) (d := (l ++ [x], m)) h
    unfold mIx at this
    rw [this]
    show (match ixF (.lst ((l ++ [x]).map D.int)) (.int (-1)) with
      | some r => some (W.val r, dst (l ++ [x], m))
      | none => none) = _
    rw [show ixF (.lst ((l ++ [x]).map D.int)) (.int (-1)) = some (.int x) from last_at]
  exact test_of (op_of e1 rfl (by simp only [eqF, Bool.false_xor]))
theorem pop_at {ρ : Env'} {l : List Int} {x m : Int} (h : ρ[0]? = some (some (.loc 1))) : mPop (mIx (mVar 0) (mC (.int 0))) ρ (dst (l ++ [x], m)) = some (.val (.int x), dst (l, m)) := by
  unfold mPop
  rw [big_at h]
  show (match ((l ++ [x]).map D.int).getLast? with
    | some d => some (W.val d, (dst (l ++ [x], m)).set 0 (.lst ((l ++ [x]).map D.int).dropLast))
    | none => none) = _
  rw [List.map_append, List.map_singleton, List.getLast?_concat, List.dropLast_concat]
  rfl
theorem while_draw {ρ : Env'} {m : Int} (h : ρ[0]? = some (some (.loc 1))) : ∀ (n : Nat) (big : List Int), big.length < n → whileR tDraw m_law_draw_1 n ρ (dst (big, m)) = some (.nx ρ (dst (dropZ big, m)))
  | 0, _, hn => by omega
  | n + 1, big, hn => by
    rw [whileR_succ]
    rcases nil_or_app big with rfl | ⟨l, x, rfl⟩
    · have : tDraw ρ (dst ([], m)) = some (false, dst ([], m)) := by
        unfold tDraw
        rw [q_and, bigNe h]
        rfl
      rw [this]
      rfl
    · have hl : l.length < n := by
        rw [List.length_append, List.length_singleton] at hn
        omega
      have : tDraw ρ (dst (l ++ [x], m)) = some (decide (x = 0), dst (l ++ [x], m)) := by
        unfold tDraw
        rw [q_and, bigNe h]
        simp only [Option.bind_some]
        rw [lastZ h]
        simp
      rw [this]
      by_cases hx : x = 0
      · subst hx
        rw [decide_eq_true rfl]
        dsimp only
        have hb : m_law_draw_1 ρ (dst (l ++ [0], m)) = some (.nx ρ (dst (l, m))) := by
          unfold m_law_draw_1 mDrop
          rw [pop_at h]
        rw [hb]
        dsimp only
        rw [while_draw h n l hl, dropZ_zero]
      · rw [decide_eq_false hx]
        dsimp only
        rw [dropZ_nz hx]
theorem e_draw {d : Dl} {many : Int} (hz : d.1.length ≤ LB - 1) (h0 : 0 < many) (h1 : many < 1073741824) : f_law_draw [.loc 1, .val (.int many)] (dst d) = some (.val (.int (drawM many d).1), dst (drawM many d).2) := by
  obtain ⟨big, m⟩ := d
  have hw : mWhile tDraw m_law_draw_1 [some (.loc 1), some (.val (.int many)), none] (dst (big, m)) = some (.nx [some (.loc 1), some (.val (.int many)), none] (dst (dropZ big, m))) := while_draw rfl fuel big (by
    have : LB = 100000 := rfl
    have : fuel = 100000 := rfl
    simp only at hz
    omega)
  have key : m_law_draw [some (.loc 1), some (.val (.int many)), none] (dst (big, m)) = some (.rt (.val (.int (drawM many (big, m)).1)) (dst (drawM many (big, m)).2)) := by
    refine seq_nx hw ?_
    rcases nil_or_app (dropZ big) with e | ⟨l, x, e⟩
    · have ed : drawM many (big, m) = (((m * 48271 + 11) % 2147483647 / 8) % many, ([], (m * 48271 + 11) % 2147483647)) := by
        unfold drawM
        simp only [e]
        rfl
      rw [ed, e]
      refine seq_nx (if_f (bigNe rfl) (by simp) rfl) ?_
      have em : ∀ {ρ : Env'} {d : Dl}, ρ[0]? = some (some (.loc 1)) → mIx (mVar 0) (mC (.int 1)) ρ (dst d) = some (.val (.int d.2), dst d) := fun {ρ d} h => by
        unfold mIx mVar mC
        rw [h]
        rfl
      refine seq_nx (ρ1 := [some (.loc 1), some (.val (.int many)), none]) (μ1 := dst ([], (m * 48271 + 11) % 2147483647)) ?_ ?_
      · unfold mSetI
        have e2 : mOp mdF (mUn intF (mOp plusF (mOp timesF (mIx (mVar 0) (mC (.int 1))) (mC (.int 48271))) (mC (.int 11)))) (mC (.int 2147483647)) [some (.loc 1), some (.val (.int many)), none] (dst ([], m)) = some (.val (.int ((m * 48271 + 11) % 2147483647)), dst ([], m)) := by
          have t1 : timesF (.int m) (.int 48271) = some (.int (m * 48271)) := by
            show (if _ then _ else _) = _
            rw [if_pos (.inr ⟨by omega, by omega⟩)]
          exact op_of (x := .int (m * 48271 + 11)) (un_of (x := .int (m * 48271 + 11)) (op_of (x := .int (m * 48271)) (y := .int 11) (op_of (x := .int m) (em rfl) rfl t1) rfl rfl) rfl) rfl rfl
        rw [e2]
        rfl
      · refine ret_of (op_of (un_of (op_of (em rfl) rfl rfl) rfl) rfl ?_)
        show (if _ then _ else _) = _
        rw [if_pos h0]
    · have ed : drawM many (big, m) = (x % many, (l ++ [x / many], m)) := by
        unfold drawM
        simp only [e, List.getLast?_concat, List.dropLast_concat]
      rw [ed, e]
      refine seq_rt (if_t (bigNe rfl) (by simp) ?_)
      refine seq_nx (asg_of (pop_at rfl)) ?_
      refine seq_nx (ρ1 := [some (.loc 1), some (.val (.int many)), some (.val (.int x))]) (μ1 := dst (l ++ [x / many], m)) ?_ ?_
      · show mDrop (mAppend (mIx (mVar 0) (mC (.int 0))) (mCons (mOp fdF (mVar 2) (mVar 1)) mNil)) [some (.loc 1), some (.val (.int many)), some (.val (.int x))] (dst (l, m)) = _
        unfold mDrop mAppend
        rw [big_at rfl]
        have ev : view (dst (l, m)) (.loc 0) = some (.lst (l.map D.int)) := rfl
        have ef : dat (mCons (mOp fdF (mVar 2) (mVar 1)) mNil) [some (.loc 1), some (.val (.int many)), some (.val (.int x))] (dst (l, m)) = some ([.int (x / many)], dst (l, m)) := by
          rw [q_dat, q_cons, op_of (x := .int x) (y := .int many) (r := .int (x / many)) (μ1 := dst (l, m)) (μ2 := dst (l, m)) rfl rfl (by show (if _ then _ else _) = _; rw [if_pos ⟨h0, h1⟩])]
          rfl
        dsimp only
        rw [ev, ef]
        show (match (if (l.map D.int).length < LB then some (W.val .non, (dst (l, m)).set 0 (.lst (l.map D.int ++ [.int (x / many)]))) else none) with
          | some (_, μ1) => some (Out.nx _ μ1)
          | none => none) = _
        have hlen : (l.map D.int).length < LB := by
          rw [List.length_map]
          have h3 := dropZ_len (l := big)
          rw [e, List.length_append, List.length_singleton] at h3
          have : LB = 100000 := rfl
          simp only at hz
          omega
        rw [if_pos hlen]
        show some (Out.nx _ [MO.lst (l.map D.int ++ [.int (x / many)]), _]) = some (Out.nx _ [MO.lst ((l ++ [x / many]).map D.int), _])
        rw [List.map_append, List.map_singleton]
      · refine ret_of (op_of (un_of rfl rfl) rfl ?_)
        show (if _ then _ else _) = _
        rw [if_pos h0]
  exact body_rt rfl key rfl
/-! ### mixed -/
theorem get2_0 {α : Type} {l : List α} {a b : α} : (l ++ [a, b])[l.length]? = some a := by
  rw [List.getElem?_append_right (Nat.le_refl _)]
  simp
theorem get2_1 {α : Type} {l : List α} {a b : α} : (l ++ [a, b])[l.length + 1]? = some b := by
  rw [List.getElem?_append_right (Nat.le_succ _)]
  simp
theorem mixAll_succ {α : Type} {n : Nat} {s : Dl × List α × List α} : mixAll (n + 1) s = mixStep (mixAll n s) := by
  unfold mixAll
  rw [List.range_succ, List.foldl_append]
  rfl
theorem view_at {μ : Mu} {j : Nat} {xs : List D} (h : μ[j]? = some (.lst xs)) : view μ (.loc j) = some (.lst xs) := by
  unfold view
  dsimp only
  rw [h]
theorem popAt_of {ρ : Env'} {μ μ2 : Mu} {a : RE} {r : RA} {j k : Nat} {xs ys : List D} {x : D} (h1 : a ρ μ = some (.loc j, μ)) (h2 : μ[j]? = some (.lst ys)) (h3 : dat r ρ μ = some ([.int (Int.ofNat k)], μ2)) (h4 : μ2[j]? = some (.lst xs)) (h5 : xs[k]? = some x) : mPopAt a r ρ μ = some (.val x, μ2.set j (.lst (xs.eraseIdx k))) := by
  unfold mPopAt
  rw [h1]
  dsimp only
  rw [view_at h2, h3]
  dsimp only
  rw [h4]
  dsimp only
  rw [h5]
theorem append_of {ρ : Env'} {μ μ2 : Mu} {a : RE} {r : RA} {j : Nat} {xs ys : List D} {x : D} (h1 : a ρ μ = some (.loc j, μ)) (h2 : μ[j]? = some (.lst ys)) (h3 : dat r ρ μ = some ([x], μ2)) (h4 : μ2[j]? = some (.lst xs)) (h5 : xs.length < LB) : mAppend a r ρ μ = some (.val .non, μ2.set j (.lst (xs ++ [x]))) := by
  unfold mAppend
  rw [h1]
  dsimp only
  rw [view_at h2, h3]
  dsimp only
  rw [h4]
  dsimp only
  rw [if_pos h5]
theorem dat_one {ρ : Env'} {μ μ1 : Mu} {a : RE} {d : D} (h : a ρ μ = some (.val d, μ1)) : dat (mCons a mNil) ρ μ = some ([d], μ1) := by
  rw [q_dat, q_cons, h]
  rfl
theorem e_mixed {d : Dl} {w : W} {xs : List D} {v : D} {t : Mu} (hd : d.1.length ≤ LB - 1) (hw : view (dst d ++ t) w = some v) (hv : lstF v = some (.lst xs)) (hz : xs.length < 1000) (ht : t.all (MO.below (2 + t.length)) = true) (hb : w.below (2 + t.length) = true) :
    f_law_mixed [.loc 1, w] (dst d ++ t) = some (.val (.lst (mixedM xs d)), dst (mixedD xs d) ++ t) := by
  have hlb : LB = 100000 := rfl
  have hp : ∀ d : Dl, (dst d ++ t).length = 2 + t.length := fun d => by rw [List.length_append]; rfl
  have step : ∀ n (x : Nat) (ρ : Env') (μ : Mu), (List.range xs.length)[n]? = some x → (n ≤ xs.length ∧ ∃ y, ρ = [some (.loc 1), some w, some (.loc (2 + t.length)), some (.loc (2 + t.length + 1)), y] ∧ μ = (dst (mixAll n (d, xs, [])).1 ++ t) ++ [.lst (mixAll n (d, xs, [])).2.1, .lst (mixAll n (d, xs, [])).2.2]) →
      ∃ ρ1 ρ2 μ2, hName 4 (.val (D.int (0 + (x : Int)))) ρ = some ρ1 ∧ (m_law_mixed_1 ρ1 μ = some (.nx ρ2 μ2) ∨ m_law_mixed_1 ρ1 μ = some (.ct ρ2 μ2)) ∧ standB none μ2 = true ∧
        (n + 1 ≤ xs.length ∧ ∃ y, ρ2 = [some (.loc 1), some w, some (.loc (2 + t.length)), some (.loc (2 + t.length + 1)), y] ∧ μ2 = (dst (mixAll (n + 1) (d, xs, [])).1 ++ t) ++ [.lst (mixAll (n + 1) (d, xs, [])).2.1, .lst (mixAll (n + 1) (d, xs, [])).2.2]) := by
    rintro n x ρ μ hx ⟨hn, y, rfl, rfl⟩
    have hlt : n < xs.length := by
      have := (List.getElem?_eq_some_iff.mp hx).1
      simpa using this
    obtain ⟨q1, q2, q3⟩ := mixAll_inv (xs := xs) (d := d) n hn
    rw [mixAll_succ]
    generalize mixAll n (d, xs, []) = S at *
    obtain ⟨e, rest, found⟩ := S
    dsimp only at q1 q2 q3 ⊢
    have hr : rest ≠ [] := fun z => by rw [z] at q2; simp at q2; omega
    obtain ⟨z, hz1, hz2⟩ := mixStep_some (d := e) (found := found) hr
    have hlen : 0 < rest.length := List.length_pos_iff.mpr hr
    have h0 := drawM_lo (d := e) (many := (rest.length : Int)) (by omega)
    obtain ⟨k, hk⟩ := Int.eq_ofNat_of_zero_le h0
    have hfl : found.length < LB := by
      have := q1.length_eq
      rw [List.length_append] at this
      omega
    rw [hz2]
    rw [hk] at hz1 ⊢
    refine ⟨_, [some (.loc 1), some w, some (.loc (2 + t.length)), some (.loc (2 + t.length + 1)), some (.val (D.int (0 + (x : Int))))], (dst (drawM rest.length e).2 ++ t) ++ [.lst (rest.eraseIdx k), .lst (found ++ [z])], rfl, .inl ?_, rfl, by omega, some (.val (D.int (0 + (x : Int)))), rfl, ?_⟩
    · unfold m_law_mixed_1 mDrop
      have c1 : mCall f_law_draw [] (mCons (mVar 0) (mCons (mUn lenF (mVar 2)) mNil)) [some (.loc 1), some w, some (.loc (2 + t.length)), some (.loc (2 + t.length + 1)), some (.val (D.int (0 + (x : Int))))] ((dst e ++ t) ++ [.lst rest, .lst found]) = some (.val (.int (Int.ofNat k)), (dst (drawM rest.length e).2 ++ t) ++ [.lst rest, .lst found]) := by
        have a1 : mUn lenF (mVar 2) [some (.loc 1), some w, some (.loc (2 + t.length)), some (.loc (2 + t.length + 1)), some (.val (D.int (0 + (x : Int))))] ((dst e ++ t) ++ [.lst rest, .lst found]) = some (.val (.int rest.length), (dst e ++ t) ++ [.lst rest, .lst found]) := by
          rw [q_un]
          show (view _ (.loc (2 + t.length))).bind _ = _
          rw [view_at (xs := rest) (by rw [← hp e]; exact get2_0)]
          rfl
        refine call_of (ws := [.loc 1, .val (.int rest.length)]) (μ1 := (dst e ++ t) ++ [.lst rest, .lst found]) ?_ ?_
        · rw [q_cons]
          show (mCons (mUn lenF (mVar 2)) mNil _ _).bind _ = _
          rw [q_cons, a1]
          rfl
        · rw [List.append_assoc, List.append_assoc]
          have := callX_dst (f := f_law_draw) (ws := [.loc 1, .val (.int rest.length)]) (rest := t ++ [.lst rest, .lst found]) rfl (e_draw (d := e) (many := rest.length) (by omega) (by omega) (by omega))
          rw [this, hk]
          rfl
      have c2 := popAt_of (a := mVar 2) (j := 2 + t.length) (ys := rest) (xs := rest) (k := k) (x := z) (μ := (dst e ++ t) ++ [.lst rest, .lst found]) rfl (by rw [← hp e]; exact get2_0) (dat_one c1) (by rw [← hp (drawM rest.length e).2]; exact get2_0) hz1
      have c3 := append_of (a := mVar 3) (j := 2 + t.length + 1) (ys := found) (xs := found) (x := z) (μ := (dst e ++ t) ++ [.lst rest, .lst found]) (r := mCons (mPopAt (mVar 2) (mCons (mCall f_law_draw [] (mCons (mVar 0) (mCons (mUn lenF (mVar 2)) mNil))) mNil)) mNil) (ρ := [some (.loc 1), some w, some (.loc (2 + t.length)), some (.loc (2 + t.length + 1)), some (.val (D.int (0 + (x : Int))))]) rfl (by rw [← hp e]; exact get2_1) (dat_one c2) (by rw [← hp (drawM rest.length e).2, set2_0]; exact get2_1) hfl
      rw [← hp (drawM rest.length e).2, set2_0, set2_1] at c3
      rw [← hp (drawM rest.length e).2]
      show (match mAppend (mVar 3) (mCons (mPopAt (mVar 2) (mCons (mCall f_law_draw [] (mCons (mVar 0) (mCons (mUn lenF (mVar 2)) mNil))) mNil)) mNil) [some (.loc 1), some w, some (.loc (dst (drawM rest.length e).2 ++ t).length), some (.loc ((dst (drawM rest.length e).2 ++ t).length + 1)), some (.val (D.int (0 + (x : Int))))] ((dst e ++ t) ++ [.lst rest, .lst found]) with
        | some (_, μ1) => some (Out.nx _ μ1)
        | none => none) = _
      rw [c3]
      rfl
    · rfl
  obtain ⟨ρ2, μ2, hl, _, y, e1, e2⟩ := loop_inv (l := List.range xs.length) (k := 0) (c := none) (f := fun x : Nat => D.int (0 + (x : Int))) (g := hName 4) (b := m_law_mixed_1)
    (I := fun n ρ μ => n ≤ xs.length ∧ ∃ y, ρ = [some (.loc 1), some w, some (.loc (2 + t.length)), some (.loc (2 + t.length + 1)), y] ∧ μ = (dst (mixAll n (d, xs, [])).1 ++ t) ++ [.lst (mixAll n (d, xs, [])).2.1, .lst (mixAll n (d, xs, [])).2.2])
    (ρ := [some (.loc 1), some w, some (.loc (2 + t.length)), some (.loc (2 + t.length + 1)), none]) (μ := (dst d ++ t) ++ [.lst xs, .lst []])
    (fun n x ρ μ hx hI => by simpa using step n x ρ μ hx (by simpa using hI)) ⟨Nat.zero_le _, none, rfl, rfl⟩
  rw [Nat.zero_add, List.length_range] at e2
  have key : m_law_mixed [some (.loc 1), some w, none, none, none] (dst d ++ t) = some (.rt (.loc (2 + t.length + 1)) ((dst (mixedD xs d) ++ t) ++ [.lst (mixAll xs.length (d, xs, [])).2.1, .lst (mixedM xs d)])) := by
    refine seq_nx (ρ1 := [some (.loc 1), some w, some (.loc (2 + t.length)), some (.loc (2 + t.length + 1)), none]) (μ1 := (dst d ++ t) ++ [.lst xs, .lst []]) ?_ (seq_nx (ρ1 := ρ2) (μ1 := μ2) (for_of (xs := rangeD 0 (xs.length : Int).toNat) (c := none) (μ1 := (dst d ++ t) ++ [.lst xs, .lst []]) ?_ ?_) (ret_of ?_))
    · unfold mPar
      have a1 : mLstOfM (mVar 1) [some (.loc 1), some w, none, none, none] (dst d ++ t) = some (.loc (2 + t.length), dst d ++ t ++ [.lst xs]) := by
        unfold mLstOfM
        show (match view (dst d ++ t) w with
          | some d' => (match lstF d' with
            | some (.lst xs) => some (W.loc (dst d ++ t).length, dst d ++ t ++ [MO.lst xs])
            | _ => none)
          | none => none) = _
        rw [hw]
        dsimp only
        rw [hv, hp]
      rw [q_cons, a1]
      dsimp only [Option.bind]
      rw [q_cons]
      have a2 : mLstM mNil [some (.loc 1), some w, none, none, none] (dst d ++ t ++ [.lst xs]) = some (.loc (2 + t.length + 1), dst d ++ t ++ [.lst xs] ++ [.lst []]) := by
        show some (W.loc (dst d ++ t ++ [MO.lst xs]).length, _) = _
        rw [List.length_append, hp]
        rfl
      rw [a2]
      dsimp only [Option.bind, mNil]
      rw [List.append_assoc (dst d ++ t)]
      rfl
    · unfold kRng1
      have a1 : mUn lenF (mVar 2) [some (.loc 1), some w, some (.loc (2 + t.length)), some (.loc (2 + t.length + 1)), none] ((dst d ++ t) ++ [.lst xs, .lst []]) = some (.val (.int xs.length), (dst d ++ t) ++ [.lst xs, .lst []]) := by
        rw [q_un]
        show (view _ (.loc (2 + t.length))).bind _ = _
        rw [view_at (xs := xs) (by rw [← hp d]; exact get2_0)]
        rfl
      rw [dat_one a1]
      dsimp only
      rw [if_pos (show rngB _ = true from Nat.ble_eq_true_of_le (by omega))]
    · show loopR (hName 4) m_law_mixed_1 none (rangeD 0 (xs.length : Int).toNat) _ _ = some (.nx ρ2 μ2)
      rw [Int.toNat_natCast]
      exact hl
    · subst e1 e2
      rfl
  have hx : exitF true (dst d ++ t).length (.loc (2 + t.length + 1)) ((dst (mixedD xs d) ++ t) ++ [.lst (mixAll xs.length (d, xs, [])).2.1, .lst (mixedM xs d)]) = some (.val (.lst (mixedM xs d)), dst (mixedD xs d) ++ t) := by
    have f1 : frz1 ((dst (mixedD xs d) ++ t) ++ [.lst (mixAll xs.length (d, xs, [])).2.1, .lst (mixedM xs d)]) (.loc (2 + t.length + 1)) = some (.lst (mixedM xs d), (dst (mixedD xs d) ++ t) ++ [.lst (mixAll xs.length (d, xs, [])).2.1, .frz (mixedM xs d)]) := by
      unfold frz1
      dsimp only
      rw [show 2 + t.length + 1 = (dst (mixedD xs d) ++ t).length + 1 by rw [hp], get2_1]
      dsimp only
      rw [set2_1]
    have fr : frzRet true (2 + t.length) (.loc (2 + t.length + 1)) ((dst (mixedD xs d) ++ t) ++ [.lst (mixAll xs.length (d, xs, [])).2.1, .lst (mixedM xs d)]) = (.val (.lst (mixedM xs d)), (dst (mixedD xs d) ++ t) ++ [.lst (mixAll xs.length (d, xs, [])).2.1, .frz (mixedM xs d)]) := by
      unfold frzRet
      dsimp only
      rw [if_neg (by omega), f1]
    unfold exitF
    rw [hp, fr]
    dsimp only
    have tk : ((dst (mixedD xs d) ++ t) ++ [MO.lst (mixAll xs.length (d, xs, [])).2.1, MO.frz (mixedM xs d)]).take (2 + t.length) = dst (mixedD xs d) ++ t := by
      rw [← hp (mixedD xs d), List.take_left]
    have al : (dst (mixedD xs d) ++ t).all (MO.below (2 + t.length)) = true := by
      rw [List.all_append, ht]
      show (([MO.lst _, MO.lsW [W.loc 0, W.val _]] : Mu).all (MO.below (2 + t.length)) && true) = true
      simp [MO.below, W.below]
      omega
    rw [tk, if_pos (by rw [List.length_append, hp]; omega), if_pos ⟨rfl, al⟩]
  exact body_rt rfl key hx
/-! ### deal -/
def bDeal (p q : Int) : RS := (mAsg (mOp mdF (mUn intF (mOp plusF (mOp timesF (mVar 4) (mC (.int 16807))) (mOp mdF (mUn intF (mVar 2)) (mC (.int p))))) (mC (.int q))) (hName 4))
def gDeal (a b p q : Int) : RS :=
  (mSeq (mAsg (mLc (kSeq (mSl (mVar 0) (mPart (mVar 1)) (mPart (mC (.int 60))))) (hName 2) mYes (mUn absF (mVar 2)) [2]) (hName 3))
      (mSeq (mAsg (mOp plusF (mC (.int a)) (mOp timesF (mC (.int b)) (mVar 1))) (hName 4))
      (mSeq (mFor (kSeq (mVar 3)) (hName 2) (bDeal p q))
      (mRet (mLsW (mCons (mRevM (mLc (kSeq (mVar 3)) (hName 2) (mTest (mOp geF (mVar 2) (mOp pwF (mC (.int 10)) (mC (.int 18))))) (mVar 2) [2])) (mCons (mVar 4) mNil)))))))
theorem timesF_l {i j : Int} (h : -(2 ^ 64) < i ∧ i < 2 ^ 64) : timesF (.int i) (.int j) = some (.int (i * j)) := by
  show (if _ then _ else _) = _
  rw [if_pos (.inl h)]
theorem timesF_r {i j : Int} (h : -(2 ^ 64) < j ∧ j < 2 ^ 64) : timesF (.int i) (.int j) = some (.int (i * j)) := by
  show (if _ then _ else _) = _
  rw [if_pos (.inr h)]
theorem mdF_pos {i j : Int} (h : 0 < j) : mdF (.int i) (.int j) = some (.int (i % j)) := by
  show (if _ then _ else _) = _
  rw [if_pos h]
theorem e_gdeal {a b p q base : Int} {ns : List Int} (hb : -(2 ^ 64) < b ∧ b < 2 ^ 64) (hp : 0 < p) (hq : 0 < q) (hz : ns.length ≤ 1000) : ∃ d : Dl, bodyF false 2 5 (gDeal a b p q) [.val (.scr ns), .val (.int base)] [] = some (.loc 1, dst d) ∧ d.1.length ≤ ns.length := by
  have hlb : LB = 100000 := rfl
  have hcl := cutI_len (xs := ns) (lo := some base) (hi := some 60)
  have ecut : DK.cutD (ns.map D.int) (some base) (some 60) = (cutI ns (some base) (some 60)).map D.int := cutD_map
  generalize hcs : cutI ns (some base) (some 60) = cs at *
  have s1 : mAsg (mLc (kSeq (mSl (mVar 0) (mPart (mVar 1)) (mPart (mC (.int 60))))) (hName 2) mYes (mUn absF (mVar 2)) [2]) (hName 3) [some (.val (.scr ns)), some (.val (.int base)), none, none, none] [] = some (.nx [some (.val (.scr ns)), some (.val (.int base)), none, some (.val (.lst ((cs.map absI).map D.int))), none] []) := by
    have e1 : mSl (mVar 0) (mPart (mVar 1)) (mPart (mC (.int 60))) [some (.val (.scr ns)), some (.val (.int base)), none, none, none] [] = some (.val (.lst (cs.map D.int)), []) := by
      unfold mSl
      show (match (if ns.length ≤ LB then some (D.lst (DK.cutD (ns.map D.int) (some base) (some 60))) else none) with
        | some r => some (W.val r, [])
        | none => none) = _
      rw [if_pos (by omega), ecut]
    refine asg_of (lc_of (xs := cs.map D.int) (c := none) (seqI_of e1 rfl) (by rw [List.length_map]; omega) ?_)
    rw [List.map_map]
    exact lc_map1 rfl fun x hx => ⟨_, rfl, rfl⟩
  have s2 : mAsg (mOp plusF (mC (.int a)) (mOp timesF (mC (.int b)) (mVar 1))) (hName 4) [some (.val (.scr ns)), some (.val (.int base)), none, some (.val (.lst ((cs.map absI).map D.int))), none] [] = some (.nx [some (.val (.scr ns)), some (.val (.int base)), none, some (.val (.lst ((cs.map absI).map D.int))), some (.val (.int (a + b * base)))] []) :=
    asg_of (op_of rfl (op_of rfl rfl (timesF_l hb)) rfl)
  obtain ⟨ρ2, μ2, hl, y, m, e1, e2⟩ := loop_inv (l := cs.map absI) (k := 0) (c := none) (f := D.int) (g := hName 2) (b := bDeal p q) (I := fun _ ρ μ => ∃ y m, ρ = [some (.val (.scr ns)), some (.val (.int base)), y, some (.val (.lst ((cs.map absI).map D.int))), some (.val (.int m))] ∧ μ = [])
    (ρ := [some (.val (.scr ns)), some (.val (.int base)), none, some (.val (.lst ((cs.map absI).map D.int))), some (.val (.int (a + b * base)))]) (μ := [])
    (fun n x ρ μ hx ⟨y, m, e1, e2⟩ => by
      subst e1 e2
      refine ⟨_, [some (.val (.scr ns)), some (.val (.int base)), some (.val (.int x)), some (.val (.lst ((cs.map absI).map D.int))), some (.val (.int ((m * 16807 + x % p) % q)))], [], rfl, .inl ?_, rfl, _, _, rfl, rfl⟩
      exact asg_of (op_of (x := .int (m * 16807 + x % p)) (un_of (x := .int (m * 16807 + x % p)) (op_of (x := .int (m * 16807)) (y := .int (x % p)) (op_of (x := .int m) rfl rfl (timesF_r ⟨by omega, by omega⟩)) (op_of (x := .int x) (un_of (x := .int x) rfl rfl) rfl (mdF_pos hp)) rfl) rfl) rfl (mdF_pos hq))) ⟨none, _, rfl, rfl⟩
  subst e1 e2
  have s3 : mFor (kSeq (mVar 3)) (hName 2) (bDeal p q) [some (.val (.scr ns)), some (.val (.int base)), none, some (.val (.lst ((cs.map absI).map D.int))), some (.val (.int (a + b * base)))] [] = some (.nx [some (.val (.scr ns)), some (.val (.int base)), y, some (.val (.lst ((cs.map absI).map D.int))), some (.val (.int m))] []) := for_of (seqI_of rfl rfl) hl
  have s4 : mLc (kSeq (mVar 3)) (hName 2) (mTest (mOp geF (mVar 2) (mOp pwF (mC (.int 10)) (mC (.int 18))))) (mVar 2) [2] [some (.val (.scr ns)), some (.val (.int base)), y, some (.val (.lst ((cs.map absI).map D.int))), some (.val (.int m))] [] = some (.val (.lst (((cs.map absI).filter fun c => decide (10 ^ 18 ≤ c)).map D.int)), []) :=
    lc_of (c := none) (seqI_of rfl rfl) (by rw [List.length_map, List.length_map]; omega) (lc_map (p := fun c => decide (10 ^ 18 ≤ c)) rfl fun x hx => ⟨_, rfl, test_of (op_of (x := .int x) (y := .int (10 ^ 18)) rfl (op_of rfl rfl rfl) rfl), fun _ => rfl⟩)
  refine ⟨(((cs.map absI).filter fun c => decide (10 ^ 18 ≤ c)).reverse, m), ?_, ?_⟩
  · refine body_rt (w := .loc 1) (μ1 := dst (((cs.map absI).filter fun c => decide (10 ^ 18 ≤ c)).reverse, m)) rfl (seq_nx s1 (seq_nx s2 (seq_nx s3 (ret_of ?_)))) rfl
    unfold mLsW
    have e1 : mRevM (mLc (kSeq (mVar 3)) (hName 2) (mTest (mOp geF (mVar 2) (mOp pwF (mC (.int 10)) (mC (.int 18))))) (mVar 2) [2]) [some (.val (.scr ns)), some (.val (.int base)), y, some (.val (.lst ((cs.map absI).map D.int))), some (.val (.int m))] [] = some (.loc 0, [.lst (((cs.map absI).filter fun c => decide (10 ^ 18 ≤ c)).map D.int).reverse]) := by
      unfold mRevM
      rw [dat1_val s4]
      rfl
    rw [q_cons, e1]
    show some (W.loc 1, [MO.lst (((cs.map absI).filter fun c => decide (10 ^ 18 ≤ c)).map D.int).reverse, MO.lsW [W.loc 0, W.val (D.int m)]]) = _
    unfold dst
    rw [List.map_reverse]
  · rw [List.length_reverse]
    have := List.length_filter_le (fun c => decide (10 ^ 18 ≤ c)) (cs.map absI)
    rw [List.length_map] at this
    omega
end DX

/-! DXEv: a run simplified step by step (the tactic ev). -/
namespace DX
open PySem PySem.Spec L2 DK
variable {ρ : Env'} {μ : Mu}
theorem view_val {d : D} : view μ (.val d) = some d := rfl
def viewM : Option MO → Option D
  | some (.lst xs) => some (.lst xs)
  | some (.frz xs) => some (.lst xs)
  | _ => none
theorem view_loc {j : Nat} : view μ (.loc j) = viewM μ[j]? := by
  unfold view viewM
  try dsimp only
  all_goals (cases μ[j]? with
  | none => rfl
  | some m => cases m <;> rfl)
theorem viewM_lst {xs : List D} : viewM (some (.lst xs)) = some (.lst xs) := rfl
theorem viewM_frz {xs : List D} : viewM (some (.frz xs)) = some (.lst xs) := rfl
theorem isBl_bl {b : Bool} : isBl (.val (.bl b)) = some b := rfl
def varW (μ : Mu) : Option (Option W) → Option (W × Mu)
  | some (some w) => some (w, μ)
  | _ => none
theorem q_var {i : Nat} : mVar i ρ μ = varW μ ρ[i]? := by
  unfold mVar varW
  cases ρ[i]? with
  | none => rfl
  | some o => cases o <;> rfl
theorem varW_some {w : W} : varW μ (some (some w)) = some (w, μ) := rfl
theorem q_c {d : D} : mC d ρ μ = some (.val d, μ) := rfl
theorem q_nil : mNil ρ μ = some ([], μ) := rfl
theorem q_next : mNext ρ μ = some (.nx ρ μ) := rfl
theorem q_cont : mCont ρ μ = some (.ct ρ μ) := rfl
theorem q_break : mBreak ρ μ = some (.bk ρ μ) := rfl
theorem q_retN : mRetN ρ μ = some (.rt (.val .non) μ) := rfl
theorem q_yes : mYes ρ μ = some (true, μ) := rfl
theorem q_noPart : mNoPart ρ μ = some (none, μ) := rfl
def partW : W × Mu → Option (Option Int × Mu)
  | (.val (.int n), μ1) => some (some n, μ1)
  | _ => none
theorem q_partB {a : RE} : mPart a ρ μ = (a ρ μ).bind partW := by
  unfold mPart
  cases a ρ μ with
  | none => rfl
  | some p =>
    obtain ⟨w, μ1⟩ := p
    cases w with
    | loc j => rfl
    | val d => cases d <;> rfl
theorem partW_int {n : Int} : partW (.val (.int n), μ) = some (some n, μ) := rfl
theorem name_set {i : Nat} {w : W} : hName i w ρ = some (ρ.set i (some w)) := rfl
def isNW (neg : Bool) : W → Bool
  | .val d => neg ^^ isNon d
  | .loc _ => neg
theorem q_isN {neg : Bool} {a : RE} : mIsN neg a ρ μ = (a ρ μ).bind fun p => some (.val (.bl (isNW neg p.1)), p.2) := by
  unfold mIsN
  cases a ρ μ with
  | none => rfl
  | some p =>
    obtain ⟨w, μ1⟩ := p
    cases w <;> rfl
def ixW (μ : Mu) (x y : W) : Option (W × Mu) := match (match x with | .loc j => μ[j]? | _ => none), y with
  | some (.lsW ws), .val (.int n) => match atI ws n with
    | some w => some (w, μ)
    | none => none
  | _, _ => match view μ x, view μ y with
    | some d, some e => match ixF d e with
      | some r => some (.val r, μ)
      | none => none
    | _, _ => none
theorem q_ixB {a b : RE} : mIx a b ρ μ = (a ρ μ).bind fun p => (b ρ p.2).bind fun q => ixW q.2 p.1 q.1 := by
  unfold mIx
  cases a ρ μ with
  | none => rfl
  | some p =>
    dsimp only [Option.bind]
    cases b ρ p.2 with
    | none => rfl
    | some q => rfl
theorem ixW_val {d e : D} : ixW μ (.val d) (.val e) = (ixF d e).bind fun r => some (.val r, μ) := by
  unfold ixW
  dsimp only [view]
  cases ixF d e <;> rfl
theorem ixF_l {xs : List D} {i : Int} : ixF (.lst xs) (.int i) = atI xs i := rfl
theorem ixF_t {xs : List D} {i : Int} : ixF (.tup xs) (.int i) = atI xs i := rfl
def fldW (c f : Str) (μ : Mu) : W → Option (W × Mu)
  | .val (.obj c' ns ds) => if c' = c then match ds[fpos f ns]? with
    | some d => some (.val d, μ)
    | none => none
    else none
  | .loc j => match μ[j]? with
    | some (.ins c' fs) => if c' = c then match fs.lookup f with
      | some w => some (w, μ)
      | none => none
      else none
    | _ => none
  | _ => none
theorem q_fld {c f : Str} {o : RE} : mFld c f o ρ μ = (o ρ μ).bind fun p => fldW c f p.2 p.1 := by
  unfold mFld
  cases o ρ μ with
  | none => rfl
  | some p =>
    obtain ⟨w, μ1⟩ := p
    cases w with
    | loc j => rfl
    | val d => cases d <;> rfl
theorem fld_row_word {r : RowM} : fldW "Row" "word" μ (.val r.d) = some (.val (.str r.word), μ) := by
  unfold fldW RowM.d
  rfl
theorem fld_row_tests {r : RowM} : fldW "Row" "tests" μ (.val r.d) = some (.val (.tup (r.tests.map D.str)), μ) := rfl
theorem fld_row_deeds {r : RowM} : fldW "Row" "deeds" μ (.val r.d) = some (.val (.tup (r.deeds.map D.str)), μ) := rfl
theorem fld_row_opens {r : RowM} : fldW "Row" "opens" μ (.val r.d) = some (.val (.bl r.opens), μ) := rfl
theorem fld_tool_window {T : ToolM} : fldW "Tool" "window" μ (.val T.d) = some (.val (.int T.window), μ) := rfl
theorem fld_tool_rows {T : ToolM} : fldW "Tool" "rows" μ (.val T.d) = some (.val (.tup (T.rows.map RowM.d)), μ) := rfl
theorem fld_tool_marks {T : ToolM} : fldW "Tool" "marks" μ (.val T.d) = some (.val (.tup ((namesM T.rows).map D.str)), μ) := rfl
theorem recv_row {m : Str} {r : RowM} : recvOk "Row" m μ (.val r.d) = !rowNs.contains m := rfl
theorem recv_tool {m : Str} {T : ToolM} : recvOk "Tool" m μ (.val T.d) = !toolNs.contains m := rfl
def bodyE (fz : Bool) (n : Nat) : Out → Option (W × Mu)
  | .rt w μ1 => exitF fz n w μ1
  | .nx _ μ1 => exitF fz n (.val .non) μ1
  | _ => none
theorem q_body {fz : Bool} {k n : Nat} {m : RS} {ws : List W} : bodyF fz k n m ws μ = if ws.length = k then (m (start n ws) μ).bind (bodyE fz μ.length) else none := by
  unfold bodyF
  cases m (start n ws) μ with
  | none => rfl
  | some o => cases o <;> rfl
theorem bodyE_rt {fz : Bool} {n : Nat} {w : W} : bodyE fz n (.rt w μ) = exitF fz n w μ := rfl
theorem bodyE_nx {fz : Bool} {n : Nat} : bodyE fz n (.nx ρ μ) = exitF fz n (.val .non) μ := rfl
theorem exit_nil {fz : Bool} {d : D} : exitF fz 0 (.val d) [] = some (.val d, []) := by cases fz <;> rfl
theorem exit_any {fz : Bool} {d : D} : exitF fz 0 (.val d) μ = some (.val d, []) := by
  cases fz <;> simp [exitF, frzRet, W.below]
theorem exit_dst {fz : Bool} {v : D} {xs : List D} {m : D} : exitF fz 2 (.val v) (.lst xs :: .lsW [.loc 0, .val m] :: μ) = some (.val v, [.lst xs, .lsW [.loc 0, .val m]]) := by
  cases fz <;> simp [exitF, frzRet, W.below, MO.below]
theorem negF_int {i : Int} : negF (.int i) = some (.int (-i)) := rfl
theorem plusF_int {i j : Int} : plusF (.int i) (.int j) = some (.int (i + j)) := rfl
theorem minusF_int {i j : Int} : minusF (.int i) (.int j) = some (.int (i - j)) := rfl
theorem ltF_int {i j : Int} : ltF (.int i) (.int j) = some (.bl (decide (i < j))) := rfl
theorem leF_int {i j : Int} : leF (.int i) (.int j) = some (.bl (decide (i ≤ j))) := rfl
theorem gtF_int {i j : Int} : gtF (.int i) (.int j) = some (.bl (decide (j < i))) := rfl
theorem geF_int {i j : Int} : geF (.int i) (.int j) = some (.bl (decide (j ≤ i))) := rfl
theorem eqF_int {n : Bool} {i j : Int} : eqF n (.int i) (.int j) = some (.bl (n ^^ decide (i = j))) := rfl
theorem eqF_str {n : Bool} {i j : Str} : eqF n (.str i) (.str j) = some (.bl (n ^^ decide (i = j))) := rfl
theorem eqF_bl {n : Bool} {i j : Bool} : eqF n (.bl i) (.bl j) = some (.bl (n ^^ decide (i = j))) := rfl
theorem intF_int {i : Int} : intF (.int i) = some (.int i) := rfl
theorem maxF_int {i j : Int} : maxF (.int i) (.int j) = some (.int (max i j)) := rfl
theorem minF_int {i j : Int} : minF (.int i) (.int j) = some (.int (min i j)) := rfl
theorem lenF_l {xs : List D} : lenF (.lst xs) = some (.int xs.length) := rfl
theorem lenF_t {xs : List D} : lenF (.tup xs) = some (.int xs.length) := rfl
theorem lenF_s {s : Str} : lenF (.str s) = some (.int s.length) := rfl
theorem tupF_l {xs : List D} : tupF (.lst xs) = some (.tup xs) := rfl
theorem tupF_t {xs : List D} : tupF (.tup xs) = some (.tup xs) := rfl
theorem lstF_l {xs : List D} : lstF (.lst xs) = some (.lst xs) := rfl
theorem lstF_t {xs : List D} : lstF (.tup xs) = some (.lst xs) := rfl
theorem strF_s {s : Str} : strF (.str s) = some (.str s) := rfl
theorem seqOf_t {xs : List D} : seqOf μ (.val (.tup xs)) = some xs := rfl
theorem seqOf_l {xs : List D} : seqOf μ (.val (.lst xs)) = some xs := rfl
theorem guard_val {d : D} {xs : List D} : guardOf (.val d) xs = none := rfl
theorem guard_loc {j : Nat} {xs : List D} : guardOf (.loc j) xs = some (j, xs) := rfl
theorem isNW_val {neg : Bool} {d : D} : isNW neg (.val d) = (neg ^^ isNon d) := rfl
theorem isNW_loc {neg : Bool} {j : Nat} : isNW neg (.loc j) = neg := rfl
def enumW : List W × Mu → Option (List D × Option (Nat × List D) × Mu)
  | ([w], μ1) => (seqOf μ1 w).bind fun xs => some (enumD 0 xs, guardOf w xs, μ1)
  | _ => none
theorem q_enum {r : RA} : kEnum r ρ μ = (r ρ μ).bind enumW := by
  unfold kEnum
  cases r ρ μ with
  | none => rfl
  | some p =>
    obtain ⟨ws, μ1⟩ := p
    match ws with
    | [] => rfl
    | [w] => dsimp only [Option.bind, enumW]; cases seqOf μ1 w <;> rfl
    | _ :: _ :: _ => rfl
theorem enumW_1 {w : W} : enumW ([w], μ) = (seqOf μ w).bind fun xs => some (enumD 0 xs, guardOf w xs, μ) := rfl
def parW (i j : Nat) (ρ : Env') : List W × Mu → Option Out
  | ([v, w], μ1) => some (.nx ((ρ.set i (some v)).set j (some w)) μ1)
  | _ => none
theorem q_par {i j : Nat} {r : RA} : mPar i j r ρ μ = (r ρ μ).bind (parW i j ρ) := by
  unfold mPar
  cases r ρ μ with
  | none => rfl
  | some p =>
    obtain ⟨ws, μ1⟩ := p
    match ws with
    | [] => rfl
    | [w] => rfl
    | [v, w] => rfl
    | _ :: _ :: _ :: _ => rfl
theorem parW_2 {i j : Nat} {v w : W} : parW i j ρ ([v, w], μ) = some (.nx ((ρ.set i (some v)).set j (some w)) μ) := rfl
theorem tup_set {n : Nat} {r : RGs} {ds : List D} : hTup n r (.val (.tup ds)) ρ = if ds.length = n then r ds ρ else none := rfl
theorem cons_set {g : RG} {r : RGs} {d : D} {t : List D} : hCons g r (d :: t) ρ = (g (.val d) ρ).bind fun ρ1 => r t ρ1 := by
  show (match g (.val d) ρ with
    | some ρ1 => r t ρ1
    | none => none) = _
  cases g (.val d) ρ <;> rfl
theorem nil_set : hNil [] ρ = some ρ := rfl
theorem frzL_nil : frzL μ [] = some ([], μ) := rfl
theorem frzL_cons {w : W} {ws : List W} : frzL μ (w :: ws) = (frz1 μ w).bind fun p => (frzL p.2 ws).bind fun q => some (p.1 :: q.1, q.2) := by
  show (match frz1 μ w with
    | some (d, μ1) => match frzL μ1 ws with
      | some (ds, μ2) => some (d :: ds, μ2)
      | none => none
    | none => none) = _
  cases frz1 μ w with
  | none => rfl
  | some p =>
    dsimp only [Option.bind]
    cases frzL p.2 ws <;> rfl
def frzM (μ : Mu) (j : Nat) : Option MO → Option (D × Mu)
  | some (.lst xs) => some (.lst xs, μ.set j (.frz xs))
  | some (.frz xs) => some (.lst xs, μ)
  | _ => none
theorem frz1_loc {j : Nat} : frz1 μ (.loc j) = frzM μ j μ[j]? := by
  unfold frz1 frzM
  try dsimp only
  all_goals (cases μ[j]? with
  | none => rfl
  | some m => cases m <;> rfl)
theorem frzM_lst {j : Nat} {xs : List D} : frzM μ j (some (.lst xs)) = some (.lst xs, μ.set j (.frz xs)) := rfl
theorem frzM_frz {j : Nat} {xs : List D} : frzM μ j (some (.frz xs)) = some (.lst xs, μ) := rfl
theorem map_inj {α β : Type} {f : α → β} (hf : ∀ a b, f a = f b → a = b) : ∀ {l m : List α}, l.map f = m.map f → l = m
  | [], [], _ => rfl
  | [], _ :: _, h => by simp at h
  | _ :: _, [], h => by simp at h
  | a :: l, b :: m, h => by
    simp only [List.map_cons, List.cons.injEq] at h
    rw [hf a b h.1, map_inj hf h.2]
theorem ofS {a b : String} : (Str.ofString a = Str.ofString b) = (a = b) := by
  apply propext
  constructor
  · intro h
    rw [Str.ofString_eq_toList, Str.ofString_eq_toList] at h
    have h2 : a.toList.map Char.toNat = b.toList.map Char.toNat := by
      have := congrArg (fun s : Str => s.cps.toList) h
      simpa using this
    have h3 := map_inj (fun x y e => Char.ext (UInt32.toNat_inj.mp e)) h2
    exact String.toList_inj.mp h3
  · intro h
    rw [h]
def fldSW (c f : Str) (ρ : Env') (w : W) (μ : Mu) : W → Option Out
  | .loc j => match μ[j]? with
    | some (.ins c' fs) => if c' = c ∧ fs.length < 100 ∧ w.below μ.length = true then some (.nx ρ (μ.set j (.ins c (putW f w fs)))) else none
    | _ => none
  | _ => none
theorem q_fldS {c f : Str} {o e : RE} : mFldS c f o e ρ μ = (e ρ μ).bind fun p => (o ρ p.2).bind fun q => fldSW c f ρ p.1 q.2 q.1 := by
  unfold mFldS
  cases e ρ μ with
  | none => rfl
  | some p =>
    dsimp only [Option.bind]
    cases o ρ p.2 with
    | none => rfl
    | some q =>
      obtain ⟨w, μ2⟩ := q
      cases w <;> rfl
theorem fldSW_0 {c f : Str} {d : D} {fs : List (Str × W)} : fldSW c f ρ (.val d) (.ins c fs :: μ) (.loc 0) = if fs.length < 100 then some (.nx ρ (.ins c (putW f (.val d) fs) :: μ)) else none := by
  show (if c = c ∧ fs.length < 100 ∧ W.below (MO.ins c fs :: μ).length (W.val d) = true then some (Out.nx ρ ((MO.ins c fs :: μ).set 0 (.ins c (putW f (.val d) fs)))) else none) = _
  by_cases h : fs.length < 100
  · rw [if_pos h, if_pos ⟨rfl, h, rfl⟩]
    rfl
  · rw [if_neg h, if_neg (fun z => h z.2.1)]
theorem makeX_pure {c : Str} {f : FX} {ds : List D} {fs : List (Str × W)} {ns : List Str} {vs : List D} (h : f (.loc 0 :: ds.map W.val) [.ins c []] = some (.val .non, [.ins c fs])) (hv : valsOf fs = some (ns, vs)) : makeX c f (ds.map W.val) μ = some (.val (.obj c ns vs), μ) := by
  have e : preN (ds.map W.val) μ = 0 := by
    unfold preN
    rw [locTop_vals]
    simp
  unfold makeX
  rw [e]
  simp only [List.take_zero, List.nil_append, List.drop_zero]
  rw [h]
  dsimp only
  simp only [List.drop_zero, List.take_zero, List.all_nil, List.length_nil, and_self, and_true, if_true, List.nil_append]
  rw [hv]
theorem exit_ins {c : Str} {fs : List (Str × W)} (h : (fs.all fun p => p.2.below 1) = true) : exitF true 1 (.val .non) [.ins c fs] = some (.val .non, [.ins c fs]) := by
  have e1 : ([MO.ins c fs].take 1).all (MO.below 1) = true := by
    show ((fs.all fun p => p.2.below 1) && true) = true
    rw [h]
    rfl
  have e2 : frzRet true 1 (.val .non) [.ins c fs] = (.val .non, [.ins c fs]) := rfl
  unfold exitF
  rw [e2]
  dsimp only
  rw [if_pos (show 1 ≤ [MO.ins c fs].length from Nat.le_refl 1), if_pos ⟨rfl, e1⟩]
  rfl
theorem isNon_int {i : Int} : DK.isNon (.int i) = false := rfl
theorem isNon_non : DK.isNon .non = true := rfl
theorem isNon_bl {b : Bool} : DK.isNon (.bl b) = false := rfl
theorem isNon_str {b : Str} : DK.isNon (.str b) = false := rfl
theorem isNon_tup {b : List D} : DK.isNon (.tup b) = false := rfl
theorem isNon_lst {b : List D} : DK.isNon (.lst b) = false := rfl
theorem q_lcM {i : RI} {g : RG} {t : RB} {e : RE} {vs : List Nat} : mLcM i g t e vs ρ μ = (i ρ μ).bind fun p => if p.1.length ≤ LB then (lcR g t e p.2.1 (wipeE ρ vs) p.1 p.2.2).bind fun q => some (.loc q.2.length, q.2 ++ [.lst q.1]) else none := by
  unfold mLcM
  cases i ρ μ with
  | none => rfl
  | some p =>
    obtain ⟨xs, c, μ1⟩ := p
    dsimp only [Option.bind]
    split
    · cases lcR g t e c (wipeE ρ vs) xs μ1 <;> rfl
    · rfl
def setIW (ρ : Env') (μ : Mu) : W → W → W → Option Out
  | w, .loc j, .val (.int n) => match μ[j]? with
    | some (.lst xs) => match ixN xs.length n with
      | some k => match w with
        | .val d => some (.nx ρ (μ.set j (.lst (xs.set k d))))
        | _ => none
      | none => none
    | some (.lsW ws) => match ixN ws.length n with
      | some k => if w.below μ.length = true then some (.nx ρ (μ.set j (.lsW (ws.set k w)))) else none
      | none => none
    | _ => none
  | _, _, _ => none
theorem q_setI {e a b : RE} : mSetI e a b ρ μ = (e ρ μ).bind fun p => (a ρ p.2).bind fun q => (b ρ q.2).bind fun s => setIW ρ s.2 p.1 q.1 s.1 := by
  unfold mSetI
  cases e ρ μ with
  | none => rfl
  | some p =>
    dsimp only [Option.bind]
    cases a ρ p.2 with
    | none => rfl
    | some q =>
      obtain ⟨w, μ2⟩ := q
      cases w with
      | val d =>
        dsimp only
        cases b ρ μ2 <;> rfl
      | loc j =>
        dsimp only
        cases b ρ μ2 with
        | none => rfl
        | some s =>
          obtain ⟨v, μ3⟩ := s
          cases v with
          | loc i => rfl
          | val d => cases d <;> rfl
theorem setIW_2 {a b : MO} {xs : List D} {n : Int} {d : D} {t : Mu} : setIW ρ (a :: b :: .lst xs :: t) (.val d) (.loc 2) (.val (.int n)) = (ixN xs.length n).bind fun k => some (.nx ρ (a :: b :: .lst (xs.set k d) :: t)) := by
  show (match ixN xs.length n with
    | some k => some (Out.nx ρ ((a :: b :: MO.lst xs :: t).set 2 (.lst (xs.set k d))))
    | none => none) = _
  cases ixN xs.length n <;> rfl
theorem setIW_3 {a b c : MO} {xs : List D} {n : Int} {d : D} {t : Mu} : setIW ρ (a :: b :: c :: .lst xs :: t) (.val d) (.loc 3) (.val (.int n)) = (ixN xs.length n).bind fun k => some (.nx ρ (a :: b :: c :: .lst (xs.set k d) :: t)) := by
  show (match ixN xs.length n with
    | some k => some (Out.nx ρ ((a :: b :: c :: MO.lst xs :: t).set 3 (.lst (xs.set k d))))
    | none => none) = _
  cases ixN xs.length n <;> rfl
def addW (μ : Mu) (x y : W) : Option (W × Mu) := match view μ x, view μ y with
  | some (.lst d), some (.lst e) => if d.length + e.length ≤ LB then some (.loc μ.length, μ ++ [.lst (d ++ e)]) else none
  | _, _ => none
theorem q_addM {a b : RE} : mAddM a b ρ μ = (a ρ μ).bind fun p => (b ρ p.2).bind fun q => addW q.2 p.1 q.1 := by
  unfold mAddM
  cases a ρ μ with
  | none => rfl
  | some p =>
    dsimp only [Option.bind]
    cases b ρ p.2 with
    | none => rfl
    | some q => rfl
theorem addW_val {a b : List D} : addW μ (.val (.lst a)) (.val (.lst b)) = if a.length + b.length ≤ LB then some (.loc μ.length, μ ++ [.lst (a ++ b)]) else none := rfl
theorem exit_loc2 {xs ys : List D} {m : D} {t : Mu} : exitF true 2 (.loc 2) (.lst xs :: .lsW [.loc 0, .val m] :: .lst ys :: t) = some (.val (.lst ys), [.lst xs, .lsW [.loc 0, .val m]]) := by
  simp [exitF, frzRet, frz1, W.below, MO.below]
theorem exit_loc3 {xs ys : List D} {m : D} {c : MO} {t : Mu} : exitF true 2 (.loc 3) (.lst xs :: .lsW [.loc 0, .val m] :: c :: .lst ys :: t) = some (.val (.lst ys), [.lst xs, .lsW [.loc 0, .val m]]) := by
  simp [exitF, frzRet, frz1, W.below, MO.below]
theorem exit_dst3 {fz : Bool} {v : D} {xs ys : List D} {m : D} {t : Mu} : exitF fz 3 (.val v) (.lst xs :: .lsW [.loc 0, .val m] :: .lst ys :: t) = some (.val v, [.lst xs, .lsW [.loc 0, .val m], .lst ys]) := by
  cases fz <;> simp [exitF, frzRet, W.below, MO.below]
theorem exit_loc33 {xs ys zs : List D} {m : D} {t : Mu} : exitF true 3 (.loc 3) (.lst xs :: .lsW [.loc 0, .val m] :: .lst zs :: .lst ys :: t) = some (.val (.lst ys), [.lst xs, .lsW [.loc 0, .val m], .lst zs]) := by
  simp [exitF, frzRet, frz1, W.below, MO.below]
theorem exit_loc34 {xs ys zs : List D} {m : D} {c : MO} {t : Mu} : exitF true 3 (.loc 4) (.lst xs :: .lsW [.loc 0, .val m] :: .lst zs :: c :: .lst ys :: t) = some (.val (.lst ys), [.lst xs, .lsW [.loc 0, .val m], .lst zs]) := by
  simp [exitF, frzRet, frz1, W.below, MO.below]
def seqM : Option MO → Option (List D)
  | some (.lst xs) => some xs
  | some (.frz xs) => some xs
  | _ => none
theorem seqOf_loc {j : Nat} : seqOf μ (.loc j) = seqM μ[j]? := by
  unfold seqOf
  rw [view_loc]
  unfold viewM seqM
  cases μ[j]? with
  | none => rfl
  | some m => cases m <;> rfl
theorem seqM_lst {xs : List D} : seqM (some (.lst xs)) = some xs := rfl
theorem seqM_frz {xs : List D} : seqM (some (.frz xs)) = some xs := rfl
def ixM (μ : Mu) : Option MO → Int → Option (W × Mu)
  | some (.lsW ws), n => (atI ws n).bind fun w => some (w, μ)
  | some (.lst xs), n => (atI xs n).bind fun r => some (.val r, μ)
  | some (.frz xs), n => (atI xs n).bind fun r => some (.val r, μ)
  | _, _ => none
theorem ixW_loc {j : Nat} {n : Int} : ixW μ (.loc j) (.val (.int n)) = ixM μ μ[j]? n := by
  unfold ixW
  rw [view_loc]
  dsimp only
  unfold ixM
  cases μ[j]? with
  | none => rfl
  | some m =>
    cases m with
    | lsW ws => dsimp only; cases atI ws n <;> rfl
    | lst xs => dsimp only [viewM, view, ixF]; cases atI xs n <;> rfl
    | frz xs => dsimp only [viewM, view, ixF]; cases atI xs n <;> rfl
    | _ => rfl
theorem ixM_lsW {ws : List W} {n : Int} : ixM μ (some (.lsW ws)) n = (atI ws n).bind fun w => some (w, μ) := rfl
theorem ixM_lst {ws : List D} {n : Int} : ixM μ (some (.lst ws)) n = (atI ws n).bind fun w => some (.val w, μ) := rfl
theorem ixM_frz {ws : List D} {n : Int} : ixM μ (some (.frz ws)) n = (atI ws n).bind fun w => some (.val w, μ) := rfl
def setIM (ρ : Env') (μ : Mu) (j : Nat) (d : D) (n : Int) : Option MO → Option Out
  | some (.lst xs) => (ixN xs.length n).bind fun k => some (.nx ρ (μ.set j (.lst (xs.set k d))))
  | some (.lsW ws) => (ixN ws.length n).bind fun k => some (.nx ρ (μ.set j (.lsW (ws.set k (.val d)))))
  | _ => none
theorem setIW_loc {j : Nat} {d : D} {n : Int} : setIW ρ μ (.val d) (.loc j) (.val (.int n)) = setIM ρ μ j d n μ[j]? := by
  unfold setIW setIM
  dsimp only
  cases μ[j]? with
  | none => rfl
  | some m =>
    cases m with
    | lsW ws =>
      dsimp only
      cases ixN ws.length n with
      | none => rfl
      | some k => rfl
    | lst xs => dsimp only; cases ixN xs.length n <;> rfl
    | _ => rfl
theorem setIM_lst {j : Nat} {d : D} {n : Int} {xs : List D} : setIM ρ μ j d n (some (.lst xs)) = (ixN xs.length n).bind fun k => some (.nx ρ (μ.set j (.lst (xs.set k d)))) := rfl
def exitV (n : Nat) (w : W) (μ : Mu) : Option (W × Mu) := if n ≤ μ.length then
    if (μ.take n).all (MO.below n) = true then some (w, μ.take n)
    else if μ.all (MO.below μ.length) = true then some (w, μ) else none
  else none
theorem exit_val {fz : Bool} {n : Nat} {d : D} : exitF fz n (.val d) μ = exitV n (.val d) μ := by
  unfold exitF exitV frzRet
  cases fz <;> simp [W.below]
def exitM (n j : Nat) (μ : Mu) : Option MO → Option (W × Mu)
  | some (.lst xs) => exitV n (.val (.lst xs)) (μ.set j (.frz xs))
  | some (.frz xs) => exitV n (.val (.lst xs)) μ
  | _ => exitF true n (.loc j) μ
theorem exit_loc {n j : Nat} : exitF true n (.loc j) μ = if j < n then exitF false n (.loc j) μ else exitM n j μ μ[j]? := by
  by_cases h : j < n
  · rw [if_pos h]
    simp [exitF, frzRet, h]
  · rw [if_neg h]
    unfold exitM exitV
    cases e : μ[j]? with
    | none => rfl
    | some m => cases m <;> first | rfl | simp [exitF, frzRet, frz1, W.below, e, h]
theorem exitV_if {n : Nat} {w : W} : exitV n w μ = if n ≤ μ.length then
    if (μ.take n).all (MO.below n) = true then some (w, μ.take n)
    else if μ.all (MO.below μ.length) = true then some (w, μ) else none
  else none := rfl
theorem exitM_lst {n j : Nat} {xs : List D} : exitM n j μ (some (.lst xs)) = exitV n (.val (.lst xs)) (μ.set j (.frz xs)) := rfl
theorem exitM_frz {n j : Nat} {xs : List D} : exitM n j μ (some (.frz xs)) = exitV n (.val (.lst xs)) μ := rfl
theorem exitV_eq {n : Nat} {w : W} (h : n ≤ μ.length) (b : (μ.take n).all (MO.below n) = true) : exitV n w μ = some (w, μ.take n) := by
  unfold exitV
  rw [if_pos h, if_pos b]
theorem below_lst {n : Nat} {xs : List D} : MO.below n (.lst xs) = true := rfl
theorem below_frz {n : Nat} {xs : List D} : MO.below n (.frz xs) = true := rfl
theorem below_dK {n : Nat} {xs : List (Key × D)} : MO.below n (.dK xs) = true := rfl
theorem below_scr {n : Nat} {xs : List Int} : MO.below n (.scr xs) = true := rfl
theorem below_lsW {n : Nat} {ws : List W} : MO.below n (.lsW ws) = ws.all (W.below n) := rfl
theorem below_ins {n : Nat} {c : Str} {fs : List (Str × W)} : MO.below n (.ins c fs) = fs.all fun p => p.2.below n := rfl
theorem below_dW {n : Nat} {fs : List (Str × W)} : MO.below n (.dW fs) = fs.all fun p => p.2.below n := rfl
theorem wbelow_val {n : Nat} {d : D} : W.below n (.val d) = true := rfl
theorem wbelow_loc {n j : Nat} : W.below n (.loc j) = decide (j < n) := rfl
def appW (μ0 : Mu) (j : Nat) : List D × Mu → Option (W × Mu)
  | ([d], μ2) => match μ2[j]? with
    | some (.lst xs) => if xs.length < LB then some (.val .non, μ2.set j (.lst (xs ++ [d]))) else none
    | _ => none
  | _ => none
def appA (r : RA) (ρ : Env') : W × Mu → Option (W × Mu)
  | (.loc j, μ1) => (view μ1 (.loc j)).bind fun _ => (dat r ρ μ1).bind (appW μ1 j)
  | _ => none
theorem q_append {a : RE} {r : RA} : mAppend a r ρ μ = (a ρ μ).bind (appA r ρ) := by
  unfold mAppend
  cases a ρ μ with
  | none => rfl
  | some p =>
    obtain ⟨w, μ1⟩ := p
    cases w with
    | val d => rfl
    | loc j =>
      dsimp only [Option.bind, appA]
      cases view μ1 (.loc j) with
      | none => rfl
      | some v =>
        dsimp only
        cases dat r ρ μ1 with
        | none => rfl
        | some q =>
          obtain ⟨ds, μ2⟩ := q
          match ds with
          | [] => rfl
          | [d] => rfl
          | _ :: _ :: _ => rfl
theorem appA_loc {r : RA} {j : Nat} : appA r ρ (.loc j, μ) = (viewM μ[j]?).bind fun _ => (dat r ρ μ).bind (appW μ j) := by
  show (view μ (.loc j)).bind _ = _
  rw [view_loc]
def appM (μ : Mu) (j : Nat) (d : D) : Option MO → Option (W × Mu)
  | some (.lst xs) => if xs.length < LB then some (.val .non, μ.set j (.lst (xs ++ [d]))) else none
  | _ => none
theorem appW_1 {μ0 : Mu} {j : Nat} {d : D} : appW μ0 j ([d], μ) = appM μ j d μ[j]? := by
  show (match μ[j]? with
    | some (.lst xs) => if xs.length < LB then some (W.val .non, μ.set j (.lst (xs ++ [d]))) else none
    | _ => none) = _
  unfold appM
  cases μ[j]? with
  | none => rfl
  | some m => cases m <;> rfl
theorem appM_lst {j : Nat} {d : D} {xs : List D} : appM μ j d (some (.lst xs)) = if xs.length < LB then some (.val .non, μ.set j (.lst (xs ++ [d]))) else none := rfl
def lstM (μ : Mu) : D → Option (W × Mu)
  | .lst xs => some (.loc μ.length, μ ++ [.lst xs])
  | _ => none
theorem q_lstOfM {a : RE} : mLstOfM a ρ μ = (a ρ μ).bind fun p => (view p.2 p.1).bind fun d => (lstF d).bind (lstM p.2) := by
  unfold mLstOfM
  cases a ρ μ with
  | none => rfl
  | some p =>
    obtain ⟨x, μ1⟩ := p
    dsimp only [Option.bind]
    cases view μ1 x with
    | none => rfl
    | some d =>
      dsimp only
      cases lstF d with
      | none => rfl
      | some e => cases e <;> rfl
theorem lstM_lst {xs : List D} : lstM μ (.lst xs) = some (.loc μ.length, μ ++ [.lst xs]) := rfl
def rngW : List D × Mu → Option (List D × Option (Nat × List D) × Mu)
  | ([.int n], μ1) => if rngB n = true then some (rangeD 0 n.toNat, none, μ1) else none
  | _ => none
theorem q_rng1 {r : RA} : kRng1 r ρ μ = (dat r ρ μ).bind rngW := by
  unfold kRng1
  cases dat r ρ μ with
  | none => rfl
  | some p =>
    obtain ⟨ds, μ1⟩ := p
    match ds with
    | [] => rfl
    | [d] => cases d <;> rfl
    | a :: _ :: _ => cases a <;> rfl
theorem rngW_int {n : Int} : rngW ([.int n], μ) = if rngB n = true then some (rangeD 0 n.toNat, none, μ) else none := rfl
theorem rng_ok {k : Int} (h0 : 0 ≤ k) (h1 : k < 1000000) : rngW ([.int k], μ) = some (rangeD 0 k.toNat, none, μ) := by
  rw [rngW_int, if_pos]
  exact Nat.ble_eq_true_of_le (by omega)
mutual
theorem beqD_refl : ∀ a : D, beqD a a = true
  | .non => rfl
  | .bl a => by simp [beqD]
  | .int a => by simp [beqD]
  | .str a => by simp [beqD]
  | .tup a => by rw [beqD]; exact beqL_refl a
  | .lst a => by rw [beqD]; exact beqL_refl a
  | .obj c ns a => by
    rw [beqD, beqL_refl a]
    simp
  | .ty a => by simp [beqD]
  | .cls a => by simp [beqD]
  | .scr a => by simp [beqD]
theorem beqL_refl : ∀ a : List D, beqL a a = true
  | [] => rfl
  | a :: as => by rw [beqL, beqD_refl a, beqL_refl as]; rfl
end
def standM (xs : List D) : Option MO → Bool
  | some (.lst ys) => beqL ys xs
  | some (.frz ys) => beqL ys xs
  | _ => false
theorem standB_none : standB none μ = true := rfl
theorem standB_some {j : Nat} {xs : List D} : standB (some (j, xs)) μ = standM xs μ[j]? := by
  unfold standB standM
  try dsimp only
  all_goals (cases μ[j]? with
  | none => rfl
  | some m => cases m <;> rfl)
theorem standM_lst {xs : List D} : standM xs (some (.lst xs)) = true := beqL_refl xs
theorem standM_frz {xs : List D} : standM xs (some (.frz xs)) = true := beqL_refl xs
/-! ### texts, own dunders, classmethods -/
def joinA (b : RE) (ρ : Env') : W × Mu → Option (W × Mu)
  | (.val (.str y), μ1) => (b ρ μ1).bind fun q => (seqOf q.2 q.1).bind fun xs => (sOf xs).bind fun ps => if (ps.map (·.length)).sum + ps.length * y.length ≤ SB then some (.val (.str (Txt.join y ps)), q.2) else none
  | _ => none
theorem q_join {a b : RE} : mJoin a b ρ μ = (a ρ μ).bind (joinA b ρ) := by
  unfold mJoin
  cases a ρ μ with
  | none => rfl
  | some p =>
    obtain ⟨w, μ1⟩ := p
    cases w with
    | loc j => rfl
    | val d =>
      cases d with
      | str y =>
        dsimp only [Option.bind, joinA]
        cases b ρ μ1 with
        | none => rfl
        | some q =>
          dsimp only
          cases seqOf q.2 q.1 with
          | none => rfl
          | some xs =>
            dsimp only
            cases sOf xs <;> rfl
      | _ => rfl
theorem joinA_str {b : RE} {y : Str} : joinA b ρ (.val (.str y), μ) = (b ρ μ).bind fun q => (seqOf q.2 q.1).bind fun xs => (sOf xs).bind fun ps => if (ps.map (·.length)).sum + ps.length * y.length ≤ SB then some (.val (.str (Txt.join y ps)), q.2) else none := rfl
theorem q_joined {r : RJ} : mJoined r ρ μ = (r Str.empty ρ μ).bind fun p => some (.val (.str p.1), p.2) := by
  unfold mJoined
  cases r Str.empty ρ μ <;> rfl
theorem q_jNil {acc : Str} : jNil acc ρ μ = some (acc, μ) := rfl
def jW (r : RJ) (acc : Str) (ρ : Env') : W × Mu → Option (Str × Mu)
  | (.val (.str y), μ1) => if (acc ++ y).length ≤ SB ∧ sOkB y = true then r (acc ++ y) ρ μ1 else none
  | _ => none
theorem q_jCons {a : RE} {r : RJ} {acc : Str} : jCons a r acc ρ μ = (a ρ μ).bind (jW r acc ρ) := by
  unfold jCons
  cases a ρ μ with
  | none => rfl
  | some p =>
    obtain ⟨w, μ1⟩ := p
    cases w with
    | loc j => rfl
    | val d => cases d <;> rfl
theorem jW_str {r : RJ} {acc y : Str} : jW r acc ρ (.val (.str y), μ) = if (acc ++ y).length ≤ SB ∧ sOkB y = true then r (acc ++ y) ρ μ else none := rfl
theorem q_star {a : RE} {r : RA} : mStar a r ρ μ = (a ρ μ).bind fun p => (seqOf p.2 p.1).bind fun xs => (r ρ p.2).bind fun q => some (xs.map W.val ++ q.1, q.2) := by
  unfold mStar
  cases a ρ μ with
  | none => rfl
  | some p =>
    dsimp only [Option.bind]
    cases seqOf p.2 p.1 with
    | none => rfl
    | some xs =>
      dsimp only
      cases r ρ p.2 <;> rfl
def ownW (ok : D → Bool) : W × Mu → Option (W × Mu)
  | (.val d, μ2) => if ok d = true then some (.val d, μ2) else none
  | _ => none
theorem q_own1 {c : Str} {ok : D → Bool} {f : FX} {a : RE} : mOwn1 c ok f a ρ μ = (a ρ μ).bind fun p => if isIns c p.2 p.1 = true then (callX f [p.1] p.2).bind (ownW ok) else none := by
  unfold mOwn1
  cases a ρ μ with
  | none => rfl
  | some p =>
    dsimp only [Option.bind]
    split
    · cases callX f [p.1] p.2 with
      | none => rfl
      | some q =>
        obtain ⟨w, μ2⟩ := q
        cases w <;> rfl
    · rfl
theorem ownW_val {ok : D → Bool} {d : D} : ownW ok (.val d, μ) = if ok d = true then some (.val d, μ) else none := rfl
theorem okStr_str {s : Str} : okStr (.str s) = true := rfl
theorem okLen_nat {n : Nat} (h : n < 100000) : okLen (.int n) = true := Nat.ble_eq_true_of_le (by omega)
theorem isIns_row {r : RowM} : isIns "Row" μ (.val r.d) = true := by
  show decide (("Row" : Str) = "Row") = true
  simp
theorem isIns_tool {T : ToolM} : isIns "Tool" μ (.val T.d) = true := by
  show decide (("Tool" : Str) = "Tool") = true
  simp
def kgetW (kvs : List (Str × D)) : W × Mu → Option (W × Mu)
  | (.val (.str z), μ1) => some (.val ((kvs.lookup z).getD .non), μ1)
  | _ => none
theorem q_kget {kvs : List (Str × D)} {a : RE} : mKGet kvs a ρ μ = (a ρ μ).bind (kgetW kvs) := by
  unfold mKGet
  cases a ρ μ with
  | none => rfl
  | some p =>
    obtain ⟨w, μ1⟩ := p
    cases w with
    | loc j => rfl
    | val d => cases d <;> rfl
theorem kgetW_str {kvs : List (Str × D)} {z : Str} : kgetW kvs (.val (.str z), μ) = some (.val ((kvs.lookup z).getD .non), μ) := rfl
def indexW (s : Str) (μ : Mu) : D → Option (W × Mu)
  | .lst xs => (sOf xs).bind fun ss => if s ∈ ss then some (.val (.int (ss.idxOf s : Nat)), μ) else none
  | _ => none
theorem q_indexC {a : RE} {s : Str} : mIndex a (mC (.str s)) ρ μ = (a ρ μ).bind fun p => (view p.2 p.1).bind (indexW s p.2) := by
  unfold mIndex
  cases a ρ μ with
  | none => rfl
  | some p =>
    have e : pv1 (mC (.str s)) ρ = some (.str s) := rfl
    dsimp only [Option.bind]
    rw [e]
    dsimp only
    cases view p.2 p.1 with
    | none => rfl
    | some d =>
      cases d with
      | lst xs => dsimp only [indexW]; cases sOf xs <;> rfl
      | _ => rfl
theorem indexW_lst {s : Str} {ss : List Str} : indexW s μ (.lst (ss.map D.str)) = if s ∈ ss then some (.val (.int (ss.idxOf s : Nat)), μ) else none := by
  show (sOf (ss.map D.str)).bind _ = _
  rw [sOf_map]
  rfl
def mkL (c : Str) (m : RE) (ρ : Env') (μ : Mu) : Option (Option W) → Option (W × Mu)
  | some (some (.val (.cls c'))) => if c' = c then m ρ μ else none
  | _ => none
theorem q_makeL {i : Nat} {c : Str} {m : RE} : mMakeL i c m ρ μ = mkL c m ρ μ ρ[i]? := by
  unfold mMakeL mkL
  cases ρ[i]? with
  | none => rfl
  | some o =>
    cases o with
    | none => rfl
    | some w =>
      cases w with
      | loc j => rfl
      | val d => cases d <;> rfl
theorem mkL_cls {c : Str} {m : RE} : mkL c m ρ μ (some (some (.val (.cls c)))) = m ρ μ := by
  show (if c = c then m ρ μ else none) = _
  rw [if_pos rfl]
def cmW (c : Str) (f : FX) (dds : List D) (a : RA) (ρ : Env') : W × Mu → Option (W × Mu)
  | (.val (.cls c'), μ1) => if c' = c then (a ρ μ1).bind fun p => callX f (.val (.cls c) :: (p.1 ++ dds.map W.val)) p.2 else none
  | _ => none
theorem q_cmeth {c : Str} {f : FX} {dds : List D} {o : RE} {a : RA} : mCMeth c f dds o a ρ μ = (o ρ μ).bind (cmW c f dds a ρ) := by
  unfold mCMeth
  cases o ρ μ with
  | none => rfl
  | some p =>
    obtain ⟨w, μ1⟩ := p
    cases w with
    | loc j => rfl
    | val d =>
      cases d with
      | cls c' =>
        dsimp only [Option.bind, cmW]
        split
        · cases a ρ μ1 <;> rfl
        · rfl
      | _ => rfl
theorem cmW_cls {c : Str} {f : FX} {dds : List D} {a : RA} : cmW c f dds a ρ (.val (.cls c), μ) = (a ρ μ).bind fun p => callX f (.val (.cls c) :: (p.1 ++ dds.map W.val)) p.2 := by
  show (if c = c then _ else none) = _
  rw [if_pos rfl]
def star1W (i j : Nat) (ρ : Env') (μ : Mu) : D → Option Out
  | .lst (d :: ds) => some (.nx ((ρ.set i (some (.val d))).set j (some (.val (.lst ds)))) μ)
  | _ => none
theorem q_star1 {i j : Nat} {a : RE} : mStar1 i j a ρ μ = (a ρ μ).bind fun p => (view p.2 p.1).bind (star1W i j ρ p.2) := by
  unfold mStar1
  cases a ρ μ with
  | none => rfl
  | some p =>
    dsimp only [Option.bind]
    cases view p.2 p.1 with
    | none => rfl
    | some d =>
      cases d with
      | lst xs => cases xs <;> rfl
      | _ => rfl
theorem star1W_cons {i j : Nat} {d : D} {ds : List D} : star1W i j ρ μ (.lst (d :: ds)) = some (.nx ((ρ.set i (some (.val d))).set j (some (.val (.lst ds)))) μ) := rfl
def chainE (μ : Mu) : D → Option (W × Mu)
  | .bl l => some (.val (.bl l), μ)
  | _ => none
def chainW (g : D → D → Option D) (c : RE) (ρ : Env') (y : D) (μ : Mu) : D → Option (W × Mu)
  | .bl b => if b = true then (dat1 c ρ μ).bind fun s => (g y s.1).bind (chainE s.2) else some (.val (.bl false), μ)
  | _ => none
theorem q_chain {f g : D → D → Option D} {a b c : RE} : mChain f g a b c ρ μ = (dat1 a ρ μ).bind fun p => (dat1 b ρ p.2).bind fun q => (f p.1 q.1).bind (chainW g c ρ q.1 q.2) := by
  unfold mChain
  cases dat1 a ρ μ with
  | none => rfl
  | some p =>
    dsimp only [Option.bind]
    cases dat1 b ρ p.2 with
    | none => rfl
    | some q =>
      dsimp only
      cases f p.1 q.1 with
      | none => rfl
      | some r =>
        cases r with
        | bl k =>
          cases k with
          | false => rfl
          | true =>
            dsimp only [chainW]
            rw [if_pos rfl]
            cases dat1 c ρ q.2 with
            | none => rfl
            | some s =>
              dsimp only [Option.bind]
              cases g q.1 s.1 with
              | none => rfl
              | some t => cases t <;> rfl
        | _ => rfl
theorem chainW_bl {g : D → D → Option D} {c : RE} {y : D} {b : Bool} : chainW g c ρ y μ (.bl b) = if b = true then (dat1 c ρ μ).bind fun s => (g y s.1).bind (chainE s.2) else some (.val (.bl false), μ) := rfl
theorem chainE_bl {b : Bool} : chainE μ (.bl b) = some (.val (.bl b), μ) := rfl
theorem q_eqOwn {c : Str} {f : FX} {a b : RE} : mEqOwn c f a b ρ μ = (a ρ μ).bind fun p => (b ρ p.2).bind fun q => if isIns c q.2 p.1 = true ∧ isIns c q.2 q.1 = true then callX f [p.1, q.1] q.2 else none := by
  unfold mEqOwn
  cases a ρ μ with
  | none => rfl
  | some p =>
    dsimp only [Option.bind]
    cases b ρ p.2 <;> rfl
theorem fmtF_s {s : Str} : fmtF (.str s) = some (.str s) := rfl
theorem at0 {α : Type} {a : α} {l : List α} : atI (a :: l) 0 = some a := L2.atI_nat (j := 0) rfl
theorem at1 {α : Type} {a b : α} {l : List α} : atI (a :: b :: l) 1 = some b := L2.atI_nat (j := 1) rfl
theorem at2 {α : Type} {a b c : α} {l : List α} : atI (a :: b :: c :: l) 2 = some c := L2.atI_nat (j := 2) rfl
theorem at3 {α : Type} {a b c d : α} {l : List α} : atI (a :: b :: c :: d :: l) 3 = some d := L2.atI_nat (j := 3) rfl
end DX

/-! DXLw: the laws' own defs that many laws share. Printed by gen/shared.py. -/
namespace DX
open PySem PySem.Spec L2 DK
def m_law_deeds_1 : RS :=
  (mSeq (mIfS (mTest (mOp (eqF false) (mVar 6) (mC (.str "learn")))) (mSeq (mAsg (mVar 4) (hName 2))
      (mCont)) mNext)
      (mSeq (mAsg (mIx (mOp splitF (mVar 6) (mC (.str " "))) (mC (.int 1))) (hName 7))
      (mAsg (mOp plusF (mLc (kSeq (mVar 5)) (hName 8) (mTest (mOp (eqF true) (mVar 8) (mVar 7))) (mVar 8) [8]) (mIf (mTest (mOp (eqF false) (mSl (mVar 6) mNoPart (mPart (mC (.int 4)))) (mC (.str "mark")))) (mLst (mCons (mVar 7) mNil)) (mLst mNil))) (hName 5))))
def m_law_deeds : RS :=
  (mSeq (mAsg (mUn lstF (mVar 3)) (hName 5))
      (mSeq (mFor (kSeq (mIf (mTest (mIsN true (mVar 1))) (mIx (mIx (mIx (mVar 0) (mC (.int 1))) (mVar 1)) (mC (.int 2))) (mLst mNil))) (hName 6) m_law_deeds_1)
      (mRet (mTup (mCons (mVar 2) (mCons (mUn tupF (mUn sortF (mLc (kSeq (mVar 5)) (hName 8) mYes (mUn strF (mVar 8)) [8]))) mNil))))))
def f_law_deeds : FX := bodyF true 5 9 m_law_deeds
def m_law_word : RS :=
  (mSeq (mAsg (mOp minusF (mVar 2) (mVar 1)) (hName 3))
      (mSeq (mIfS (mTest (mOp ltF (mVar 3) (mC (.int 2)))) (mRet (mIf (mTest (mOp ltF (mVar 3) (mOp minusF (mC (.int 0)) (mC (.int 1))))) (mC (.str "elder")) (mIf (mTest (mOp ltF (mVar 3) (mC (.int 0)))) (mC (.str "last")) (mIf (mTest (mOp (eqF false) (mVar 3) (mC (.int 1)))) (mC (.str "next")) (mC (.str "same")))))) mNext)
      (mRet (mIf (mTest (mOp leF (mVar 3) (mIx (mVar 0) (mC (.int 0))))) (mC (.str "near")) (mC (.str "far"))))))
def f_law_word : FX := bodyF true 3 4 m_law_word
def m_law_row_done_1 : RS :=
  (mSeq (mAsg (mLc (kSeq (mIx (mVar 4) (mC (.int 1)))) (hName 5) (mTest (mOp (eqF false) (mOp (eqF false) (mSl (mVar 5) mNoPart (mPart (mC (.int 4)))) (mC (.str "not "))) (mOp (inF false) (mIx (mOp splitF (mVar 5) (mC (.str " "))) (mUn negF (mC (.int 1)))) (mVar 2)))) (mVar 5) [5]) (hName 6))
      (mIfS (mAnd (mTest (mOp (eqF false) (mIx (mVar 4) (mC (.int 0))) (mVar 1))) (mTest (mOp (eqF false) (mVar 6) (mLst mNil)))) (mRet (mVar 3)) mNext))
def m_law_row_done : RS :=
  (mSeq (mFor (kEnum (mCons (mIx (mVar 0) (mC (.int 1))) mNil)) (hTup 2 (hCons (hName 3) (hCons (hName 4) hNil))) m_law_row_done_1)
      (mRet (mC .non)))
def f_law_row_done : FX := bodyF true 3 7 m_law_row_done
def m_law_answer : RS :=
  (mSeq (mAsg (mCall f_law_row_done [] (mCons (mVar 0) (mCons (mCall f_law_word [] (mCons (mVar 0) (mCons (mVar 1) (mCons (mVar 3) mNil)))) (mCons (mVar 2) mNil)))) (hName 4))
      (mSeq (mAsg (mCall f_law_deeds [] (mCons (mVar 0) (mCons (mVar 4) (mCons (mVar 1) (mCons (mVar 2) (mCons (mVar 3) mNil)))))) (hTup 2 (hCons (hName 5) (hCons (hName 6) hNil))))
      (mRet (mTup (mCons (mAndV (mIsN true (mVar 4)) (mIx (mIx (mIx (mVar 0) (mC (.int 1))) (mVar 4)) (mC (.int 3)))) (mCons (mVar 5) (mCons (mVar 6) (mCons (mVar 4) mNil))))))))
def f_law_answer : FX := bodyF true 4 7 m_law_answer
def m_law_bent : RS :=
  (mSeq (mPar 3 4 (mCons (mLcM (kSeq (mVar 1)) (hName 2) mYes (mTup (mCons (mIx (mVar 2) (mC (.int 0))) (mCons (mUn lstF (mIx (mVar 2) (mC (.int 1)))) (mCons (mUn lstF (mIx (mVar 2) (mC (.int 2)))) (mCons (mIx (mVar 2) (mC (.int 3))) mNil))))) [2]) (mCons (mCall f_law_draw [] (mCons (mVar 0) (mCons (mUn lenF (mVar 1)) mNil))) mNil)))
      (mSeq (mAsg (mIx (mVar 3) (mVar 4)) (hTup 4 (hCons (hName 5) (hCons (hName 6) (hCons (hName 7) (hCons (hName 8) hNil))))))
      (mSeq (mAsg (mCall f_law_draw [] (mCons (mVar 0) (mCons (mC (.int 7)) mNil))) (hName 9))
      (mSeq (mIfS (mAnd (mTest (mOp (eqF false) (mVar 9) (mC (.int 0)))) (mTest (mOp gtF (mUn lenF (mVar 3)) (mC (.int 1))))) (mRet (mOp plusF (mSl (mVar 3) mNoPart (mPart (mVar 4))) (mSl (mVar 3) (mPart (mOp plusF (mVar 4) (mC (.int 1)))) mNoPart))) mNext)
      (mSeq (mIfS (mAnd (mTest (mOp (eqF false) (mVar 9) (mC (.int 1)))) (mTest (mOp (eqF true) (mVar 5) (mC (.str "house"))))) (mSetI (mTup (mCons (mVar 5) (mCons (mVar 6) (mCons (mVar 7) (mCons (mNotV (mVar 8)) mNil))))) (mVar 3) (mVar 4)) (mIfS (mAnd (mTest (mOp (eqF false) (mVar 9) (mC (.int 2)))) (mTest (mOp ltF (mUn lenF (mVar 6)) (mC (.int 2))))) (mSetI (mTup (mCons (mVar 5) (mCons (mOp plusF (mVar 6) (mLst (mCons (mCall f_law_pick [] (mCons (mVar 0) (mCons (mLst (mCons (mC (.str "marked k")) (mCons (mC (.str "not marked k")) mNil))) mNil))) mNil))) (mCons (mVar 7) (mCons (mVar 8) mNil))))) (mVar 3) (mVar 4)) (mIfS (mAnd (mTest (mOp (eqF false) (mVar 9) (mC (.int 3)))) (mAnd (mTest (mOp (inF false) (mC (.str "learn")) (mVar 7))) (mTest (mOp ltF (mUn lenF (mVar 7)) (mC (.int 3)))))) (mSetI (mTup (mCons (mVar 5) (mCons (mVar 6) (mCons (mOp plusF (mVar 7) (mLst (mCons (mCall f_law_pick [] (mCons (mVar 0) (mCons (mLst (mCons (mC (.str "mark k")) (mCons (mC (.str "clear k")) mNil))) mNil))) mNil))) (mCons (mVar 8) mNil))))) (mVar 3) (mVar 4)) (mIfS (mTest (mOp (eqF false) (mVar 9) (mC (.int 4)))) (mSetI (mTup (mCons (mVar 5) (mCons (mVar 6) (mCons (mLst mNil) (mCons (mVar 8) mNil))))) (mVar 3) (mVar 4)) (mIfS (mAnd (mTest (mOp (eqF false) (mVar 9) (mC (.int 5)))) (mTest (mOp (inF false) (mVar 5) (mTup (mCons (mC (.str "next")) (mCons (mC (.str "near")) (mCons (mC (.str "far")) mNil))))))) (mSetI (mTup (mCons (mVar 5) (mCons (mVar 6) (mCons (mLst (mCons (mC (.str "learn")) mNil)) (mCons (mVar 8) mNil))))) (mVar 3) (mVar 4)) (mIfS (mAnd (mTest (mOp (eqF false) (mVar 9) (mC (.int 6)))) (mTest (mOp ltF (mUn lenF (mVar 3)) (mC (.int 9))))) (mAsg (mAddM (mOp plusF (mSl (mVar 3) mNoPart (mPart (mVar 4))) (mLst (mCons (mTup (mCons (mVar 5) (mCons (mLst (mCons (mC (.str "marked k")) mNil)) (mCons (mLst mNil) (mCons (mOrV (mOp (eqF false) (mVar 5) (mC (.str "house"))) (mNotV (mVar 8))) mNil))))) mNil))) (mSl (mVar 3) (mPart (mVar 4)) mNoPart)) (hName 3)) mNext))))))
      (mRet (mVar 3)))))))
def f_law_bent : FX := bodyF true 2 10 m_law_bent
def m_law_tool_p1 : RS :=
  mAsg (mLstM (mCons (mTup (mCons (mC (.str "same")) (mCons (mLst mNil) (mCons (mLst mNil) (mCons (mC (.bl true)) mNil))))) (mCons (mTup (mCons (mC (.str "next")) (mCons (mLst mNil) (mCons (mLst (mCons (mC (.str "learn")) mNil)) (mCons (mC (.bl true)) mNil))))) (mCons (mTup (mCons (mC (.str "near")) (mCons (mLst mNil) (mCons (mLst (mCons (mC (.str "learn")) mNil)) (mCons (mC (.bl true)) mNil))))) mNil)))) (hName 2)
def m_law_tool_p2 : RS :=
  mDrop (mAppend (mVar 2) (mCons (mTup (mCons (mC (.str "far")) (mCons (mLst mNil) (mCons (mCall f_law_pick [] (mCons (mVar 0) (mCons (mLst (mCons (mLst mNil) (mCons (mLst (mCons (mC (.str "learn")) mNil)) mNil))) mNil))) (mCons (mOp (eqF false) (mCall f_law_draw [] (mCons (mVar 0) (mCons (mC (.int 2)) mNil))) (mC (.int 0))) mNil))))) mNil))
def m_law_tool_p3 : RS :=
  mIfS (mTest (mOp (eqF false) (mCall f_law_draw [] (mCons (mVar 0) (mCons (mC (.int 3)) mNil))) (mC (.int 0)))) (m_law_tool_p2) mNext
def m_law_tool_p4 : RS :=
  mDrop (mAppend (mVar 2) (mCons (mTup (mCons (mCall f_law_pick [] (mCons (mVar 0) (mCons (mLst (mCons (mC (.str "last")) (mCons (mC (.str "elder")) mNil))) mNil))) (mCons (mLst mNil) (mCons (mLst mNil) (mCons (mC (.bl true)) mNil))))) mNil))
def m_law_tool_p5 : RS :=
  mIfS (mTest (mOp (eqF false) (mCall f_law_draw [] (mCons (mVar 0) (mCons (mC (.int 3)) mNil))) (mC (.int 0)))) (m_law_tool_p4) mNext
def m_law_tool_p6 : RS :=
  mDrop (mAppend (mVar 2) (mCons (mTup (mCons (mC (.str "house")) (mCons (mLst mNil) (mCons (mLst (mCons (mC (.str "learn")) mNil)) (mCons (mC (.bl true)) mNil))))) mNil))
def m_law_tool_p7 : RS :=
  mIfS (mTest (mOp (eqF false) (mCall f_law_draw [] (mCons (mVar 0) (mCons (mC (.int 2)) mNil))) (mC (.int 0)))) (m_law_tool_p6) mNext
def m_law_tool_p8 : RS :=
  mAsg (mCall f_law_bent [] (mCons (mVar 0) (mCons (mVar 2) mNil))) (hName 2)
def m_law_tool_1 : RS :=
  (m_law_tool_p8)
def m_law_tool_p9 : RS :=
  mFor (kRng1 (mCons (mCall f_law_draw [] (mCons (mVar 0) (mCons (mC (.int 4)) mNil))) mNil)) (hName 3) m_law_tool_1
def m_law_tool_p10 : RS :=
  mRet (mTup (mCons (mOp plusF (mC (.int 1)) (mCall f_law_draw [] (mCons (mVar 0) (mCons (mVar 1) mNil)))) (mCons (mIf (mTest (mOp (eqF false) (mCall f_law_draw [] (mCons (mVar 0) (mCons (mC (.int 2)) mNil))) (mC (.int 0)))) (mCall f_law_mixed [] (mCons (mVar 0) (mCons (mVar 2) mNil))) (mVar 2)) mNil)))
def m_law_tool : RS :=
  (mSeq (m_law_tool_p1)
      (mSeq (m_law_tool_p3)
      (mSeq (m_law_tool_p5)
      (mSeq (m_law_tool_p7)
      (mSeq (m_law_tool_p9)
      (m_law_tool_p10))))))
def f_law_tool : FX := bodyF true 2 4 m_law_tool
def m_law_made : RS :=
  (mRet (mMake "Tool" f_Tool_init [] (mCons (mIx (mVar 0) (mC (.int 0))) (mCons (mLc (kSeq (mIx (mVar 0) (mC (.int 1)))) (hName 1) mYes (mMake "Row" f_Row_init [] (mCons (mIx (mVar 1) (mC (.int 0))) (mCons (mIx (mVar 1) (mC (.int 1))) (mCons (mIx (mVar 1) (mC (.int 2))) (mCons (mIx (mVar 1) (mC (.int 3))) mNil))))) [1]) mNil))))
def f_law_made : FX := bodyF true 1 2 m_law_made
end DX

/-! DXRo: what the program's defs compute: rows, tools. -/
namespace DX
open PySem PySem.Spec L2 DK
local macro_rules
  | `(tactic| push_cast [$ts,*]) => `(tactic| simp only [q_seq, q_ifS, q_if, q_and, q_or, q_not, q_andV, q_orV, q_notV, q_test, q_op, q_un, q_asg, q_ret, q_drop, q_cons, q_dat, q_dat1, q_tup, q_lst, q_call, q_meth, q_for, q_lc, q_seqI, q_sl, q_var, q_c, q_nil, q_next, q_cont, q_break, q_retN, q_yes, q_noPart, q_partB, q_isN, q_ixB, q_fld, q_enum, q_par, q_body, varW_some, view_val, view_loc, viewM_lst, viewM_frz, isBl_bl, partW_int, name_set, ixW_val, ixF_l, ixF_t, fld_row_word, fld_row_tests, fld_row_deeds, fld_row_opens, fld_tool_window, fld_tool_rows, fld_tool_marks, recv_row, recv_tool, bodyE_rt, bodyE_nx, exit_any, exit_dst, negF_int, plusF_int, minusF_int, ltF_int, leF_int, gtF_int, geF_int, eqF_int, eqF_str, eqF_bl, intF_int, maxF_int, minF_int, lenF_l, lenF_t, lenF_s, tupF_l, tupF_t, lstF_l, lstF_t, strF_s, seqOf_t, seqOf_l, guard_val, guard_loc, isNW_val, isNW_loc, enumW_1, parW_2, tup_set, cons_set, nil_set, frzL_nil, frzL_cons, frz1_val, frz1_loc, frzM_lst, frzM_frz, ofS, ite_bind, Option.bind_some, then_nx, then_rt, then_ct, then_bk, start, List.length_cons, List.length_nil, List.map_cons, List.map_nil, List.replicate, List.cons_append, List.nil_append, List.append_nil, List.getElem?_cons_succ, List.getElem?_cons_zero, List.set_cons_succ, List.set_cons_zero, Nat.sub_self, Nat.reduceSub, Nat.reduceAdd, Nat.reduceEqDiff, if_true, if_false, reduceIte, decide_eq_true_eq, decide_true, decide_false, Bool.false_xor, Bool.true_xor, Nat.zero_add, eq_self, String.reduceEq, Bool.false_eq_true, wipeE, List.foldl_cons, List.foldl_nil, Bool.not_true, Bool.not_false, inF_strsT, inF_strsL, q_fldS, fldSW_0, q_make, isNon_int, isNon_non, isNon_bl, isNon_str, isNon_tup, isNon_lst, q_lcM, q_setI, q_addM, addW_val, seqOf_loc, seqM_lst, seqM_frz, ixW_loc, ixM_lsW, ixM_lst, ixM_frz, setIW_loc, setIM_lst, exit_val, exit_loc, exitV_if, List.take_succ_cons, List.take_zero, List.take_nil, List.all_cons, List.all_nil, Bool.and_true, Bool.true_and, Bool.and_self, Nat.reduceLT, Nat.reduceLeDiff, Nat.zero_le, Nat.lt_add_one, exitM_lst, exitM_frz, below_lst, below_frz, below_dK, below_scr, below_lsW, below_ins, below_dW, wbelow_val, wbelow_loc, q_append, appA_loc, appW_1, appM_lst, q_lstOfM, lstM_lst, q_lstM, q_rng1, standB_none, standB_some, standM_lst, standM_frz, q_join, joinA_str, q_joined, q_jNil, q_jCons, jW_str, q_star, q_own1, ownW_val, okStr_str, isIns_row, isIns_tool, q_kget, kgetW_str, q_indexC, indexW_lst, q_makeL, mkL_cls, q_cmeth, cmW_cls, q_star1, star1W_cons, q_chain, chainW_bl, chainE_bl, q_eqOwn, fmtF_s, and_self, $ts,*])
variable {μ : Mu}
/-- the texts of which the rows of a law are made -/
structure Txt where
  ts : List Str
  ds : List Str
def Txt.okB (X : Txt) : Bool := (X.ts.all fun s => match f_is_test [.val (.str s)] [] with
    | some (.val (.bl true), []) => true
    | _ => false) && X.ds.all fun s => match f_is_deed [.val (.str s)] [] with
    | some (.val (.bl true), []) => true
    | _ => false
theorem okB_of {f : FX} {s : Str} (h : (match f [.val (.str s)] [] with
    | some (.val (.bl true), []) => true
    | _ => false) = true) : callX f [.val (.str s)] μ = some (.val (.bl true), μ) := by
  refine callX_pure rfl ?_
  split at h
  · assumption
  · cases h
theorem Txt.test {X : Txt} (h : X.okB = true) {s : Str} (hs : s ∈ X.ts) : callX f_is_test [.val (.str s)] μ = some (.val (.bl true), μ) := okB_of (List.all_eq_true.mp (Bool.and_eq_true_iff.mp h).1 s hs)
theorem Txt.deed {X : Txt} (h : X.okB = true) {s : Str} (hs : s ∈ X.ds) : callX f_is_deed [.val (.str s)] μ = some (.val (.bl true), μ) := okB_of (List.all_eq_true.mp (Bool.and_eq_true_iff.mp h).2 s hs)
theorem bls_true {α : Type} : ∀ {l : List α}, bls (l.map fun _ => D.bl true) = some (l.map fun _ => true)
  | [] => rfl
  | a :: l => by
    rw [List.map_cons, bls, bls_true (l := l)]
    rfl
theorem allF_true {α : Type} {l : List α} : allF (.lst (l.map fun _ => D.bl true)) = some (.bl true) := by
  unfold allF
  dsimp only
  rw [bls_true]
  simp
theorem e_is_seq {m : D} {xs : List D} (h : seqD m = some xs) : callX f_is_sequence [.val m] μ = some (.val (.bl true), μ) := by
  refine callX_pure rfl ?_
  cases m with
  | tup ys => rfl
  | lst ys => rfl
  | _ => cases h
theorem seqOf_of {m : D} {xs : List D} (h : seqD m = some xs) : seqOf μ (.val m) = some xs := seqOf_D h
theorem lenF_of {m : D} {xs : List D} (h : seqD m = some xs) : lenF m = some (.int xs.length) := by
  cases m with
  | tup ys => cases h; rfl
  | lst ys => cases h; rfl
  | _ => cases h
theorem tupF_of {m : D} {xs : List D} (h : seqD m = some xs) : tupF m = some (.tup xs) := by
  cases m with
  | tup ys => cases h; rfl
  | lst ys => cases h; rfl
  | _ => cases h
theorem e_are_tests {X : Txt} (hX : X.okB = true) {m : D} {ss : List Str} (hm : seqD m = some (ss.map D.str)) (hs : ∀ s ∈ ss, s ∈ X.ts) (hz : ss.length ≤ 1000) : callX f_are_tests [.val m] μ = some (.val (.bl true), μ) := by
  refine callX_pure rfl ?_
  unfold f_are_tests m_are_tests
  push_cast [eq_self]
  rw [e_is_seq hm]
  push_cast [eq_self]
  rw [seqOf_of hm]
  push_cast [eq_self]
  have hz : (ss.map D.str).length ≤ LB := by
    have : LB = 100000 := rfl
    rw [List.length_map]
    omega
  rw [if_pos hz, lc_map1 (h := fun _ => D.bl true) rfl (fun x hx => ⟨_, rfl, by
    push_cast [eq_self]
    rw [Txt.test hX (hs x hx)]
    rfl⟩)]
  push_cast [eq_self]
  rw [allF_true]
  push_cast [eq_self]
theorem e_are_deeds {X : Txt} (hX : X.okB = true) {m : D} {w : Str} {ss : List Str} (hm : seqD m = some (ss.map D.str)) (hs : ∀ s ∈ ss, s ∈ X.ds) (hz : ss.length ≤ 1000) (hw : ss = [] ∨ w ∈ cc_LEARNING ∧ ("learn" : Str) ∈ ss) : callX f_are_deeds [.val m, .val (.str w)] μ = some (.val (.bl true), μ) := by
  refine callX_pure rfl ?_
  unfold f_are_deeds m_are_deeds
  push_cast [eq_self]
  rw [e_is_seq hm]
  push_cast [eq_self]
  rw [seqOf_of hm]
  push_cast [eq_self]
  have hz : (ss.map D.str).length ≤ LB := by
    have : LB = 100000 := rfl
    rw [List.length_map]
    omega
  rw [if_pos hz, lc_map1 (h := fun _ => D.bl true) rfl (fun x hx => ⟨_, rfl, by
    push_cast [eq_self]
    rw [Txt.deed hX (hs x hx)]
    rfl⟩)]
  push_cast [eq_self]
  rw [allF_true]
  push_cast [eq_self]
  rw [lenF_of hm]
  push_cast [eq_self]
  rcases hw with rfl | ⟨h1, h2⟩
  · rfl
  · split
    · rfl
    · push_cast [decide_eq_true h1, inF_seqS hm, decide_eq_true h2]
theorem e_wrong_in {X : Txt} (hX : X.okB = true) {w : Str} {t d : D} {ts ds : List Str} {o : Bool} (hw : w ∈ cc_WORDS) (ht : seqD t = some (ts.map D.str)) (hts : ∀ s ∈ ts, s ∈ X.ts) (hzt : ts.length ≤ 1000) (hd : seqD d = some (ds.map D.str)) (hds : ∀ s ∈ ds, s ∈ X.ds) (hzd : ds.length ≤ 1000) (hl : ds = [] ∨ w ∈ cc_LEARNING ∧ ("learn" : Str) ∈ ds) (ho : o = true ∨ w ≠ "house") : callX f_wrong_in [.val (.str w), .val t, .val d, .val (.bl o)] μ = some (.val .non, μ) := by
  refine callX_pure rfl ?_
  unfold f_wrong_in m_wrong_in
  have h1 : isTF "str" (.str w) = some (.bl true) := rfl
  have h2 : isTF "bool" (.bl o) = some (.bl true) := rfl
  push_cast [h1, h2, e_are_tests hX ht hts hzt, e_are_deeds hX hd hds hzd hl, hw, decide_true]
  cases o with
  | true => rfl
  | false =>
    have : w ≠ "house" := by simpa using ho
    simp [this]
structure RowOk (X : Txt) (r : RowM) : Prop where
  w : r.word ∈ cc_WORDS
  ts : ∀ s ∈ r.tests, s ∈ X.ts
  zt : r.tests.length ≤ 1000
  ds : ∀ s ∈ r.deeds, s ∈ X.ds
  zd : r.deeds.length ≤ 1000
  l : r.deeds = [] ∨ r.word ∈ cc_LEARNING ∧ ("learn" : Str) ∈ r.deeds
  o : r.opens = true ∨ r.word ≠ "house"
theorem e_Row {X : Txt} (hX : X.okB = true) {r : RowM} (h : RowOk X r) {t d : D} (ht : seqD t = some (r.tests.map D.str)) (hd : seqD d = some (r.deeds.map D.str)) : makeX "Row" f_Row_init [.val (.str r.word), .val t, .val d, .val (.bl r.opens)] μ = some (.val r.d, μ) := by
  refine makeX_pure (ds := [.str r.word, t, d, .bl r.opens]) (fs := [("word", .val (.str r.word)), ("tests", .val (.tup (r.tests.map D.str))), ("deeds", .val (.tup (r.deeds.map D.str))), ("opens", .val (.bl r.opens))]) ?_ rfl
  unfold f_Row_init m_Row_init
  push_cast [e_wrong_in hX h.w ht h.ts h.zt hd h.ds h.zd h.l h.o, tupF_of ht, tupF_of hd]
  kernel_rfl
/-! ### what a row does -/
theorem at0_wds {s : Str} : atI ((wds s).map D.str) 0 = some (.str (fst (wds s))) := at_map (at_fst (wds_ne s))
theorem atL_wds {s : Str} : atI ((wds s).map D.str) (-1) = some (.str (lst (wds s))) := at_map (at_lst (wds_ne s))
theorem at1_of {l : List Str} {x : Str} (h : l[1]? = some x) : atI (l.map D.str) 1 = some (.str x) := by
  match l, h with
  | a :: b :: t, h =>
    have : b = x := by simpa using h
    subst this
    exact at_map (atI_nat (k := 1) rfl)
theorem e_Row_fits {r : RowM} {marks : List Str} {m : D} (hm : seqD m = some (marks.map D.str)) : callX f_Row_fits [.val r.d, .val m] μ = some (.val (.bl (fitsM r.tests marks)), μ) := by
  refine callX_pure rfl ?_
  unfold f_Row_fits m_Row_fits
  push_cast [eq_self]
  have step : ∀ x (ρ : Env'), x ∈ r.tests → (∃ a b, ρ = [some (.val r.d), some (.val m), a, b]) → ∃ ρ1, hName 2 (.val (D.str x)) ρ = some ρ1 ∧ (fits1 marks x = true → m_Row_fits_1 ρ1 [] = some (.rt (.val (.bl false)) [])) ∧ (fits1 marks x = false → ∃ ρ2, (∃ a b, ρ2 = [some (.val r.d), some (.val m), a, b]) ∧ (m_Row_fits_1 ρ1 [] = some (.nx ρ2 []) ∨ m_Row_fits_1 ρ1 [] = some (.ct ρ2 []))) := by
    rintro x ρ hx ⟨a, b, rfl⟩
    have key : m_Row_fits_1 [some (.val r.d), some (.val m), some (.val (.str x)), b] [] = if fits1 marks x = true then some (.rt (.val (.bl false)) []) else some (.nx [some (.val r.d), some (.val m), some (.val (.str x)), some (.val (.lst ((wds x).map D.str)))] []) := by
      unfold m_Row_fits_1 fits1
      push_cast [splitF_sp, at0_wds, atL_wds, inF_seqS hm]
    refine ⟨_, rfl, ?_, ?_⟩
    · intro h
      exact key.trans (if_pos h)
    · intro h
      exact ⟨_, ⟨_, _, rfl⟩, .inl (key.trans (if_neg (by rw [h]; exact Bool.false_ne_true)))⟩
  have := loop_find (μ := []) (c := none) rfl (f := D.str) (w := fun _ => .val (.bl false)) step ⟨none, none, rfl⟩
  obtain ⟨h1, h2⟩ := this
  have ef : fitsM r.tests marks = !(r.tests.find? (fits1 marks)).isSome := by
    unfold fitsM
    congr 1
    rw [Bool.eq_iff_iff, List.find?_isSome, List.any_eq_true]
  rw [ef]
  cases e : r.tests.find? (fits1 marks) with
  | some x =>
    push_cast [h1 x e]
    rfl
  | none =>
    obtain ⟨ρ2, _, h3⟩ := h2 e
    push_cast [h3]
    rfl
/-! ### marks behind deeds -/
theorem dc_marks {ρ : Env'} {c : Option (Nat × List D)} (hc : standB c μ = true) (hρ : ρ.length = 6) : ∀ {ms ks : List Str}, dcR (hName 2) mYes (mVar 2) (mC (.bl true)) c ρ (ms.map D.str) μ (kvM ks) = some (kvM (ms.foldl addK ks), μ)
  | [], ks => rfl
  | m :: ms, ks => by
    have h1 : dat1 (mVar 2) (ρ.set 2 (some (.val (.str m)))) μ = some (.str m, μ) := by
      rw [q_dat1, q_var, List.getElem?_set_self (by omega)]
      rfl
    rw [List.map_cons, dcR]
    dsimp only [hName, mYes]
    rw [h1]
    dsimp only [keyOf]
    have h2 : dat1 (mC (.bl true)) (ρ.set 2 (some (.val (.str m)))) μ = some (.bl true, μ) := rfl
    rw [h2]
    dsimp only
    rw [if_pos hc, kvM_put, dc_marks hc hρ, List.foldl_cons]
def deedOk (s : Str) : Bool := (decide (fst (wds s) ≠ "mark") && decide (fst (wds s) ≠ "clear")) || (match (wds s)[1]? with
  | some x => sOkB x
  | none => false)
theorem e_deed {a b c m : Option W} {k : Str} {ks : List Str} (hk : deedOk k = true) (hz : ks.length < 1000) : ∃ e, m_Row_marks_behind_1 [a, b, c, some (.loc 0), some (.val (.str k)), m] [.dK (kvM ks)] = some (.nx [a, b, c, some (.loc 0), some (.val (.str k)), e] [.dK (kvM (deedM ks k))]) := by
  have hl : (kvM ks).length < LB := by
    have : LB = 100000 := rfl
    unfold kvM
    rw [List.length_map]
    omega
  refine ⟨some (.val (.lst ((wds k).map D.str))), ?_⟩
  unfold m_Row_marks_behind_1
  push_cast [splitF_sp, at0_wds]
  unfold deedM
  unfold deedOk at hk
  by_cases h1 : fst (wds k) = "mark"
  · rw [if_pos h1, if_pos h1]
    rw [h1] at hk
    have hk2 : (match (wds k)[1]? with
      | some x => sOkB x
      | none => false) = true := by simpa using hk
    cases e : (wds k)[1]? with
    | none => rw [e] at hk2; cases hk2
    | some x =>
      have eg : (wds k).getD 1 "" = x := by rw [List.getD_eq_getElem?_getD, e]; rfl
      unfold mDPut
      push_cast [splitF_sp, at1_of e]
      show (if (kvM ks).length < LB then some (Out.nx _ [MO.dK (putD (kvM ks) (.inr x) (.bl true))]) else none) = _
      rw [if_pos hl, kvM_put, eg]
  · rw [if_neg h1, if_neg h1]
    by_cases h2 : fst (wds k) = "clear"
    · rw [if_pos h2, if_pos h2]
      rw [h2] at hk
      have hk2 : (match (wds k)[1]? with
        | some x => sOkB x
        | none => false) = true := by simpa using hk
      cases e : (wds k)[1]? with
      | none => rw [e] at hk2; cases hk2
      | some x =>
        have eg : (wds k).getD 1 "" = x := by rw [List.getD_eq_getElem?_getD, e]; rfl
        have hp : pv1 (mIx (mVar 5) (mC (.int 1))) [a, b, c, some (.loc 0), some (.val (.str k)), some (.val (.lst ((wds k).map D.str)))] = some (.str x) := by
          unfold pv1 valOnly
          push_cast [at1_of e]
        unfold mDPop2
        push_cast [hp]
        show some (Out.nx _ [MO.dK (dropD (kvM ks) (.inr x))]) = _
        rw [kvM_drop, eg]
    · rw [if_neg h2, if_neg h2]
theorem e_deeds {a b c : Option W} : ∀ {ds ks : List Str} {d4 d5 : Option W}, (∀ s ∈ ds, deedOk s = true) → ks.length + ds.length < 1000 → ∃ x y, loopR (hName 4) m_Row_marks_behind_1 none (ds.map D.str) [a, b, c, some (.loc 0), d4, d5] [.dK (kvM ks)] = some (.nx [a, b, c, some (.loc 0), x, y] [.dK (kvM (ds.foldl deedM ks))])
  | [], ks, d4, d5, _, _ => ⟨d4, d5, rfl⟩
  | s :: ds, ks, d4, d5, ho, hz => by
    rw [List.length_cons] at hz
    obtain ⟨e, he⟩ := e_deed (a := a) (b := b) (c := c) (m := d5) (k := s) (ks := ks) (ho s (by simp)) (by omega)
    have hl := deedM_len (ks := ks) (s := s)
    obtain ⟨x, y, hxy⟩ := e_deeds (ds := ds) (ks := deedM ks s) (d4 := some (.val (.str s))) (d5 := e) (fun t ht => ho t (List.mem_cons_of_mem _ ht)) (by omega)
    refine ⟨x, y, ?_⟩
    rw [List.map_cons, loop_cons]
    simp only [name_set, Option.bind_some, List.set_cons_succ, List.set_cons_zero]
    rw [he]
    simp only [Option.bind_some, standB, if_true]
    exact hxy
theorem addK_all {p : Str → Bool} : ∀ {ms ks : List Str}, (∀ s ∈ ms, p s = true) → (∀ s ∈ ks, p s = true) → ∀ s ∈ ms.foldl addK ks, p s = true
  | [], ks, _, h => h
  | m :: ms, ks, h1, h2 => by
    rw [List.foldl_cons]
    refine addK_all (ms := ms) (ks := addK ks m) (fun s hs => h1 s (List.mem_cons_of_mem _ hs)) (fun s hs => ?_)
    rcases addK_mem hs with h | h
    · exact h2 s h
    · subst h; exact h1 s (by simp)
theorem deedM_all {ds : List Str} : ∀ {ks : List Str}, (∀ s ∈ ds, deedOk s = true) → (∀ s ∈ ks, sOkB s = true) → ∀ s ∈ ds.foldl deedM ks, sOkB s = true := by
  induction ds with
  | nil => exact fun _ h => h
  | cons d ds ih =>
    intro ks h1 h2
    rw [List.foldl_cons]
    refine ih (fun s hs => h1 s (List.mem_cons_of_mem _ hs)) fun s hs => ?_
    have hd := h1 d (by simp)
    unfold deedM at hs
    split at hs
    · rename_i q
      rcases addK_mem hs with h | h
      · exact h2 s h
      · subst h
        unfold deedOk at hd
        rw [q] at hd
        simp at hd
        rw [List.getD_eq_getElem?_getD]
        revert hd
        cases (wds d)[1]? with
        | none => intro h; cases h
        | some x => exact fun h => h
    · split at hs
      · exact h2 s (List.mem_filter.mp hs).1
      · exact h2 s hs
theorem addK_lenF : ∀ {ms ks : List Str}, (ms.foldl addK ks).length ≤ ks.length + ms.length
  | [], ks => by simp
  | m :: ms, ks => by
    have := addK_lenF (ms := ms) (ks := addK ks m)
    have h := addK_len (ks := ks) (s := m)
    rw [List.foldl_cons, List.length_cons]
    omega
theorem deedM_lenF : ∀ {ms ks : List Str}, (ms.foldl deedM ks).length ≤ ks.length + ms.length
  | [], ks => by simp
  | m :: ms, ks => by
    have := deedM_lenF (ms := ms) (ks := deedM ks m)
    have h := deedM_len (ks := ks) (s := m)
    rw [List.foldl_cons, List.length_cons]
    omega
theorem sortF_map {l : List Str} (h : l.length < 64) : sortF (.lst (l.map D.str)) = some (.lst ((srt l).map D.str)) := by
  unfold sortF
  dsimp only
  rw [sOf_map]
  dsimp only
  rw [if_pos h]
theorem e_marks_behind {r : RowM} {marks : List Str} {m : D} (hm : seqD m = some (marks.map D.str)) (ho : ∀ s ∈ r.deeds, deedOk s = true) (hk : ∀ s ∈ marks, sOkB s = true) (hz : marks.length + r.deeds.length < 64) : callX f_Row_marks_behind [.val r.d, .val m] μ = some (.val (.tup ((behindM r.deeds marks).map D.str)), μ) := by
  refine callX_pure rfl ?_
  unfold f_Row_marks_behind m_Row_marks_behind
  have hlb : LB = 100000 := rfl
  have h1 : mDc (kSeq (mVar 1)) (hName 2) mYes (mVar 2) (mC (.bl true)) [2] [some (.val r.d), some (.val m), none, none, none, none] [] = some (.loc 0, [.dK (kvM (marks.foldl addK []))]) := by
    unfold mDc
    push_cast [seqOf_of hm]
    rw [if_pos (by rw [List.length_map]; omega)]
    have := dc_marks (μ := []) (c := none) (ρ := [some (.val r.d), some (.val m), none, none, none, none]) rfl rfl (ms := marks) (ks := [])
    have e : kvM [] = [] := rfl
    rw [e] at this
    rw [this]
    rfl
  have l1 := addK_lenF (ms := marks) (ks := [])
  rw [List.length_nil] at l1
  obtain ⟨x, y, h2⟩ := e_deeds (a := some (.val r.d)) (b := some (.val m)) (c := none) (ds := r.deeds) (ks := marks.foldl addK []) (d4 := none) (d5 := none) ho (by omega)
  have l2 := deedM_lenF (ms := r.deeds) (ks := marks.foldl addK [])
  have hall := deedM_all ho (addK_all (ks := []) hk (by simp))
  push_cast [h1, h2]
  unfold mLcKeys
  push_cast [eq_self]
  have hk1 : ((kvM (r.deeds.foldl deedM (marks.foldl addK []))).all fun kv => match kv.1 with
    | .inl _ => true
    | .inr s => sOkB s) = true := by
    unfold kvM
    rw [List.all_map, List.all_eq_true]
    exact fun s hs => hall s hs
  have hk2 : (kvM (r.deeds.foldl deedM (marks.foldl addK []))).map (fun kv => keyD kv.1) = (r.deeds.foldl deedM (marks.foldl addK [])).map D.str := by
    unfold kvM
    rw [List.map_map]
    rfl
  rw [if_pos ⟨hk1, by unfold kvM; rw [List.length_map]; omega⟩, hk2, lcP_map1 (h := D.str) (fun s hs => ⟨_, rfl, by
    unfold pv1 valOnly
    push_cast [eq_self]⟩)]
  push_cast [sortF_map (l := r.deeds.foldl deedM (marks.foldl addK [])) (by omega)]
  rfl
/-! ### tools -/
theorem frzV : ∀ {ds : List D}, frzL μ (ds.map W.val) = some (ds, μ)
  | [] => rfl
  | d :: ds => by
    rw [List.map_cons, frzL_cons, frz1_val]
    simp only [Option.bind_some]
    rw [frzV]
    rfl
theorem hasSp_in {s : Str} {n : Bool} : inF n (.str " ") (.str s) = some (.bl (n ^^ hasSp s)) := rfl
theorem e_names_in {x : D} {rs : List RowM} (hx : seqD x = some (rs.map RowM.d)) (hz : (textsM rs).length < 64) (hr : ∀ r ∈ rs, r.tests.length + r.deeds.length < 64) : callX f_names_in [.val x] μ = some (.val (.tup ((namesM rs).map D.str)), μ) := by
  refine callX_pure rfl ?_
  have hlb : LB = 100000 := rfl
  unfold f_names_in m_names_in
  have h2 : ∀ (l : List RowM), (∀ r ∈ l, r.tests.length + r.deeds.length < 64) → lc2P (hName 1) mYes (kSeq (mTup (mStar (mFld "Row" "tests" (mVar 1)) (mStar (mFld "Row" "deeds" (mVar 1)) mNil)))) (hName 2) (mTest (mOp (inF false) (mC (.str " ")) (mVar 2))) (mVar 2) [2] [some (.val x), none, none, none] (l.map RowM.d) = some ((textsM l).map D.str) := by
    intro l hl
    induction l with
    | nil => rfl
    | cons r l ih =>
      have ih2 := ih fun r hr => hl r (List.mem_cons_of_mem _ hr)
      have hb := hl r (by simp)
      rw [List.map_cons, lc2P]
      have e1 : pb1 mYes [some (.val x), some (.val r.d), none, none] = some true := rfl
      have e2 : kSeq (mTup (mStar (mFld "Row" "tests" (mVar 1)) (mStar (mFld "Row" "deeds" (mVar 1)) mNil))) (valOnly [some (.val x), some (.val r.d), none, none]) [] = some ((r.tests ++ r.deeds).map D.str, none, []) := by
        unfold valOnly mStar
        push_cast [eq_self]
        rw [← List.map_append, frzV, ← List.map_append]
        push_cast [eq_self]
        rw [if_pos (by rw [List.length_map, List.length_append]; omega)]
      have e3 : lcP (hName 2) (mTest (mOp (inF false) (mC (.str " ")) (mVar 2))) (mVar 2) (wipeE [some (.val x), some (.val r.d), none, none] [2]) ((r.tests ++ r.deeds).map D.str) = some (((r.tests ++ r.deeds).filter hasSp).map D.str) := lcP_map (fun s hs => ⟨_, rfl, by
          unfold pb1 valOnly
          push_cast [hasSp_in], fun _ => by
          unfold pv1 valOnly
          push_cast [eq_self]⟩)
      simp only [name_set, List.set_cons_succ, List.set_cons_zero]
      rw [e1]
      dsimp only
      rw [e2]
      dsimp only
      rw [e3]
      dsimp only
      rw [ih2]
      dsimp only
      unfold textsM
      rw [List.flatMap_cons, List.map_append]
  have e4 : kSeq (mVar 0) (valOnly [some (.val x), none, none, none]) [] = some (rs.map RowM.d, none, []) := by
    unfold valOnly
    push_cast [seqOf_of hx]
  have e5 : mLc2 (kSeq (mVar 0)) (hName 1) mYes (kSeq (mTup (mStar (mFld "Row" "tests" (mVar 1)) (mStar (mFld "Row" "deeds" (mVar 1)) mNil)))) (hName 2) (mTest (mOp (inF false) (mC (.str " ")) (mVar 2))) (mVar 2) [1, 2] [2] [some (.val x), none, none, none] [] = some (.val (.lst ((textsM rs).map D.str)), []) := by
    unfold mLc2
    rw [e4]
    dsimp only
    have e6 : wipeE [some (W.val x), none, none, none] [1, 2] = [some (W.val x), none, none, none] := rfl
    rw [e6, h2 rs hr]
    dsimp only
    rw [if_pos (by rw [List.length_map]; omega)]
  have e7 : mSetSort (kSeq (mVar 3)) (hName 2) mYes (mIx (mOp splitF (mVar 2) (mC (.str " "))) (mUn negF (mC (.int 1)))) [2] [some (.val x), none, none, some (.val (.lst ((textsM rs).map D.str)))] [] = some (.val (.lst ((namesM rs).map D.str)), []) := by
    unfold mSetSort
    have e8 : kSeq (mVar 3) (valOnly [some (.val x), none, none, some (.val (.lst ((textsM rs).map D.str)))]) [] = some ((textsM rs).map D.str, none, []) := by
      unfold valOnly
      push_cast [eq_self]
    rw [e8]
    dsimp only
    rw [lcP_map1 (h := fun s => D.str (lst (wds s))) (fun s hs => ⟨_, rfl, by
      unfold pv1 valOnly
      push_cast [splitF_sp, atL_wds]⟩)]
    dsimp only
    have e9 : (textsM rs).map (fun s => D.str (lst (wds s))) = ((textsM rs).map fun s => lst (wds s)).map D.str := by
      rw [List.map_map]
      rfl
    rw [e9, sOf_map]
    dsimp only
    rw [if_pos (by rw [List.length_map]; exact hz)]
    rfl
  push_cast [e5, e7]
theorem isCF_row {r : RowM} : isCF "Row" ["Row"] r.d = some (.bl true) := by
  show (if ("Row" : Str) ∈ (["Row"] : List Str) then some (D.bl (decide (("Row" : Str) = "Row"))) else none) = _
  simp
structure ToolOk (X : Txt) (T : ToolM) : Prop where
  win : 1 ≤ T.window
  txt : (textsM T.rows).length < 64
  len : T.rows.length ≤ 1000
  row : ∀ r ∈ T.rows, r.tests.length + r.deeds.length < 32
  ok : ∀ r ∈ T.rows, RowOk X r
theorem e_Tool {X : Txt} {T : ToolM} (h : ToolOk X T) {x : D} (hx : seqD x = some (T.rows.map RowM.d)) : makeX "Tool" f_Tool_init [.val (.int T.window), .val x] μ = some (.val T.d, μ) := by
  have hlb : LB = 100000 := rfl
  refine makeX_pure (ds := [.int T.window, x]) (fs := [("window", .val (.int T.window)), ("rows", .val (.tup (T.rows.map RowM.d))), ("marks", .val (.tup ((namesM T.rows).map D.str)))]) ?_ rfl
  unfold f_Tool_init m_Tool_init
  have h1 : ∀ {μ : Mu}, callX f_is_integer [.val (.int T.window)] μ = some (.val (.bl true), μ) := fun {μ} => callX_pure rfl rfl
  have h2 : ¬ T.window < 1 := by have := h.win; omega
  have h3 : (T.rows.map RowM.d).length ≤ LB := by rw [List.length_map]; have := h.len; omega
  push_cast [h1, h2, e_is_seq hx, seqOf_of hx, h3]
  rw [lc_map1 (h := fun _ => D.bl true) rfl (fun r hr => ⟨_, rfl, by
    push_cast [isCF_row]⟩)]
  have hf : fldW "Tool" "rows" [MO.ins "Tool" (putW "rows" (W.val (D.tup (T.rows.map RowM.d))) (putW "window" (W.val (D.int T.window)) []))] (.loc 0) = some (.val (.tup (T.rows.map RowM.d)), [MO.ins "Tool" (putW "rows" (W.val (D.tup (T.rows.map RowM.d))) (putW "window" (W.val (D.int T.window)) []))]) := by kernel_rfl
  push_cast [allF_true, tupF_of hx, hf, e_names_in (x := .tup (T.rows.map RowM.d)) rfl h.txt (fun r hr => Nat.lt_of_lt_of_le (h.row r hr) (by decide))]
  kernel_rfl
theorem e_word_of {T : ToolM} {n c : Int} : callX f_Tool_word_of [.val T.d, .val (.int n), .val (.int c)] μ = some (.val (.str (wordM T.window (c - n))), μ) := by
  refine callX_pure rfl ?_
  unfold f_Tool_word_of m_Tool_word_of wordM
  push_cast [eq_self]
  split
  · split <;> rfl
  · split
    · split <;> rfl
    · split <;> rfl
theorem e_row_for {T : ToolM} {w : Str} {m : D} {marks : List Str} (hm : seqD m = some (marks.map D.str)) : callX f_Tool_row_for [.val T.d, .val (.str w), .val m] μ = some (.val (atD (rowForM T.rows w marks)), μ) := by
  refine callX_pure rfl ?_
  unfold f_Tool_row_for m_Tool_row_for
  push_cast [eq_self]
  rw [enumR_d]
  have hc : (rowNs.contains ("fits" : Str)) = false := by kernel_rfl
  have step : ∀ (x : Nat × RowM) (ρ : Env'), x ∈ enumR 0 T.rows → (∃ a b, ρ = [some (.val T.d), some (.val (.str w)), some (.val m), a, b]) → ∃ ρ1, hTup 2 (hCons (hName 3) (hCons (hName 4) hNil)) (.val (D.tup [.int (x.1 : Nat), x.2.d])) ρ = some ρ1 ∧ (fitP w marks x = true → m_Tool_row_for_1 ρ1 [] = some (.rt (.val (.int (x.1 : Nat))) [])) ∧ (fitP w marks x = false → ∃ ρ2, (∃ a b, ρ2 = [some (.val T.d), some (.val (.str w)), some (.val m), a, b]) ∧ (m_Tool_row_for_1 ρ1 [] = some (.nx ρ2 []) ∨ m_Tool_row_for_1 ρ1 [] = some (.ct ρ2 []))) := by
    rintro x ρ hx ⟨a, b, rfl⟩
    have key : m_Tool_row_for_1 [some (.val T.d), some (.val (.str w)), some (.val m), some (.val (.int (x.1 : Nat))), some (.val x.2.d)] [] = if fitP w marks x = true then some (.rt (.val (.int (x.1 : Nat))) []) else some (.nx [some (.val T.d), some (.val (.str w)), some (.val m), some (.val (.int (x.1 : Nat))), some (.val x.2.d)] []) := by
      unfold m_Tool_row_for_1 fitP
      push_cast [e_Row_fits hm, hc]
      by_cases h1 : x.2.word = w <;> cases h2 : fitsM x.2.tests marks <;> simp [h1]
    refine ⟨_, rfl, ?_, ?_⟩
    · intro h
      exact key.trans (if_pos h)
    · intro h
      exact ⟨_, ⟨_, _, rfl⟩, .inl (key.trans (if_neg (by rw [h]; exact Bool.false_ne_true)))⟩
  obtain ⟨h1, h2⟩ := loop_find (μ := []) (c := none) rfl (f := fun p : Nat × RowM => D.tup [.int (p.1 : Nat), p.2.d]) (w := fun x => .val (.int (x.1 : Nat))) step ⟨none, none, rfl⟩
  unfold rowForM
  cases e : (enumR 0 T.rows).find? (fitP w marks) with
  | some x =>
    push_cast [h1 x e]
    rfl
  | none =>
    obtain ⟨ρ2, _, h3⟩ := h2 e
    push_cast [h3]
    rfl
theorem e_strs {ρ : Env'} {i : Nat} {marks : List Str} (hi : i < ρ.length) : lcR (hName i) mYes (mUn strF (mVar i)) none ρ (marks.map D.str) [] = some (marks.map D.str, []) := lc_map1 (h := D.str) rfl (fun s hs => ⟨_, rfl, by
  push_cast [eq_self]
  rw [List.getElem?_set_self hi]
  push_cast [eq_self]⟩)
structure TxtOk (X : Txt) : Prop where
  ok : X.okB = true
  de : ∀ s ∈ X.ds, deedOk s = true
theorem e_answer {X : Txt} (hX : TxtOk X) {T : ToolM} (hT : ToolOk X T) {n c : Int} {m : D} {marks : List Str} (hm : seqD m = some (marks.map D.str)) (hk : ∀ s ∈ marks, sOkB s = true) (hz : marks.length < 32) : callX f_Tool_answer [.val T.d, .val (.int n), .val m, .val (.int c)] μ = some (.val (answerM T n marks c), μ) := by
  refine callX_pure rfl ?_
  have hlb : LB = 100000 := rfl
  unfold f_Tool_answer m_Tool_answer
  have hl : (marks.map D.str).length ≤ LB := by rw [List.length_map]; omega
  have c1 : (toolNs.contains ("row_for" : Str)) = false := by kernel_rfl
  have c2 : (toolNs.contains ("word_of" : Str)) = false := by kernel_rfl
  have c3 : (rowNs.contains ("marks_behind" : Str)) = false := by kernel_rfl
  push_cast [seqOf_of hm, hl, c1, c2]
  rw [e_strs (by simp)]
  push_cast [sortF_map (l := marks) (by omega), e_word_of, c1, c2]
  rw [e_row_for (marks := srt marks) rfl]
  push_cast [eq_self]
  unfold answerM
  cases e : rowForM T.rows (wordM T.window (c - n)) (srt marks) with
  | none => rfl
  | some p =>
    have hp := enumR_at (List.mem_of_find?_eq_some e)
    have hmem : p.2 ∈ T.rows := List.mem_of_getElem? hp.2
    have hat : atI (T.rows.map RowM.d) ((p.1 : Nat) : Int) = some p.2.d := at_map (L2.atI_nat (by simpa using hp.2))
    have hsm : ∀ s ∈ srt marks, sOkB s = true := fun s hs => hk s ((srt_perm marks).mem_iff.mp hs)
    have hsl : (srt marks).length = marks.length := (srt_perm marks).length_eq
    have hb := fun μ => e_marks_behind (μ := μ) (r := p.2) (m := .tup ((srt marks).map D.str)) rfl (fun s hs => hX.de s ((hT.ok _ hmem).ds s hs)) hsm (by have := hT.row _ hmem; omega)
    have hn : DK.isNon (atD (some p)) = false := rfl
    have h4 : (4 ≤ LB) = True := eq_true (by omega)
    push_cast [atD, hat, hb, c3, h4, isNon_int]
    split <;> rfl
end DX

namespace DX
open PySem PySem.Spec L2 DK
local macro_rules
  | `(tactic| push_cast [$ts,*]) => `(tactic| simp only [q_seq, q_ifS, q_if, q_and, q_or, q_not, q_andV, q_orV, q_notV, q_test, q_op, q_un, q_asg, q_ret, q_drop, q_cons, q_dat, q_dat1, q_tup, q_lst, q_call, q_meth, q_for, q_lc, q_seqI, q_sl, q_var, q_c, q_nil, q_next, q_cont, q_break, q_retN, q_yes, q_noPart, q_partB, q_isN, q_ixB, q_fld, q_enum, q_par, q_body, varW_some, view_val, view_loc, viewM_lst, viewM_frz, isBl_bl, partW_int, name_set, ixW_val, ixF_l, ixF_t, fld_row_word, fld_row_tests, fld_row_deeds, fld_row_opens, fld_tool_window, fld_tool_rows, fld_tool_marks, recv_row, recv_tool, bodyE_rt, bodyE_nx, exit_any, exit_dst, negF_int, plusF_int, minusF_int, ltF_int, leF_int, gtF_int, geF_int, eqF_int, eqF_str, eqF_bl, intF_int, maxF_int, minF_int, lenF_l, lenF_t, lenF_s, tupF_l, tupF_t, lstF_l, lstF_t, strF_s, seqOf_t, seqOf_l, guard_val, guard_loc, isNW_val, isNW_loc, enumW_1, parW_2, tup_set, cons_set, nil_set, frzL_nil, frzL_cons, frz1_val, frz1_loc, frzM_lst, frzM_frz, ofS, ite_bind, Option.bind_some, then_nx, then_rt, then_ct, then_bk, start, List.length_cons, List.length_nil, List.map_cons, List.map_nil, List.replicate, List.cons_append, List.nil_append, List.append_nil, List.getElem?_cons_succ, List.getElem?_cons_zero, List.set_cons_succ, List.set_cons_zero, Nat.sub_self, Nat.reduceSub, Nat.reduceAdd, Nat.reduceEqDiff, if_true, if_false, reduceIte, decide_eq_true_eq, decide_true, decide_false, Bool.false_xor, Bool.true_xor, Nat.zero_add, eq_self, String.reduceEq, Bool.false_eq_true, wipeE, List.foldl_cons, List.foldl_nil, Bool.not_true, Bool.not_false, inF_strsT, inF_strsL, q_fldS, fldSW_0, q_make, isNon_int, isNon_non, isNon_bl, isNon_str, isNon_tup, isNon_lst, q_lcM, q_setI, q_addM, addW_val, seqOf_loc, seqM_lst, seqM_frz, ixW_loc, ixM_lsW, ixM_lst, ixM_frz, setIW_loc, setIM_lst, exit_val, exit_loc, exitV_if, List.take_succ_cons, List.take_zero, List.take_nil, List.all_cons, List.all_nil, Bool.and_true, Bool.true_and, Bool.and_self, Nat.reduceLT, Nat.reduceLeDiff, Nat.zero_le, Nat.lt_add_one, exitM_lst, exitM_frz, below_lst, below_frz, below_dK, below_scr, below_lsW, below_ins, below_dW, wbelow_val, wbelow_loc, q_append, appA_loc, appW_1, appM_lst, q_lstOfM, lstM_lst, q_lstM, q_rng1, standB_none, standB_some, standM_lst, standM_frz, q_join, joinA_str, q_joined, q_jNil, q_jCons, jW_str, q_star, q_own1, ownW_val, okStr_str, isIns_row, isIns_tool, q_kget, kgetW_str, q_indexC, indexW_lst, q_makeL, mkL_cls, q_cmeth, cmW_cls, q_star1, star1W_cons, q_chain, chainW_bl, chainE_bl, q_eqOwn, fmtF_s, and_self, $ts,*])
variable {μ : Mu}
def rowT (r : RowM) : D := .tup [.str r.word, .lst (r.tests.map D.str), .lst (r.deeds.map D.str), .bl r.opens]
def toolT (T : ToolM) : D := .tup [.int T.window, .lst (T.rows.map rowT)]
theorem ix_tool {T : ToolM} {i : Int} : ixF (toolT T) (.int i) = atI [.int T.window, .lst (T.rows.map rowT)] i := rfl
theorem ix_row {r : RowM} {i : Int} : ixF (rowT r) (.int i) = atI [.str r.word, .lst (r.tests.map D.str), .lst (r.deeds.map D.str), .bl r.opens] i := rfl
theorem e_lword {T : ToolM} {n c : Int} : callX f_law_word [.val (toolT T), .val (.int n), .val (.int c)] μ = some (.val (.str (wordM T.window (c - n))), μ) := by
  refine callX_pure rfl ?_
  unfold f_law_word m_law_word wordM
  push_cast [ix_tool, at0]
  repeat' split
  all_goals first | rfl | omega
theorem eqF_strsL {neg : Bool} {a b : List Str} : eqF neg (.lst (a.map D.str)) (.lst (b.map D.str)) = some (.bl (neg ^^ decide (a = b))) := by
  have e : eqP (.lst (a.map D.str)) (.lst (b.map D.str)) = decide (a = b) := by
    show PyData.eqvAll (toPyL (a.map D.str)) (toPyL (b.map D.str)) = _
    induction a generalizing b with
    | nil => cases b <;> simp [toPyL, toPy, PyData.eqvAll]
    | cons x a ih =>
      cases b with
      | nil => simp [toPyL, toPy, PyData.eqvAll]
      | cons y b =>
        simp only [List.map_cons, toPyL, toPy, PyData.eqvAll, PyData.eqv, ih]
        by_cases h : x = y <;> simp [h]
  unfold eqF
  dsimp only
  rw [if_pos ⟨pyOkL_strs, pyOkL_strs, depth_strs, depth_strs⟩, e]
theorem eqF_nilS {neg : Bool} {a : List Str} : eqF neg (.lst (a.map D.str)) (.lst []) = some (.bl (neg ^^ decide (a = []))) := eqF_strsL (b := [])
def testOk (t : Str) : Bool := decide (decide (cutS t none (some 4) = "not ") = decide (fst (wds t) = "not"))
theorem slF_s {lo hi : Option Int} {s : Str} : slF lo hi (.str s) = some (.str (cutS s lo hi)) := rfl
def enumT : Nat → List RowM → List (Nat × RowM) := enumR
theorem enumR_t : ∀ (n : Nat) (rs : List RowM), enumD n (rs.map rowT) = (enumR n rs).map fun p => D.tup [.int (p.1 : Nat), rowT p.2]
  | _, [] => rfl
  | n, x :: xs => by rw [List.map_cons, enumD, enumR, List.map_cons, enumR_t]
theorem filter_fits {marks : List Str} {ts : List Str} (h : ∀ t ∈ ts, testOk t = true) : decide (ts.filter (fun t => decide (decide (cutS t none (some 4) = "not ") = decide (lst (wds t) ∈ marks))) = []) = fitsM ts marks := by
  have e : ts.filter (fun t => decide (decide (cutS t none (some 4) = "not ") = decide (lst (wds t) ∈ marks))) = ts.filter (fits1 marks) := by
    refine List.filter_congr fun t ht => ?_
    have := of_decide_eq_true (h t ht)
    unfold fits1
    rw [this]
    rw [decide_eq_decide]
    exact eq_comm
  rw [e]
  unfold fitsM
  cases q : ts.any (fits1 marks) with
  | true =>
    obtain ⟨x, h1, h2⟩ := List.any_eq_true.mp q
    refine decide_eq_false fun z => ?_
    have := List.mem_filter.mpr ⟨h1, h2⟩
    rw [z] at this
    cases this
  | false =>
    refine decide_eq_true (List.filter_eq_nil_iff.mpr fun x hx hp => ?_)
    exact absurd (List.any_eq_true.mpr ⟨x, hx, hp⟩) (by rw [q]; exact Bool.false_ne_true)
theorem e_lrow_done {T : ToolM} {w : Str} {m : D} {marks : List Str} (hm : seqD m = some (marks.map D.str)) (ht : ∀ r ∈ T.rows, r.tests.length ≤ 1000 ∧ ∀ t ∈ r.tests, testOk t = true) : callX f_law_row_done [.val (toolT T), .val (.str w), .val m] μ = some (.val (atD (rowForM T.rows w marks)), μ) := by
  refine callX_pure rfl ?_
  have hlb : LB = 100000 := rfl
  unfold f_law_row_done m_law_row_done
  push_cast [ix_tool, at1]
  rw [enumR_t]
  have step : ∀ (x : Nat × RowM) (ρ : Env'), x ∈ enumR 0 T.rows → (∃ a b c d, ρ = [some (.val (toolT T)), some (.val (.str w)), some (.val m), a, b, c, d]) → ∃ ρ1, hTup 2 (hCons (hName 3) (hCons (hName 4) hNil)) (.val (D.tup [.int (x.1 : Nat), rowT x.2])) ρ = some ρ1 ∧ (fitP w marks x = true → m_law_row_done_1 ρ1 [] = some (.rt (.val (.int (x.1 : Nat))) [])) ∧ (fitP w marks x = false → ∃ ρ2, (∃ a b c d, ρ2 = [some (.val (toolT T)), some (.val (.str w)), some (.val m), a, b, c, d]) ∧ (m_law_row_done_1 ρ1 [] = some (.nx ρ2 []) ∨ m_law_row_done_1 ρ1 [] = some (.ct ρ2 []))) := by
    rintro x ρ hx ⟨a, b, c, d, rfl⟩
    have hmem : x.2 ∈ T.rows := List.mem_of_getElem? (enumR_at hx).2
    obtain ⟨hz, hts⟩ := ht _ hmem
    have hl : (x.2.tests.map D.str).length ≤ LB := by rw [List.length_map]; omega
    have key : ∃ y, m_law_row_done_1 [some (.val (toolT T)), some (.val (.str w)), some (.val m), some (.val (.int (x.1 : Nat))), some (.val (rowT x.2)), c, d] [] = if fitP w marks x = true then some (.rt (.val (.int (x.1 : Nat))) []) else some (.nx [some (.val (toolT T)), some (.val (.str w)), some (.val m), some (.val (.int (x.1 : Nat))), some (.val (rowT x.2)), c, y] []) := by
      refine ⟨some (.val (.lst ((x.2.tests.filter fun t => decide (decide (cutS t none (some 4) = "not ") = decide (lst (wds t) ∈ marks))).map D.str))), ?_⟩
      unfold m_law_row_done_1 fitP
      push_cast [ix_row, at1, hl]
      rw [lc_map (h := D.str) (p := fun t => decide (decide (cutS t none (some 4) = "not ") = decide (lst (wds t) ∈ marks))) rfl (fun t htt => ⟨_, rfl, by
        push_cast [slF_s, splitF_sp, atL_wds, inF_seqS hm], fun _ => by push_cast [eq_self]⟩)]
      rw [← filter_fits hts]
      push_cast [ix_row, at0, eqF_nilS, Bool.and_eq_true]
      by_cases h1 : x.2.word = w
      · simp [h1]
      · simp [h1]
    obtain ⟨y, key⟩ := key
    refine ⟨_, rfl, ?_, ?_⟩
    · intro h
      exact key.trans (if_pos h)
    · intro h
      exact ⟨_, ⟨_, _, _, _, rfl⟩, .inl (key.trans (if_neg (by rw [h]; exact Bool.false_ne_true)))⟩
  obtain ⟨h1, h2⟩ := loop_find (μ := []) (c := none) rfl (f := fun p : Nat × RowM => D.tup [.int (p.1 : Nat), rowT p.2]) (w := fun x => .val (.int (x.1 : Nat))) step ⟨none, none, none, none, rfl⟩
  unfold rowForM
  cases e : (enumR 0 T.rows).find? (fitP w marks) with
  | some x =>
    push_cast [h1 x e]
    rfl
  | none =>
    obtain ⟨ρ2, _, h3⟩ := h2 e
    push_cast [h3]
    rfl
/-! ### deeds -/
def keptM (ks : List Str) (deed : Str) : List Str := if deed = "learn" then ks else ks.filter (fun m => !decide (m = (wds deed).getD 1 "")) ++ (if cutS deed none (some 4) = "mark" then [(wds deed).getD 1 ""] else [])
def deedOk2 (s : Str) : Bool := if s = "learn" then decide (fst (wds s) ≠ "mark") && decide (fst (wds s) ≠ "clear") else decide ((wds s).length = 2) && (if cutS s none (some 4) = "mark" then decide (fst (wds s) = "mark") else decide (fst (wds s) = "clear"))
theorem kept_perm {ks ls : List Str} {s : Str} (h : deedOk2 s = true) (p : ks.Perm ls) (nk : ks.Nodup) : (keptM ks s).Perm (deedM ls s) ∧ (keptM ks s).Nodup := by
  unfold deedOk2 at h
  unfold keptM deedM
  by_cases h1 : s = "learn"
  · rw [if_pos h1] at h ⊢
    simp only [Bool.and_eq_true, decide_eq_true_eq] at h
    rw [if_neg h.1, if_neg h.2]
    exact ⟨p, nk⟩
  · rw [if_neg h1] at h ⊢
    generalize (wds s).getD 1 "" = x
    have nf : (ks.filter fun m => !decide (m = x)).Nodup := nk.filter _
    by_cases h2 : cutS s none (some 4) = "mark"
    · rw [if_pos h2] at h ⊢
      simp only [Bool.and_eq_true, decide_eq_true_eq] at h
      rw [if_pos h.2]
      have nx : x ∉ ks.filter fun m => !decide (m = x) := by simp
      have nd : ((ks.filter fun m => !decide (m = x)) ++ [x]).Nodup := by
        rw [List.nodup_append]
        refine ⟨nf, by simp, ?_⟩
        intro a ha b hb
        rw [List.mem_singleton] at hb
        subst hb
        rintro rfl
        exact nx ha
      refine ⟨?_, nd⟩
      have nl : (addK ls x).Nodup := by
        unfold addK
        split
        · exact p.nodup_iff.mp nk
        · rename_i q
          rw [List.nodup_append]
          refine ⟨p.nodup_iff.mp nk, by simp, ?_⟩
          intro a ha b hb
          rw [List.mem_singleton] at hb
          subst hb
          rintro rfl
          exact q ha
      rw [List.perm_ext_iff_of_nodup nd nl]
      intro a
      have hm := p.mem_iff (a := a)
      unfold addK
      by_cases hx : x ∈ ls
      · rw [if_pos hx]
        simp only [List.mem_append, List.mem_filter, List.mem_singleton]
        by_cases ha : a = x
        · subst ha; simp [hx]
        · simp [ha, hm]
      · rw [if_neg hx]
        simp only [List.mem_append, List.mem_filter, List.mem_singleton]
        by_cases ha : a = x
        · subst ha; simp
        · simp [ha, hm]
    · rw [if_neg h2] at h ⊢
      simp only [Bool.and_eq_true, decide_eq_true_eq] at h
      have h3 : fst (wds s) ≠ "mark" := by rw [h.2]; simp [ofS]
      rw [if_neg h3, if_pos h.2, List.append_nil]
      exact ⟨p.filter _, nf⟩
theorem kept_all {ds : List Str} : ∀ {ks ls : List Str}, (∀ s ∈ ds, deedOk2 s = true) → ks.Perm ls → ks.Nodup → (ds.foldl keptM ks).Perm (ds.foldl deedM ls) := by
  induction ds with
  | nil => exact fun _ p _ => p
  | cons d ds ih =>
    intro ks ls h p nk
    obtain ⟨p2, n2⟩ := kept_perm (h d (by simp)) p nk
    exact ih (fun s hs => h s (List.mem_cons_of_mem _ hs)) p2 n2
theorem addK_nd : ∀ {ms ks : List Str}, (ks ++ ms).Nodup → ms.foldl addK ks = ks ++ ms
  | [], ks, _ => by simp
  | m :: ms, ks, h => by
    have hm : m ∉ ks := fun z => by
      rw [List.nodup_append] at h
      exact h.2.2 m z m (by simp) rfl
    rw [List.foldl_cons, addK, if_neg hm, addK_nd (by rw [List.append_assoc]; exact h), List.append_assoc]
    rfl
theorem kept_behind {ds ms : List Str} (h : ∀ s ∈ ds, deedOk2 s = true) (n : ms.Nodup) : srt (ds.foldl keptM ms) = behindM ds ms := by
  unfold behindM
  rw [addK_nd (ks := []) (by simpa using n), List.nil_append]
  exact srt_uniq (srt_srt _) (srt_srt _) ((srt_perm _).trans ((kept_all h (List.Perm.refl _) n).trans (srt_perm _).symm))
theorem plusF_l {a b : List D} : plusF (.lst a) (.lst b) = if a.length + b.length ≤ LB then some (.lst (a ++ b)) else none := rfl
theorem wd1 {s : Str} (h : (wds s).length = 2) : (wds s)[1]? = some ((wds s).getD 1 "") := by
  rw [List.getD_eq_getElem?_getD]
  have : 1 < (wds s).length := by omega
  rw [List.getElem?_eq_getElem this]
  rfl
theorem keptM_len {ks : List Str} {s : Str} : (keptM ks s).length ≤ ks.length + 1 := by
  unfold keptM
  generalize (wds s).getD 1 "" = x
  split
  · omega
  · have := List.length_filter_le (fun m => !decide (m = x)) ks
    rw [List.length_append]
    split
    · rw [List.length_singleton]; omega
    · rw [List.length_nil]; omega
theorem e_ldeed {a b m c n x7 x8 : Option W} {k : Str} {ks : List Str} {cd : W} (hk : deedOk2 k = true) (hz : ks.length < 1000) : ∃ y7 y8, m_law_deeds_1 [a, b, n, m, some cd, some (.val (.lst (ks.map D.str))), some (.val (.str k)), x7, x8] [] = (if k = "learn" then some (.ct [a, b, some cd, m, some cd, some (.val (.lst ((keptM ks k).map D.str))), some (.val (.str k)), y7, y8] []) else some (.nx [a, b, n, m, some cd, some (.val (.lst ((keptM ks k).map D.str))), some (.val (.str k)), y7, y8] [])) := by
  have hlb : LB = 100000 := rfl
  by_cases h1 : k = "learn"
  · refine ⟨x7, x8, ?_⟩
    unfold m_law_deeds_1 keptM
    rw [if_pos h1, if_pos h1]
    push_cast [h1]
  · unfold deedOk2 at hk
    rw [if_neg h1] at hk
    simp only [Bool.and_eq_true, decide_eq_true_eq] at hk
    refine ⟨some (.val (.str ((wds k).getD 1 ""))), x8, ?_⟩
    unfold m_law_deeds_1 keptM
    rw [if_neg h1, if_neg h1]
    have hl : (ks.map D.str).length ≤ LB := by rw [List.length_map]; omega
    push_cast [h1, splitF_sp, at1_of (wd1 hk.1), hl]
    rw [lc_map (h := D.str) (p := fun t => !decide (t = (wds k).getD 1 "")) rfl (fun t htt => ⟨_, rfl, by
        push_cast [eq_self], fun _ => by push_cast [eq_self]⟩)]
    push_cast [slF_s]
    have hf := List.length_filter_le (fun t => !decide (t = (wds k).getD 1 "")) ks
    by_cases h2 : cutS k none (some 4) = "mark"
    · push_cast [h2, plusF_l]
      rw [if_pos (by omega), if_pos (by rw [List.length_map]; omega), List.map_append]
      rfl
    · push_cast [h2, plusF_l]
      rw [if_pos (by rw [List.length_map]; omega)]
theorem e_ldeeds_loop {a b m : Option W} {cd : Int} : ∀ {ds ks : List Str} {n : Int} {x6 x7 x8 : Option W}, (∀ s ∈ ds, deedOk2 s = true) → ks.length + ds.length < 1000 → ∃ y6 y7 y8, loopR (hName 6) m_law_deeds_1 none (ds.map D.str) [a, b, some (.val (.int n)), m, some (.val (.int cd)), some (.val (.lst (ks.map D.str))), x6, x7, x8] [] = some (.nx [a, b, some (.val (.int (if ("learn" : Str) ∈ ds then cd else n))), m, some (.val (.int cd)), some (.val (.lst ((ds.foldl keptM ks).map D.str))), y6, y7, y8] [])
  | [], ks, n, x6, x7, x8, _, _ => ⟨x6, x7, x8, rfl⟩
  | s :: ds, ks, n, x6, x7, x8, ho, hz => by
    rw [List.length_cons] at hz
    obtain ⟨y7, y8, he⟩ := e_ldeed (a := a) (b := b) (m := m) (c := none) (n := some (.val (.int n))) (x7 := x7) (x8 := x8) (k := s) (ks := ks) (cd := .val (.int cd)) (ho s (by simp)) (by omega)
    have hl := keptM_len (ks := ks) (s := s)
    rw [List.map_cons, loop_cons]
    simp only [name_set, Option.bind_some, List.set_cons_succ, List.set_cons_zero]
    rw [he]
    by_cases h1 : s = "learn"
    · obtain ⟨z6, z7, z8, hx⟩ := e_ldeeds_loop (a := a) (b := b) (m := m) (cd := cd) (ds := ds) (ks := keptM ks s) (n := cd) (x6 := some (.val (.str s))) (x7 := y7) (x8 := y8) (fun t ht => ho t (List.mem_cons_of_mem _ ht)) (by omega)
      refine ⟨z6, z7, z8, ?_⟩
      rw [if_pos h1]
      simp only [Option.bind_some, standB, if_true]
      rw [hx, if_pos (show ("learn" : Str) ∈ s :: ds by rw [h1]; simp), ite_self]
      rfl
    · obtain ⟨z6, z7, z8, hx⟩ := e_ldeeds_loop (a := a) (b := b) (m := m) (cd := cd) (ds := ds) (ks := keptM ks s) (n := n) (x6 := some (.val (.str s))) (x7 := y7) (x8 := y8) (fun t ht => ho t (List.mem_cons_of_mem _ ht)) (by omega)
      refine ⟨z6, z7, z8, ?_⟩
      rw [if_neg h1]
      simp only [Option.bind_some, standB, if_true]
      have hi : (("learn" : Str) ∈ s :: ds) = (("learn" : Str) ∈ ds) := by
        rw [List.mem_cons]
        exact propext ⟨fun h => h.resolve_left fun e => h1 e.symm, .inr⟩
      rw [hx]
      simp only [hi, List.foldl_cons]
def lateP (c n : Int) : Option (Nat × RowM) → Int
  | some q => if ("learn" : Str) ∈ q.2.deeds then c else n
  | none => n
def keptP (marks : List Str) : Option (Nat × RowM) → List Str
  | some q => behindM q.2.deeds marks
  | none => srt marks
theorem e_ldeeds {T : ToolM} {n c : Int} {m : D} {marks : List Str} {p : Option (Nat × RowM)} (hm : lstF m = some (.lst (marks.map D.str))) (hp : ∀ q, p = some q → T.rows[q.1]? = some q.2) (hd : ∀ r ∈ T.rows, ∀ s ∈ r.deeds, deedOk2 s = true) (hr : ∀ r ∈ T.rows, r.tests.length + r.deeds.length < 32) (hz : marks.length < 32) (hn : marks.Nodup) : callX f_law_deeds [.val (toolT T), .val (atD p), .val (.int n), .val m, .val (.int c)] μ = some (.val (.tup [.int (lateP c n p), .tup ((keptP marks p).map D.str)]), μ) := by
  refine callX_pure rfl ?_
  have hlb : LB = 100000 := rfl
  unfold f_law_deeds m_law_deeds
  have h2 : (2 ≤ LB) = True := eq_true (by omega)
  have h0 : (0 ≤ LB) = True := eq_true (by omega)
  cases p with
  | none =>
    have hl : (marks.map D.str).length ≤ LB := by rw [List.length_map]; omega
    push_cast [hm, atD, h0, h2, loop_nil, hl]
    rw [e_strs (by simp)]
    push_cast [sortF_map (l := marks) (by omega), h2]
    rfl
  | some q =>
    have hq := hp q rfl
    have hmem : q.2 ∈ T.rows := List.mem_of_getElem? hq
    have hat : atI (T.rows.map rowT) ((q.1 : Nat) : Int) = some (rowT q.2) := at_map (L2.atI_nat hq)
    have hb := hr _ hmem
    obtain ⟨y6, y7, y8, hx⟩ := e_ldeeds_loop (a := some (.val (toolT T))) (b := some (.val (.int (q.1 : Nat)))) (m := some (.val m)) (cd := c) (ds := q.2.deeds) (ks := marks) (n := n) (x6 := none) (x7 := none) (x8 := none) (hd _ hmem) (by omega)
    have hkl : ∀ {ds ks : List Str}, (ds.foldl keptM ks).length ≤ ks.length + ds.length := fun {ds} => by
      induction ds with
      | nil => intro ks; simp
      | cons d ds ih =>
        intro ks
        have := ih (ks := keptM ks d)
        have := keptM_len (ks := ks) (s := d)
        rw [List.foldl_cons, List.length_cons]
        omega
    have hk2 := hkl (ds := q.2.deeds) (ks := marks)
    have hl : ((q.2.deeds.foldl keptM marks).map D.str).length ≤ LB := by rw [List.length_map]; omega
    push_cast [hm, atD, h2, ix_tool, at1, hat, ix_row, at2, hx, hl]
    rw [e_strs (by simp)]
    push_cast [sortF_map (l := q.2.deeds.foldl keptM marks) (by omega), h2]
    rw [kept_behind (hd _ hmem) hn]
    rfl
theorem e_lanswer {T : ToolM} {n c : Int} {m : D} {marks : List Str} (hm : m = .tup (marks.map D.str)) (hs : srt marks = marks) (ht : ∀ r ∈ T.rows, r.tests.length ≤ 1000 ∧ ∀ t ∈ r.tests, testOk t = true) (hd : ∀ r ∈ T.rows, ∀ s ∈ r.deeds, deedOk2 s = true) (hr : ∀ r ∈ T.rows, r.tests.length + r.deeds.length < 32) (hz : marks.length < 32) (hn : marks.Nodup) : callX f_law_answer [.val (toolT T), .val (.int n), .val m, .val (.int c)] μ = some (.val (answerM T n marks c), μ) := by
  refine callX_pure rfl ?_
  subst hm
  have hlb : LB = 100000 := rfl
  have h4 : (4 ≤ LB) = True := eq_true (by omega)
  unfold f_law_answer m_law_answer
  push_cast [e_lword]
  rw [e_lrow_done (marks := marks) rfl ht]
  unfold answerM
  rw [hs]
  have hp : ∀ q, rowForM T.rows (wordM T.window (c - n)) marks = some q → T.rows[q.1]? = some q.2 := fun q e => by
    have := (enumR_at (List.mem_of_find?_eq_some e)).2
    simpa using this
  have hdd := fun μ => e_ldeeds (μ := μ) (T := T) (n := n) (c := c) (m := .tup (marks.map D.str)) (marks := marks) (p := rowForM T.rows (wordM T.window (c - n)) marks) rfl hp hd hr hz hn
  push_cast [hdd]
  cases e : rowForM T.rows (wordM T.window (c - n)) marks with
  | none =>
    push_cast [atD, h4, keptP, lateP]
    rw [hs]
  | some q =>
    have hat : atI (T.rows.map rowT) ((q.1 : Nat) : Int) = some (rowT q.2) := at_map (L2.atI_nat (hp q e))
    push_cast [atD, h4, ix_tool, at1, hat, ix_row, at3, keptP, lateP]
end DX

namespace DX
open PySem PySem.Spec L2 DK
local macro_rules
  | `(tactic| push_cast [$ts,*]) => `(tactic| simp only [q_seq, q_ifS, q_if, q_and, q_or, q_not, q_andV, q_orV, q_notV, q_test, q_op, q_un, q_asg, q_ret, q_drop, q_cons, q_dat, q_dat1, q_tup, q_lst, q_call, q_meth, q_for, q_lc, q_seqI, q_sl, q_var, q_c, q_nil, q_next, q_cont, q_break, q_retN, q_yes, q_noPart, q_partB, q_isN, q_ixB, q_fld, q_enum, q_par, q_body, varW_some, view_val, view_loc, viewM_lst, viewM_frz, isBl_bl, partW_int, name_set, ixW_val, ixF_l, ixF_t, fld_row_word, fld_row_tests, fld_row_deeds, fld_row_opens, fld_tool_window, fld_tool_rows, fld_tool_marks, recv_row, recv_tool, bodyE_rt, bodyE_nx, exit_any, exit_dst, negF_int, plusF_int, minusF_int, ltF_int, leF_int, gtF_int, geF_int, eqF_int, eqF_str, eqF_bl, intF_int, maxF_int, minF_int, lenF_l, lenF_t, lenF_s, tupF_l, tupF_t, lstF_l, lstF_t, strF_s, seqOf_t, seqOf_l, guard_val, guard_loc, isNW_val, isNW_loc, enumW_1, parW_2, tup_set, cons_set, nil_set, frzL_nil, frzL_cons, frz1_val, frz1_loc, frzM_lst, frzM_frz, ofS, ite_bind, Option.bind_some, then_nx, then_rt, then_ct, then_bk, start, List.length_cons, List.length_nil, List.map_cons, List.map_nil, List.replicate, List.cons_append, List.nil_append, List.append_nil, List.getElem?_cons_succ, List.getElem?_cons_zero, List.set_cons_succ, List.set_cons_zero, Nat.sub_self, Nat.reduceSub, Nat.reduceAdd, Nat.reduceEqDiff, if_true, if_false, reduceIte, decide_eq_true_eq, decide_true, decide_false, Bool.false_xor, Bool.true_xor, Nat.zero_add, eq_self, String.reduceEq, Bool.false_eq_true, wipeE, List.foldl_cons, List.foldl_nil, Bool.not_true, Bool.not_false, inF_strsT, inF_strsL, q_fldS, fldSW_0, q_make, isNon_int, isNon_non, isNon_bl, isNon_str, isNon_tup, isNon_lst, q_lcM, q_setI, q_addM, addW_val, seqOf_loc, seqM_lst, seqM_frz, ixW_loc, ixM_lsW, ixM_lst, ixM_frz, setIW_loc, setIM_lst, exit_val, exit_loc, exitV_if, List.take_succ_cons, List.take_zero, List.take_nil, List.all_cons, List.all_nil, Bool.and_true, Bool.true_and, Bool.and_self, Nat.reduceLT, Nat.reduceLeDiff, Nat.zero_le, Nat.lt_add_one, exitM_lst, exitM_frz, below_lst, below_frz, below_dK, below_scr, below_lsW, below_ins, below_dW, wbelow_val, wbelow_loc, q_append, appA_loc, appW_1, appM_lst, q_lstOfM, lstM_lst, q_lstM, q_rng1, standB_none, standB_some, standM_lst, standM_frz, q_join, joinA_str, q_joined, q_jNil, q_jCons, jW_str, q_star, q_own1, ownW_val, okStr_str, isIns_row, isIns_tool, q_kget, kgetW_str, q_indexC, indexW_lst, q_makeL, mkL_cls, q_cmeth, cmW_cls, q_star1, star1W_cons, q_chain, chainW_bl, chainE_bl, q_eqOwn, fmtF_s, and_self, $ts,*])
variable {μ : Mu}
theorem e_lmade {X : Txt} (hX : X.okB = true) {T : ToolM} (hT : ToolOk X T) : callX f_law_made [.val (toolT T)] μ = some (.val T.d, μ) := by
  refine callX_pure rfl ?_
  have hlb : LB = 100000 := rfl
  have hl : (T.rows.map rowT).length ≤ LB := by rw [List.length_map]; have := hT.len; omega
  unfold f_law_made m_law_made
  push_cast [ix_tool, at0, at1, hl]
  rw [lc_map1 (h := RowM.d) rfl (fun r hr => ⟨_, rfl, by
    push_cast [ix_row, at0, at1, at2, at3]
    rw [e_Row hX (hT.ok r hr) rfl rfl]
    rfl⟩)]
  push_cast [eq_self]
  rw [e_Tool hT rfl]
  push_cast [eq_self]
/-! ### draws -/
theorem draw_ex (d : Dl) (many : Int) (hd : d.1.length ≤ 1000) (h0 : 0 < many) (h1 : many < 1000) : ∃ (k : Int) (d' : Dl), 0 ≤ k ∧ k < many ∧ d'.1.length ≤ 1000 ∧ ∀ t, callX f_law_draw [.loc 1, .val (.int many)] (.lst (d.1.map D.int) :: .lsW [.loc 0, .val (.int d.2)] :: t) = some (.val (.int k), .lst (d'.1.map D.int) :: .lsW [.loc 0, .val (.int d'.2)] :: t) := by
  have hlb : LB = 100000 := rfl
  have k2 := drawM_len (many := many) (d := d)
  refine ⟨_, _, drawM_lo (d := d) h0, drawM_hi (d := d) h0, Nat.le_trans k2 hd, fun t => ?_⟩
  exact callX_dst (f := f_law_draw) (ws := [.loc 1, .val (.int many)]) (rest := t) (by kernel_rfl) (e_draw (d := d) (many := many) (by omega) h0 (by omega))
theorem callX_deal {f : FX} {ws : List W} {t : Mu} {w : W} {d d' : Dl} (ht : locTop ws = 2) (h : f ws [.lst (d.1.map D.int), .lsW [.loc 0, .val (.int d.2)]] = some (w, [.lst (d'.1.map D.int), .lsW [.loc 0, .val (.int d'.2)]])) : callX f ws (.lst (d.1.map D.int) :: .lsW [.loc 0, .val (.int d.2)] :: t) = some (w, .lst (d'.1.map D.int) :: .lsW [.loc 0, .val (.int d'.2)] :: t) := callX_dst (d := d) (d' := d') ht h
theorem at_some {α : Type} {l : List α} {k : Int} (h0 : 0 ≤ k) (h1 : k < l.length) : ∃ x, x ∈ l ∧ atI l k = some x := by
  obtain ⟨j, rfl⟩ := Int.eq_ofNat_of_zero_le h0
  have hj : j < l.length := by omega
  exact ⟨l[j], List.getElem_mem hj, L2.atI_nat (List.getElem?_eq_getElem hj)⟩
theorem pick_ex (d : Dl) (xs : List D) (hd : d.1.length ≤ 1000) (h0 : xs ≠ []) (h1 : xs.length < 1000) : ∃ (x : D) (d' : Dl), x ∈ xs ∧ d'.1.length ≤ 1000 ∧ ∀ t, callX f_law_pick [.loc 1, .val (.lst xs)] (.lst (d.1.map D.int) :: .lsW [.loc 0, .val (.int d.2)] :: t) = some (.val x, .lst (d'.1.map D.int) :: .lsW [.loc 0, .val (.int d'.2)] :: t) := by
  have hp : 0 < xs.length := List.length_pos_iff.mpr h0
  obtain ⟨k, d', k0, k1, k2, h⟩ := draw_ex d xs.length hd (by omega) (by omega)
  obtain ⟨x, hx, hat⟩ := at_some k0 k1
  refine ⟨x, d', hx, k2, fun t => callX_deal rfl ?_⟩
  unfold f_law_pick m_law_pick
  push_cast [h, hat]
/-- the rows of the law's tools -/
def XT : Txt := ⟨["marked k", "not marked k"], ["learn", "mark k", "clear k"]⟩
theorem XT_ok : XT.okB = true := by kernel_rfl
theorem XT_de : ∀ s ∈ XT.ds, deedOk s = true ∧ deedOk2 s = true := by
  have : (XT.ds.all fun s => deedOk s && deedOk2 s) = true := by kernel_rfl
  exact fun s hs => Bool.and_eq_true_iff.mp (List.all_eq_true.mp this s hs)
theorem XT_te : ∀ s ∈ XT.ts, testOk s = true := by
  have : (XT.ts.all testOk) = true := by kernel_rfl
  exact fun s hs => List.all_eq_true.mp this s hs
structure RW (r : RowM) : Prop where
  ok : RowOk XT r
  t2 : r.tests.length ≤ 2
  d3 : r.deeds.length ≤ 3
end DX

namespace DX
open PySem PySem.Spec L2 DK
local macro_rules
  | `(tactic| push_cast [$ts,*]) => `(tactic| simp only [q_seq, q_ifS, q_if, q_and, q_or, q_not, q_andV, q_orV, q_notV, q_test, q_op, q_un, q_asg, q_ret, q_drop, q_cons, q_dat, q_dat1, q_tup, q_lst, q_call, q_meth, q_for, q_lc, q_seqI, q_sl, q_var, q_c, q_nil, q_next, q_cont, q_break, q_retN, q_yes, q_noPart, q_partB, q_isN, q_ixB, q_fld, q_enum, q_par, q_body, varW_some, view_val, view_loc, viewM_lst, viewM_frz, isBl_bl, partW_int, name_set, ixW_val, ixF_l, ixF_t, fld_row_word, fld_row_tests, fld_row_deeds, fld_row_opens, fld_tool_window, fld_tool_rows, fld_tool_marks, recv_row, recv_tool, bodyE_rt, bodyE_nx, exit_any, exit_dst, negF_int, plusF_int, minusF_int, ltF_int, leF_int, gtF_int, geF_int, eqF_int, eqF_str, eqF_bl, intF_int, maxF_int, minF_int, lenF_l, lenF_t, lenF_s, tupF_l, tupF_t, lstF_l, lstF_t, strF_s, seqOf_t, seqOf_l, guard_val, guard_loc, isNW_val, isNW_loc, enumW_1, parW_2, tup_set, cons_set, nil_set, frzL_nil, frzL_cons, frz1_val, frz1_loc, frzM_lst, frzM_frz, ofS, ite_bind, Option.bind_some, then_nx, then_rt, then_ct, then_bk, start, List.length_cons, List.length_nil, List.map_cons, List.map_nil, List.replicate, List.cons_append, List.nil_append, List.append_nil, List.getElem?_cons_succ, List.getElem?_cons_zero, List.set_cons_succ, List.set_cons_zero, Nat.sub_self, Nat.reduceSub, Nat.reduceAdd, Nat.reduceEqDiff, if_true, if_false, reduceIte, decide_eq_true_eq, decide_true, decide_false, Bool.false_xor, Bool.true_xor, Nat.zero_add, eq_self, String.reduceEq, Bool.false_eq_true, wipeE, List.foldl_cons, List.foldl_nil, Bool.not_true, Bool.not_false, inF_strsT, inF_strsL, q_fldS, fldSW_0, q_make, isNon_int, isNon_non, isNon_bl, isNon_str, isNon_tup, isNon_lst, q_lcM, q_setI, q_addM, addW_val, seqOf_loc, seqM_lst, seqM_frz, ixW_loc, ixM_lsW, ixM_lst, ixM_frz, setIW_loc, setIM_lst, exit_val, exit_loc, exitV_if, List.take_succ_cons, List.take_zero, List.take_nil, List.all_cons, List.all_nil, Bool.and_true, Bool.true_and, Bool.and_self, Nat.reduceLT, Nat.reduceLeDiff, Nat.zero_le, Nat.lt_add_one, exitM_lst, exitM_frz, below_lst, below_frz, below_dK, below_scr, below_lsW, below_ins, below_dW, wbelow_val, wbelow_loc, q_append, appA_loc, appW_1, appM_lst, q_lstOfM, lstM_lst, q_lstM, q_rng1, standB_none, standB_some, standM_lst, standM_frz, q_join, joinA_str, q_joined, q_jNil, q_jCons, jW_str, q_star, q_own1, ownW_val, okStr_str, isIns_row, isIns_tool, q_kget, kgetW_str, q_indexC, indexW_lst, q_makeL, mkL_cls, q_cmeth, cmW_cls, q_star1, star1W_cons, q_chain, chainW_bl, chainE_bl, q_eqOwn, fmtF_s, and_self, $ts,*])
variable {μ : Mu}
theorem copy_rows {ρ : Env'} {c : Option (Nat × List D)} (hc : standB c μ = true) (hρ : 2 < ρ.length) {rows : List RowM} : lcR (hName 2) mYes (mTup (mCons (mIx (mVar 2) (mC (.int 0))) (mCons (mUn lstF (mIx (mVar 2) (mC (.int 1)))) (mCons (mUn lstF (mIx (mVar 2) (mC (.int 2)))) (mCons (mIx (mVar 2) (mC (.int 3))) mNil))))) c ρ (rows.map rowT) μ = some (rows.map rowT, μ) := lc_map1 (h := rowT) hc (fun r hr => ⟨_, rfl, by
  have h4 : (4 ≤ LB) = True := eq_true (by decide)
  have hv : (ρ.set 2 (some (.val (rowT r))))[2]? = some (some (.val (rowT r))) := List.getElem?_set_self hρ
  push_cast [hv, ix_row, at0, at1, at2, at3, h4]
  rfl⟩)
theorem ixW_2 {a b : MO} {xs : List D} {n : Int} {t : Mu} : ixW (a :: b :: .lst xs :: t) (.loc 2) (.val (.int n)) = (atI xs n).bind fun r => some (.val r, a :: b :: .lst xs :: t) := by
  show (match atI xs n with
    | some r => some (W.val r, a :: b :: MO.lst xs :: t)
    | none => none) = _
  cases atI xs n <;> rfl
theorem ixW_3 {a b c : MO} {xs : List D} {n : Int} {t : Mu} : ixW (a :: b :: c :: .lst xs :: t) (.loc 3) (.val (.int n)) = (atI xs n).bind fun r => some (.val r, a :: b :: c :: .lst xs :: t) := by
  show (match atI xs n with
    | some r => some (W.val r, a :: b :: c :: MO.lst xs :: t)
    | none => none) = _
  cases atI xs n <;> rfl
theorem row_set {r : RowM} {n : Nat} {g : RGs} {ρ : Env'} : hTup n g (.val (rowT r)) ρ = if 4 = n then g [.str r.word, .lst (r.tests.map D.str), .lst (r.deeds.map D.str), .bl r.opens] ρ else none := rfl
theorem RW.flip {r : RowM} (h : RW r) (hw : r.word ≠ "house") : RW ⟨r.word, r.tests, r.deeds, !r.opens⟩ := ⟨⟨h.ok.w, h.ok.ts, h.ok.zt, h.ok.ds, h.ok.zd, h.ok.l, .inr hw⟩, h.t2, h.d3⟩
theorem RW.test {r : RowM} (h : RW r) {t : Str} (ht : t ∈ XT.ts) (hz : r.tests.length < 2) : RW ⟨r.word, r.tests ++ [t], r.deeds, r.opens⟩ := ⟨⟨h.ok.w, fun s hs => by
  rcases List.mem_append.mp hs with q | q
  · exact h.ok.ts s q
  · rw [List.mem_singleton.mp q]; exact ht, by rw [List.length_append, List.length_singleton]; omega, h.ok.ds, h.ok.zd, h.ok.l, h.ok.o⟩, by rw [List.length_append, List.length_singleton]; omega, h.d3⟩
theorem RW.deed {r : RowM} (h : RW r) {t : Str} (ht : t ∈ XT.ds) (hl : ("learn" : Str) ∈ r.deeds) (hz : r.deeds.length < 3) : RW ⟨r.word, r.tests, r.deeds ++ [t], r.opens⟩ := ⟨⟨h.ok.w, h.ok.ts, h.ok.zt, fun s hs => by
  rcases List.mem_append.mp hs with q | q
  · exact h.ok.ds s q
  · rw [List.mem_singleton.mp q]; exact ht, by rw [List.length_append, List.length_singleton]; omega, .inr ⟨by
    rcases h.ok.l with q | q
    · rw [q] at hl; cases hl
    · exact q.1, List.mem_append_left _ hl⟩, h.ok.o⟩, h.t2, by rw [List.length_append, List.length_singleton]; omega⟩
theorem RW.bare {r : RowM} (h : RW r) : RW ⟨r.word, r.tests, [], r.opens⟩ := ⟨⟨h.ok.w, h.ok.ts, h.ok.zt, by simp, by simp, .inl rfl, h.ok.o⟩, h.t2, by simp⟩
theorem RW.learn {r : RowM} (h : RW r) (hw : r.word ∈ cc_LEARNING) : RW ⟨r.word, r.tests, ["learn"], r.opens⟩ := ⟨⟨h.ok.w, h.ok.ts, h.ok.zt, by simp [XT], by simp, .inr ⟨hw, by simp⟩, h.ok.o⟩, h.t2, by simp⟩
theorem RW.marked {r : RowM} (h : RW r) : RW ⟨r.word, ["marked k"], [], decide (r.word = "house") || !r.opens⟩ := ⟨⟨h.ok.w, by simp [XT], by simp, by simp, by simp, .inl rfl, by
  by_cases q : r.word = "house"
  · left; simp [q]
  · exact .inr q⟩, by simp, by simp⟩
theorem ixN_n {n j : Nat} (hj : j < n) : ixN n (j : Int) = some j := by
  have h := L2.atI_nat (xs := List.range n) (j := j) (v := j) (by rw [List.getElem?_range hj])
  unfold atI at h
  rw [List.length_range] at h
  cases e : ixN n (j : Int) with
  | none => rw [e] at h; cases h
  | some i =>
    rw [e] at h
    simp only [Option.bind_some] at h
    obtain ⟨h1, h2⟩ := List.getElem?_eq_some_iff.mp h
    rw [List.getElem_range] at h2
    rw [h2]
theorem slF_ls {lo hi : Option Int} {xs : List D} : slF lo hi (.lst xs) = some (.lst (DK.cutD xs lo hi)) := rfl
theorem cut_to {rows : List RowM} {j : Nat} (hj : j < rows.length) : DK.cutD (rows.map rowT) none (some (j : Int)) = (rows.take j).map rowT := by
  rw [cutD_map]
  congr 1
  unfold cutI
  rw [HT.sIx_none, HT.sIx_nat, List.drop_zero, Nat.sub_zero, Nat.min_eq_left (Nat.le_of_lt hj)]
theorem cut_from {rows : List RowM} {j : Nat} (hj : j < rows.length) : DK.cutD (rows.map rowT) (some (j : Int)) none = (rows.drop j).map rowT := by
  rw [cutD_map]
  congr 1
  unfold cutI
  rw [HT.sIx_none, HT.sIx_nat, Nat.min_eq_left (Nat.le_of_lt hj), List.take_of_length_le (by rw [List.length_drop]; omega)]
theorem cut_from1 {rows : List RowM} {j : Nat} (hj : j < rows.length) : DK.cutD (rows.map rowT) (some ((j : Int) + 1)) none = (rows.drop (j + 1)).map rowT := by
  rw [cutD_map]
  congr 1
  unfold cutI
  have e : HT.sIx rows.length 0 (some ((j : Int) + 1)) = min (j + 1) rows.length := HT.sIx_nat rows.length 0 (j + 1)
  rw [HT.sIx_none, e, Nat.min_eq_left (by omega), List.take_of_length_le (by rw [List.length_drop]; omega)]
theorem bent_v (d : Dl) (rows : List RowM) (hd : d.1.length ≤ 1000) (hr : ∀ r ∈ rows, RW r) (h0 : rows ≠ []) (h9 : rows.length ≤ 9) : ∃ (rows' : List RowM) (d' : Dl), (∀ r ∈ rows', RW r) ∧ rows' ≠ [] ∧ rows'.length ≤ 9 ∧ d'.1.length ≤ 1000 ∧ f_law_bent [.loc 1, .val (.lst (rows.map rowT))] [.lst (d.1.map D.int), .lsW [.loc 0, .val (.int d.2)]] = some (.val (.lst (rows'.map rowT)), [.lst (d'.1.map D.int), .lsW [.loc 0, .val (.int d'.2)]]) := by
  have hlb : LB = 100000 := rfl
  have hp : 0 < rows.length := List.length_pos_iff.mpr h0
  have hl : ((rows.map rowT).length ≤ LB) = True := eq_true (by rw [List.length_map]; omega)
  obtain ⟨k, d1, k0, k1, k2, hk⟩ := draw_ex d ((rows.map rowT).length : Nat) hd (by rw [List.length_map]; omega) (by rw [List.length_map]; omega)
  obtain ⟨f, d2, f0, f1, f2, hf⟩ := draw_ex d1 7 k2 (by omega) (by omega)
  obtain ⟨j, rfl⟩ := Int.eq_ofNat_of_zero_le k0
  have hj : j < rows.length := by rw [List.length_map] at k1; omega
  have hrm : rows[j] ∈ rows := List.getElem_mem hj
  have hat : atI (rows.map rowT) (j : Int) = some (rowT rows[j]) := at_map (L2.atI_nat (List.getElem?_eq_getElem hj))
  have hix : ixN rows.length (j : Int) = some j := ixN_n hj
  have hw := hr _ hrm
  generalize rows[j] = r at hrm hat hw
  have hset : ∀ r', RW r' → (∀ q ∈ rows.set j r', RW q) ∧ rows.set j r' ≠ [] ∧ (rows.set j r').length ≤ 9 := fun r' h' => ⟨fun q hq => by
    rcases List.mem_or_eq_of_mem_set hq with z | z
    · exact hr q z
    · rw [z]; exact h', fun z => by
    have := congrArg List.length z
    rw [List.length_set, List.length_nil] at this
    omega, by rw [List.length_set]; exact h9⟩
  have hmset : ∀ r', (rows.map rowT).set j (rowT r') = (rows.set j r').map rowT := fun r' => by rw [List.map_set]
  have h4 : (4 ≤ LB) = True := eq_true (by omega)
  have h1l : (1 ≤ LB) = True := eq_true (by omega)
  have h2l : (2 ≤ LB) = True := eq_true (by omega)
  have h3l : (3 ≤ LB) = True := eq_true (by omega)
  have h0l : (0 ≤ LB) = True := eq_true (by omega)
  unfold f_law_bent m_law_bent
  push_cast [hl]
  rw [copy_rows rfl (by simp)]
  push_cast [hk, hf, ixW_2, hat, row_set]
  have hstay : (∀ q ∈ rows, RW q) ∧ rows ≠ [] ∧ rows.length ≤ 9 := ⟨hr, h0, h9⟩
  have hff : f = 0 ∨ f = 1 ∨ f = 2 ∨ f = 3 ∨ f = 4 ∨ f = 5 ∨ f = 6 := by omega
  rcases hff with rfl | rfl | rfl | rfl | rfl | rfl | rfl
  · by_cases q : 1 < rows.length
    · have hc1 : DK.cutD (rows.map rowT) none (some (j : Int)) = (rows.take j).map rowT := cut_to hj
      have hc2 : DK.cutD (rows.map rowT) (some ((j : Int) + 1)) none = (rows.drop (j + 1)).map rowT := cut_from1 hj
      refine ⟨rows.take j ++ rows.drop (j + 1), d2, ?_, ?_, ?_, f2, ?_⟩
      · intro x hx
        rcases List.mem_append.mp hx with z | z
        · exact hr x (List.mem_of_mem_take z)
        · exact hr x (List.mem_of_mem_drop z)
      · intro z
        have := congrArg List.length z
        rw [List.length_append, List.length_take, List.length_drop, List.length_nil] at this
        omega
      · rw [List.length_append, List.length_take, List.length_drop]
        omega
      · have q2 : ((1 : Int) < ((rows.length : Nat) : Int)) = True := eq_true (by omega)
        have z3 : ((rows.take j).length + (rows.drop (j + 1)).length ≤ LB) = True := eq_true (by rw [List.length_take, List.length_drop]; omega)
        rw [List.map_append]
        push_cast [Int.reduceEq, List.length_map, q2, slF_ls, hc1, hc2, plusF_l, z3]
    · refine ⟨rows, d2, hstay.1, hstay.2.1, hstay.2.2, f2, ?_⟩
      have q2 : ((1 : Int) < ((rows.length : Nat) : Int)) = False := eq_false (by omega)
      push_cast [Int.reduceEq, List.length_map, q2]
  · by_cases q : r.word = "house"
    · refine ⟨rows, d2, hstay.1, hstay.2.1, hstay.2.2, f2, ?_⟩
      push_cast [q, Int.reduceEq]
    · refine ⟨rows.set j ⟨r.word, r.tests, r.deeds, !r.opens⟩, d2, (hset _ (hw.flip q)).1, (hset _ (hw.flip q)).2.1, (hset _ (hw.flip q)).2.2, f2, ?_⟩
      push_cast [q, Int.reduceEq, h4, List.length_map, hix]
      rw [← hmset]
      rfl
  · by_cases q : r.tests.length < 2
    · obtain ⟨x, d3, hx, hd3, hpk⟩ := pick_ex d2 [.str "marked k", .str "not marked k"] f2 (by simp) (by simp)
      obtain ⟨t, ht, rfl⟩ : ∃ t, t ∈ XT.ts ∧ x = D.str t := by
        rcases List.mem_cons.mp hx with z | z
        · exact ⟨_, by simp [XT], z⟩
        · exact ⟨_, by simp [XT], List.mem_singleton.mp z⟩
      have hh := hset _ (hw.test ht q)
      refine ⟨rows.set j ⟨r.word, r.tests ++ [t], r.deeds, r.opens⟩, d3, hh.1, hh.2.1, hh.2.2, hd3, ?_⟩
      have q2 : (((r.tests.length : Nat) : Int) < 2) = True := eq_true (by omega)
      have q3 : (r.tests.length + 1 ≤ LB) = True := eq_true (by omega)
      push_cast [q2, q3, Int.reduceEq, h4, h1l, h2l, List.length_map, hix, hpk, plusF_l]
      rw [← hmset]
      unfold rowT
      simp
    · refine ⟨rows, d2, hstay.1, hstay.2.1, hstay.2.2, f2, ?_⟩
      have q2 : (((r.tests.length : Nat) : Int) < 2) = False := eq_false (by omega)
      push_cast [q2, Int.reduceEq, List.length_map]
  · by_cases q : ("learn" : Str) ∈ r.deeds ∧ r.deeds.length < 3
    · obtain ⟨x, d3, hx, hd3, hpk⟩ := pick_ex d2 [.str "mark k", .str "clear k"] f2 (by simp) (by simp)
      obtain ⟨t, ht, rfl⟩ : ∃ t, t ∈ XT.ds ∧ x = D.str t := by
        rcases List.mem_cons.mp hx with z | z
        · exact ⟨_, by simp [XT], z⟩
        · exact ⟨_, by simp [XT], List.mem_singleton.mp z⟩
      have hh := hset _ (hw.deed ht q.1 q.2)
      refine ⟨rows.set j ⟨r.word, r.tests, r.deeds ++ [t], r.opens⟩, d3, hh.1, hh.2.1, hh.2.2, hd3, ?_⟩
      have q1 := q.1
      have q2 : (((r.deeds.length : Nat) : Int) < 3) = True := eq_true (by omega)
      have q3 : (r.deeds.length + 1 ≤ LB) = True := eq_true (by omega)
      push_cast [q1, q2, q3, Int.reduceEq, h4, h1l, h2l, List.length_map, hix, hpk, plusF_l]
      rw [← hmset]
      unfold rowT
      simp
    · refine ⟨rows, d2, hstay.1, hstay.2.1, hstay.2.2, f2, ?_⟩
      by_cases q1 : ("learn" : Str) ∈ r.deeds
      · have q2 : (((r.deeds.length : Nat) : Int) < 3) = False := eq_false (fun z => q ⟨q1, by omega⟩)
        push_cast [q1, q2, Int.reduceEq, List.length_map]
      · push_cast [q1, Int.reduceEq, List.length_map]
  · refine ⟨rows.set j ⟨r.word, r.tests, [], r.opens⟩, d2, (hset _ hw.bare).1, (hset _ hw.bare).2.1, (hset _ hw.bare).2.2, f2, ?_⟩
    push_cast [Int.reduceEq, h4, h0l, List.length_map, hix]
    rw [← hmset]
    rfl
  · have hin : inF false (.str r.word) (.tup [.str "next", .str "near", .str "far"]) = some (.bl (decide (r.word ∈ (["next", "near", "far"] : List Str)))) := (inF_strsT (neg := false) (ss := ["next", "near", "far"])).trans (by rw [Bool.false_xor])
    by_cases q : r.word ∈ (["next", "near", "far"] : List Str)
    · have hl2 : r.word ∈ cc_LEARNING := by
        simp only [List.mem_cons, List.not_mem_nil, or_false] at q
        unfold cc_LEARNING
        simp only [List.mem_cons, List.not_mem_nil, or_false]
        rcases q with q | q | q
        · exact .inl q
        · exact .inr (.inl q)
        · exact .inr (.inr (.inl q))
      have hh := hset _ (hw.learn hl2)
      refine ⟨rows.set j ⟨r.word, r.tests, ["learn"], r.opens⟩, d2, hh.1, hh.2.1, hh.2.2, f2, ?_⟩
      push_cast [Int.reduceEq, h4, h1l, h3l, List.length_map, hix, hin, decide_eq_true q]
      rw [← hmset]
      rfl
    · refine ⟨rows, d2, hstay.1, hstay.2.1, hstay.2.2, f2, ?_⟩
      push_cast [Int.reduceEq, h3l, hin, decide_eq_false q, List.length_map]
  · by_cases q : rows.length < 9
    · have hc1 : DK.cutD (rows.map rowT) none (some (j : Int)) = (rows.take j).map rowT := cut_to hj
      have hc2 : DK.cutD (rows.map rowT) (some (j : Int)) none = (rows.drop j).map rowT := cut_from hj
      refine ⟨rows.take j ++ [⟨r.word, ["marked k"], [], decide (r.word = "house") || !r.opens⟩] ++ rows.drop j, d2, ?_, ?_, ?_, f2, ?_⟩
      · intro x hx
        rcases List.mem_append.mp hx with z | z
        · rcases List.mem_append.mp z with z | z
          · exact hr x (List.mem_of_mem_take z)
          · rw [List.mem_singleton.mp z]; exact hw.marked
        · exact hr x (List.mem_of_mem_drop z)
      · simp
      · rw [List.length_append, List.length_append, List.length_take, List.length_drop, List.length_singleton]
        omega
      · have q2 : (((rows.length : Nat) : Int) < 9) = True := eq_true (by omega)
        have z1 : (min j rows.length + 1 ≤ LB) = True := eq_true (by omega)
        have z2 : (min j rows.length + 1 + (rows.length - j) ≤ LB) = True := eq_true (by omega)
        have z3 : ((rows.take j).length + 1 ≤ LB) = True := eq_true (by rw [List.length_take]; omega)
        have z4 : ∀ v : D, (((rows.take j).map rowT ++ [v]).length + (rows.drop j).length ≤ LB) = True := fun v => eq_true (by rw [List.length_append, List.length_map, List.length_take, List.length_drop, List.length_singleton]; omega)
        have hm : ∀ b : Bool, (rows.take j ++ [(⟨r.word, ["marked k"], [], b⟩ : RowM)] ++ rows.drop j).map rowT = (rows.take j).map rowT ++ [D.tup [.str r.word, .lst [.str "marked k"], .lst [], .bl b]] ++ (rows.drop j).map rowT := fun b => by
          rw [List.map_append, List.map_append]
          rfl
        rw [hm]
        by_cases qh : r.word = "house"
        · push_cast [Int.reduceEq, h4, h1l, h0l, List.length_map, q2, slF_ls, hc1, hc2, plusF_l, z3, z4, qh, Bool.true_or]
        · push_cast [Int.reduceEq, h4, h1l, h0l, List.length_map, q2, slF_ls, hc1, hc2, plusF_l, z3, z4, qh, Bool.false_or]
    · refine ⟨rows, d2, hstay.1, hstay.2.1, hstay.2.2, f2, ?_⟩
      have q2 : (((rows.length : Nat) : Int) < 9) = False := eq_false (by omega)
      push_cast [Int.reduceEq, List.length_map, q2]
end DX

namespace DX
open PySem PySem.Spec L2 DK
local macro_rules
  | `(tactic| push_cast [$ts,*]) => `(tactic| simp only [q_seq, q_ifS, q_if, q_and, q_or, q_not, q_andV, q_orV, q_notV, q_test, q_op, q_un, q_asg, q_ret, q_drop, q_cons, q_dat, q_dat1, q_tup, q_lst, q_call, q_meth, q_for, q_lc, q_seqI, q_sl, q_var, q_c, q_nil, q_next, q_cont, q_break, q_retN, q_yes, q_noPart, q_partB, q_isN, q_ixB, q_fld, q_enum, q_par, q_body, varW_some, view_val, view_loc, viewM_lst, viewM_frz, isBl_bl, partW_int, name_set, ixW_val, ixF_l, ixF_t, fld_row_word, fld_row_tests, fld_row_deeds, fld_row_opens, fld_tool_window, fld_tool_rows, fld_tool_marks, recv_row, recv_tool, bodyE_rt, bodyE_nx, exit_any, exit_dst, negF_int, plusF_int, minusF_int, ltF_int, leF_int, gtF_int, geF_int, eqF_int, eqF_str, eqF_bl, intF_int, maxF_int, minF_int, lenF_l, lenF_t, lenF_s, tupF_l, tupF_t, lstF_l, lstF_t, strF_s, seqOf_t, seqOf_l, guard_val, guard_loc, isNW_val, isNW_loc, enumW_1, parW_2, tup_set, cons_set, nil_set, frzL_nil, frzL_cons, frz1_val, frz1_loc, frzM_lst, frzM_frz, ofS, ite_bind, Option.bind_some, then_nx, then_rt, then_ct, then_bk, start, List.length_cons, List.length_nil, List.map_cons, List.map_nil, List.replicate, List.cons_append, List.nil_append, List.append_nil, List.getElem?_cons_succ, List.getElem?_cons_zero, List.set_cons_succ, List.set_cons_zero, Nat.sub_self, Nat.reduceSub, Nat.reduceAdd, Nat.reduceEqDiff, if_true, if_false, reduceIte, decide_eq_true_eq, decide_true, decide_false, Bool.false_xor, Bool.true_xor, Nat.zero_add, eq_self, String.reduceEq, Bool.false_eq_true, wipeE, List.foldl_cons, List.foldl_nil, Bool.not_true, Bool.not_false, inF_strsT, inF_strsL, q_fldS, fldSW_0, q_make, isNon_int, isNon_non, isNon_bl, isNon_str, isNon_tup, isNon_lst, q_lcM, q_setI, q_addM, addW_val, seqOf_loc, seqM_lst, seqM_frz, ixW_loc, ixM_lsW, ixM_lst, ixM_frz, setIW_loc, setIM_lst, exit_val, exit_loc, exitV_if, List.take_succ_cons, List.take_zero, List.take_nil, List.all_cons, List.all_nil, Bool.and_true, Bool.true_and, Bool.and_self, Nat.reduceLT, Nat.reduceLeDiff, Nat.zero_le, Nat.lt_add_one, exitM_lst, exitM_frz, below_lst, below_frz, below_dK, below_scr, below_lsW, below_ins, below_dW, wbelow_val, wbelow_loc, q_append, appA_loc, appW_1, appM_lst, q_lstOfM, lstM_lst, q_lstM, q_rng1, standB_none, standB_some, standM_lst, standM_frz, q_join, joinA_str, q_joined, q_jNil, q_jCons, jW_str, q_star, q_own1, ownW_val, okStr_str, isIns_row, isIns_tool, q_kget, kgetW_str, q_indexC, indexW_lst, q_makeL, mkL_cls, q_cmeth, cmW_cls, q_star1, star1W_cons, q_chain, chainW_bl, chainE_bl, q_eqOwn, fmtF_s, and_self, $ts,*])
variable {μ : Mu}
theorem bent_l (d : Dl) (rows : List RowM) (hd : d.1.length ≤ 1000) (hr : ∀ r ∈ rows, RW r) (h0 : rows ≠ []) (h9 : rows.length ≤ 9) : ∃ (rows' : List RowM) (d' : Dl), (∀ r ∈ rows', RW r) ∧ rows' ≠ [] ∧ rows'.length ≤ 9 ∧ d'.1.length ≤ 1000 ∧ f_law_bent [.loc 1, .loc 2] [.lst (d.1.map D.int), .lsW [.loc 0, .val (.int d.2)], .lst (rows.map rowT)] = some (.val (.lst (rows'.map rowT)), [.lst (d'.1.map D.int), .lsW [.loc 0, .val (.int d'.2)], .lst (rows.map rowT)]) := by
  have hlb : LB = 100000 := rfl
  have hp : 0 < rows.length := List.length_pos_iff.mpr h0
  have hl : ((rows.map rowT).length ≤ LB) = True := eq_true (by rw [List.length_map]; omega)
  obtain ⟨k, d1, k0, k1, k2, hk⟩ := draw_ex d ((rows.map rowT).length : Nat) hd (by rw [List.length_map]; omega) (by rw [List.length_map]; omega)
  obtain ⟨f, d2, f0, f1, f2, hf⟩ := draw_ex d1 7 k2 (by omega) (by omega)
  obtain ⟨j, rfl⟩ := Int.eq_ofNat_of_zero_le k0
  have hj : j < rows.length := by rw [List.length_map] at k1; omega
  have hrm : rows[j] ∈ rows := List.getElem_mem hj
  have hat : atI (rows.map rowT) (j : Int) = some (rowT rows[j]) := at_map (L2.atI_nat (List.getElem?_eq_getElem hj))
  have hix : ixN rows.length (j : Int) = some j := ixN_n hj
  have hw := hr _ hrm
  generalize rows[j] = r at hrm hat hw
  have hset : ∀ r', RW r' → (∀ q ∈ rows.set j r', RW q) ∧ rows.set j r' ≠ [] ∧ (rows.set j r').length ≤ 9 := fun r' h' => ⟨fun q hq => by
    rcases List.mem_or_eq_of_mem_set hq with z | z
    · exact hr q z
    · rw [z]; exact h', fun z => by
    have := congrArg List.length z
    rw [List.length_set, List.length_nil] at this
    omega, by rw [List.length_set]; exact h9⟩
  have hmset : ∀ r', (rows.map rowT).set j (rowT r') = (rows.set j r').map rowT := fun r' => by rw [List.map_set]
  have h4 : (4 ≤ LB) = True := eq_true (by omega)
  have h1l : (1 ≤ LB) = True := eq_true (by omega)
  have h2l : (2 ≤ LB) = True := eq_true (by omega)
  have h3l : (3 ≤ LB) = True := eq_true (by omega)
  have h0l : (0 ≤ LB) = True := eq_true (by omega)
  unfold f_law_bent m_law_bent
  push_cast [hl]
  rw [copy_rows (by push_cast [eq_self]) (by simp)]
  push_cast [hk, hf, ixW_3, hat, row_set]
  have hstay : (∀ q ∈ rows, RW q) ∧ rows ≠ [] ∧ rows.length ≤ 9 := ⟨hr, h0, h9⟩
  have hff : f = 0 ∨ f = 1 ∨ f = 2 ∨ f = 3 ∨ f = 4 ∨ f = 5 ∨ f = 6 := by omega
  rcases hff with rfl | rfl | rfl | rfl | rfl | rfl | rfl
  · by_cases q : 1 < rows.length
    · have hc1 : DK.cutD (rows.map rowT) none (some (j : Int)) = (rows.take j).map rowT := cut_to hj
      have hc2 : DK.cutD (rows.map rowT) (some ((j : Int) + 1)) none = (rows.drop (j + 1)).map rowT := cut_from1 hj
      refine ⟨rows.take j ++ rows.drop (j + 1), d2, ?_, ?_, ?_, f2, ?_⟩
      · intro x hx
        rcases List.mem_append.mp hx with z | z
        · exact hr x (List.mem_of_mem_take z)
        · exact hr x (List.mem_of_mem_drop z)
      · intro z
        have := congrArg List.length z
        rw [List.length_append, List.length_take, List.length_drop, List.length_nil] at this
        omega
      · rw [List.length_append, List.length_take, List.length_drop]
        omega
      · have q2 : ((1 : Int) < ((rows.length : Nat) : Int)) = True := eq_true (by omega)
        have z3 : ((rows.take j).length + (rows.drop (j + 1)).length ≤ LB) = True := eq_true (by rw [List.length_take, List.length_drop]; omega)
        rw [List.map_append]
        push_cast [Int.reduceEq, List.length_map, q2, slF_ls, hc1, hc2, plusF_l, z3]
    · refine ⟨rows, d2, hstay.1, hstay.2.1, hstay.2.2, f2, ?_⟩
      have q2 : ((1 : Int) < ((rows.length : Nat) : Int)) = False := eq_false (by omega)
      push_cast [Int.reduceEq, List.length_map, q2]
  · by_cases q : r.word = "house"
    · refine ⟨rows, d2, hstay.1, hstay.2.1, hstay.2.2, f2, ?_⟩
      push_cast [q, Int.reduceEq]
    · refine ⟨rows.set j ⟨r.word, r.tests, r.deeds, !r.opens⟩, d2, (hset _ (hw.flip q)).1, (hset _ (hw.flip q)).2.1, (hset _ (hw.flip q)).2.2, f2, ?_⟩
      push_cast [q, Int.reduceEq, h4, List.length_map, hix]
      rw [← hmset]
      rfl
  · by_cases q : r.tests.length < 2
    · obtain ⟨x, d3, hx, hd3, hpk⟩ := pick_ex d2 [.str "marked k", .str "not marked k"] f2 (by simp) (by simp)
      obtain ⟨t, ht, rfl⟩ : ∃ t, t ∈ XT.ts ∧ x = D.str t := by
        rcases List.mem_cons.mp hx with z | z
        · exact ⟨_, by simp [XT], z⟩
        · exact ⟨_, by simp [XT], List.mem_singleton.mp z⟩
      have hh := hset _ (hw.test ht q)
      refine ⟨rows.set j ⟨r.word, r.tests ++ [t], r.deeds, r.opens⟩, d3, hh.1, hh.2.1, hh.2.2, hd3, ?_⟩
      have q2 : (((r.tests.length : Nat) : Int) < 2) = True := eq_true (by omega)
      have q3 : (r.tests.length + 1 ≤ LB) = True := eq_true (by omega)
      push_cast [q2, q3, Int.reduceEq, h4, h1l, h2l, List.length_map, hix, hpk, plusF_l]
      rw [← hmset]
      unfold rowT
      simp
    · refine ⟨rows, d2, hstay.1, hstay.2.1, hstay.2.2, f2, ?_⟩
      have q2 : (((r.tests.length : Nat) : Int) < 2) = False := eq_false (by omega)
      push_cast [q2, Int.reduceEq, List.length_map]
  · by_cases q : ("learn" : Str) ∈ r.deeds ∧ r.deeds.length < 3
    · obtain ⟨x, d3, hx, hd3, hpk⟩ := pick_ex d2 [.str "mark k", .str "clear k"] f2 (by simp) (by simp)
      obtain ⟨t, ht, rfl⟩ : ∃ t, t ∈ XT.ds ∧ x = D.str t := by
        rcases List.mem_cons.mp hx with z | z
        · exact ⟨_, by simp [XT], z⟩
        · exact ⟨_, by simp [XT], List.mem_singleton.mp z⟩
      have hh := hset _ (hw.deed ht q.1 q.2)
      refine ⟨rows.set j ⟨r.word, r.tests, r.deeds ++ [t], r.opens⟩, d3, hh.1, hh.2.1, hh.2.2, hd3, ?_⟩
      have q1 := q.1
      have q2 : (((r.deeds.length : Nat) : Int) < 3) = True := eq_true (by omega)
      have q3 : (r.deeds.length + 1 ≤ LB) = True := eq_true (by omega)
      push_cast [q1, q2, q3, Int.reduceEq, h4, h1l, h2l, List.length_map, hix, hpk, plusF_l]
      rw [← hmset]
      unfold rowT
      simp
    · refine ⟨rows, d2, hstay.1, hstay.2.1, hstay.2.2, f2, ?_⟩
      by_cases q1 : ("learn" : Str) ∈ r.deeds
      · have q2 : (((r.deeds.length : Nat) : Int) < 3) = False := eq_false (fun z => q ⟨q1, by omega⟩)
        push_cast [q1, q2, Int.reduceEq, List.length_map]
      · push_cast [q1, Int.reduceEq, List.length_map]
  · refine ⟨rows.set j ⟨r.word, r.tests, [], r.opens⟩, d2, (hset _ hw.bare).1, (hset _ hw.bare).2.1, (hset _ hw.bare).2.2, f2, ?_⟩
    push_cast [Int.reduceEq, h4, h0l, List.length_map, hix]
    rw [← hmset]
    rfl
  · have hin : inF false (.str r.word) (.tup [.str "next", .str "near", .str "far"]) = some (.bl (decide (r.word ∈ (["next", "near", "far"] : List Str)))) := (inF_strsT (neg := false) (ss := ["next", "near", "far"])).trans (by rw [Bool.false_xor])
    by_cases q : r.word ∈ (["next", "near", "far"] : List Str)
    · have hl2 : r.word ∈ cc_LEARNING := by
        simp only [List.mem_cons, List.not_mem_nil, or_false] at q
        unfold cc_LEARNING
        simp only [List.mem_cons, List.not_mem_nil, or_false]
        rcases q with q | q | q
        · exact .inl q
        · exact .inr (.inl q)
        · exact .inr (.inr (.inl q))
      have hh := hset _ (hw.learn hl2)
      refine ⟨rows.set j ⟨r.word, r.tests, ["learn"], r.opens⟩, d2, hh.1, hh.2.1, hh.2.2, f2, ?_⟩
      push_cast [Int.reduceEq, h4, h1l, h3l, List.length_map, hix, hin, decide_eq_true q]
      rw [← hmset]
      rfl
    · refine ⟨rows, d2, hstay.1, hstay.2.1, hstay.2.2, f2, ?_⟩
      push_cast [Int.reduceEq, h3l, hin, decide_eq_false q, List.length_map]
  · by_cases q : rows.length < 9
    · have hc1 : DK.cutD (rows.map rowT) none (some (j : Int)) = (rows.take j).map rowT := cut_to hj
      have hc2 : DK.cutD (rows.map rowT) (some (j : Int)) none = (rows.drop j).map rowT := cut_from hj
      refine ⟨rows.take j ++ [⟨r.word, ["marked k"], [], decide (r.word = "house") || !r.opens⟩] ++ rows.drop j, d2, ?_, ?_, ?_, f2, ?_⟩
      · intro x hx
        rcases List.mem_append.mp hx with z | z
        · rcases List.mem_append.mp z with z | z
          · exact hr x (List.mem_of_mem_take z)
          · rw [List.mem_singleton.mp z]; exact hw.marked
        · exact hr x (List.mem_of_mem_drop z)
      · simp
      · rw [List.length_append, List.length_append, List.length_take, List.length_drop, List.length_singleton]
        omega
      · have q2 : (((rows.length : Nat) : Int) < 9) = True := eq_true (by omega)
        have z1 : (min j rows.length + 1 ≤ LB) = True := eq_true (by omega)
        have z2 : (min j rows.length + 1 + (rows.length - j) ≤ LB) = True := eq_true (by omega)
        have z3 : ((rows.take j).length + 1 ≤ LB) = True := eq_true (by rw [List.length_take]; omega)
        have z4 : ∀ v : D, (((rows.take j).map rowT ++ [v]).length + (rows.drop j).length ≤ LB) = True := fun v => eq_true (by rw [List.length_append, List.length_map, List.length_take, List.length_drop, List.length_singleton]; omega)
        have hm : ∀ b : Bool, (rows.take j ++ [(⟨r.word, ["marked k"], [], b⟩ : RowM)] ++ rows.drop j).map rowT = (rows.take j).map rowT ++ [D.tup [.str r.word, .lst [.str "marked k"], .lst [], .bl b]] ++ (rows.drop j).map rowT := fun b => by
          rw [List.map_append, List.map_append]
          rfl
        rw [hm]
        by_cases qh : r.word = "house"
        · push_cast [Int.reduceEq, h4, h1l, h0l, List.length_map, q2, slF_ls, hc1, hc2, plusF_l, z3, z4, qh, Bool.true_or]
        · push_cast [Int.reduceEq, h4, h1l, h0l, List.length_map, q2, slF_ls, hc1, hc2, plusF_l, z3, z4, qh, Bool.false_or]
    · refine ⟨rows, d2, hstay.1, hstay.2.1, hstay.2.2, f2, ?_⟩
      have q2 : (((rows.length : Nat) : Int) < 9) = False := eq_false (by omega)
      push_cast [Int.reduceEq, List.length_map, q2]
end DX

/-! DXLe: the laws' drawn tools. -/
namespace DX
open PySem PySem.Spec L2 DK
local macro_rules
  | `(tactic| push_cast [$ts,*]) => `(tactic| simp only [q_seq, q_ifS, q_if, q_and, q_or, q_not, q_andV, q_orV, q_notV, q_test, q_op, q_un, q_asg, q_ret, q_drop, q_cons, q_dat, q_dat1, q_tup, q_lst, q_call, q_meth, q_for, q_lc, q_seqI, q_sl, q_var, q_c, q_nil, q_next, q_cont, q_break, q_retN, q_yes, q_noPart, q_partB, q_isN, q_ixB, q_fld, q_enum, q_par, q_body, varW_some, view_val, view_loc, viewM_lst, viewM_frz, isBl_bl, partW_int, name_set, ixW_val, ixF_l, ixF_t, fld_row_word, fld_row_tests, fld_row_deeds, fld_row_opens, fld_tool_window, fld_tool_rows, fld_tool_marks, recv_row, recv_tool, bodyE_rt, bodyE_nx, exit_any, exit_dst, negF_int, plusF_int, minusF_int, ltF_int, leF_int, gtF_int, geF_int, eqF_int, eqF_str, eqF_bl, intF_int, maxF_int, minF_int, lenF_l, lenF_t, lenF_s, tupF_l, tupF_t, lstF_l, lstF_t, strF_s, seqOf_t, seqOf_l, guard_val, guard_loc, isNW_val, isNW_loc, enumW_1, parW_2, tup_set, cons_set, nil_set, frzL_nil, frzL_cons, frz1_val, frz1_loc, frzM_lst, frzM_frz, ofS, ite_bind, Option.bind_some, then_nx, then_rt, then_ct, then_bk, start, List.length_cons, List.length_nil, List.map_cons, List.map_nil, List.replicate, List.cons_append, List.nil_append, List.append_nil, List.getElem?_cons_succ, List.getElem?_cons_zero, List.set_cons_succ, List.set_cons_zero, Nat.sub_self, Nat.reduceSub, Nat.reduceAdd, Nat.reduceEqDiff, if_true, if_false, reduceIte, decide_eq_true_eq, decide_true, decide_false, Bool.false_xor, Bool.true_xor, Nat.zero_add, eq_self, String.reduceEq, Bool.false_eq_true, wipeE, List.foldl_cons, List.foldl_nil, Bool.not_true, Bool.not_false, inF_strsT, inF_strsL, q_fldS, fldSW_0, q_make, isNon_int, isNon_non, isNon_bl, isNon_str, isNon_tup, isNon_lst, q_lcM, q_setI, q_addM, addW_val, seqOf_loc, seqM_lst, seqM_frz, ixW_loc, ixM_lsW, ixM_lst, ixM_frz, setIW_loc, setIM_lst, exit_val, exit_loc, exitV_if, List.take_succ_cons, List.take_zero, List.take_nil, List.all_cons, List.all_nil, Bool.and_true, Bool.true_and, Bool.and_self, Nat.reduceLT, Nat.reduceLeDiff, Nat.zero_le, Nat.lt_add_one, exitM_lst, exitM_frz, below_lst, below_frz, below_dK, below_scr, below_lsW, below_ins, below_dW, wbelow_val, wbelow_loc, q_append, appA_loc, appW_1, appM_lst, q_lstOfM, lstM_lst, q_lstM, q_rng1, standB_none, standB_some, standM_lst, standM_frz, q_join, joinA_str, q_joined, q_jNil, q_jCons, jW_str, q_star, q_own1, ownW_val, okStr_str, isIns_row, isIns_tool, q_kget, kgetW_str, q_indexC, indexW_lst, q_makeL, mkL_cls, q_cmeth, cmW_cls, q_star1, star1W_cons, q_chain, chainW_bl, chainE_bl, q_eqOwn, fmtF_s, and_self, $ts,*])
variable {μ : Mu}
/-- a loop whose body keeps an invariant -/
theorem loop_all {g : RG} {b : RS} {c : Option (Nat × List D)} {I : Env' → Mu → Prop} : ∀ {xs : List D} {ρ : Env'} {μ : Mu}, (∀ x ρ μ, x ∈ xs → I ρ μ → ∃ ρ1 ρ2 μ2, g (.val x) ρ = some ρ1 ∧ (b ρ1 μ = some (.nx ρ2 μ2) ∨ b ρ1 μ = some (.ct ρ2 μ2)) ∧ standB c μ2 = true ∧ I ρ2 μ2) → I ρ μ → ∃ ρ2 μ2, loopR g b c xs ρ μ = some (.nx ρ2 μ2) ∧ I ρ2 μ2
  | [], ρ, μ, _, h => ⟨ρ, μ, rfl, h⟩
  | x :: xs, ρ, μ, hs, h => by
    obtain ⟨ρ1, ρ2, μ2, e1, e2, e3, e4⟩ := hs x ρ μ (by simp) h
    obtain ⟨ρ3, μ3, e5, e6⟩ := loop_all (xs := xs) (fun y ρ μ hy => hs y ρ μ (List.mem_cons_of_mem _ hy)) e4
    refine ⟨ρ3, μ3, ?_, e6⟩
    rw [loop_cons, e1]
    rcases e2 with e2 | e2 <;> simp only [Option.bind_some, e2, e3, if_true, e5]
structure Good (k : Nat) (rows : List RowM) : Prop where
  rw : ∀ r ∈ rows, RW r
  ne : rows ≠ []
  le : rows.length ≤ k
theorem Good.app {k : Nat} {rows : List RowM} {r : RowM} (h : Good k rows) (hr : RW r) : Good (k + 1) (rows ++ [r]) := ⟨fun x hx => by
  rcases List.mem_append.mp hx with z | z
  · exact h.rw x z
  · rw [List.mem_singleton.mp z]; exact hr, by simp, by rw [List.length_append, List.length_singleton]; have := h.le; omega⟩
theorem Good.mono {k l : Nat} {rows : List RowM} (h : Good k rows) (hl : k ≤ l) : Good l rows := ⟨h.rw, h.ne, Nat.le_trans h.le hl⟩
theorem Good.perm {k : Nat} {rows rows' : List RowM} (h : Good k rows) (p : rows'.Perm rows) : Good k rows' := ⟨fun r hr => h.rw r (p.mem_iff.mp hr), fun z => h.ne (by subst z; exact p.symm.eq_nil), by rw [p.length_eq]; exact h.le⟩
def rowB (r : RowM) : Bool := decide (r.word ∈ cc_WORDS) && r.tests.all (fun s => decide (s ∈ XT.ts)) && r.deeds.all (fun s => decide (s ∈ XT.ds)) && decide (r.deeds = [] ∨ r.word ∈ cc_LEARNING ∧ ("learn" : Str) ∈ r.deeds) && decide (r.opens = true ∨ r.word ≠ "house") && decide (r.tests.length ≤ 2) && decide (r.deeds.length ≤ 3)
theorem rowB_ok {r : RowM} (h : rowB r = true) : RW r := by
  unfold rowB at h
  simp only [Bool.and_eq_true, decide_eq_true_eq, List.all_eq_true] at h
  obtain ⟨⟨⟨⟨⟨⟨h1, h2⟩, h3⟩, h4⟩, h5⟩, h6⟩, h7⟩ := h
  exact ⟨⟨h1, h2, by omega, h3, by omega, h4, h5⟩, h6, h7⟩
def rows0 : List RowM := [⟨"same", [], [], true⟩, ⟨"next", [], ["learn"], true⟩, ⟨"near", [], ["learn"], true⟩]
theorem good0 : Good 3 rows0 := ⟨fun r hr => rowB_ok (List.all_eq_true.mp (show rows0.all rowB = true by kernel_rfl) r hr), by simp [rows0], by simp [rows0]⟩
theorem tool_p1 {d : Dl} {w : Option W} : m_law_tool_p1 [some (.loc 1), w, none, none] (MO.lst (List.map D.int (Prod.fst d)) :: MO.lsW [W.loc 0, W.val (D.int (Prod.snd d))] :: ([])) = some (.nx [some (.loc 1), w, some (.loc 2), none] (MO.lst (List.map D.int (Prod.fst d)) :: MO.lsW [W.loc 0, W.val (D.int (Prod.snd d))] :: ([.lst (rows0.map rowT)]))) := by
  unfold m_law_tool_p1
  kernel_rfl
theorem map_rowT {rows : List RowM} {r : RowM} : rows.map rowT ++ [rowT r] = (rows ++ [r]).map rowT := by rw [List.map_append]; rfl
theorem tool_p3 {d : Dl} {w x : Option W} {k : Nat} {rows : List RowM} (hd : d.1.length ≤ 1000) (h : Good k rows) (hk : k ≤ 50) : ∃ (d' : Dl) (rows' : List RowM), d'.1.length ≤ 1000 ∧ Good (k + 1) rows' ∧ m_law_tool_p3 [some (.loc 1), w, some (.loc 2), x] (MO.lst (List.map D.int (Prod.fst d)) :: MO.lsW [W.loc 0, W.val (D.int (Prod.snd d))] :: ([.lst (rows.map rowT)])) = some (.nx [some (.loc 1), w, some (.loc 2), x] (MO.lst (List.map D.int (Prod.fst d')) :: MO.lsW [W.loc 0, W.val (D.int (Prod.snd d'))] :: ([.lst (rows'.map rowT)]))) := by
  obtain ⟨i, d1, k0, k1, hd1, h1⟩ := draw_ex d 3 hd (by omega) (by omega)
  have hlb : LB = 100000 := rfl
  have hl : ((rows.map rowT).length < LB) = True := eq_true (by rw [List.length_map]; have := h.le; omega)
  by_cases hi : i = 0
  · obtain ⟨y, d2, hy, hd2, h2⟩ := pick_ex d1 [.lst [], .lst [.str "learn"]] hd1 (by simp) (by simp)
    obtain ⟨j, d3, j0, j1, hd3, h3⟩ := draw_ex d2 2 hd2 (by omega) (by omega)
    obtain ⟨ls, hls, rfl⟩ : ∃ ls : List Str, (ls = [] ∨ ls = [("learn" : Str)]) ∧ y = .lst (ls.map D.str) := by
      rcases List.mem_cons.mp hy with z | z
      · exact ⟨[], .inl rfl, z⟩
      · exact ⟨[("learn" : Str)], .inr rfl, List.mem_singleton.mp z⟩
    have hr : RW ⟨"far", [], ls, decide (j = 0)⟩ := by
      apply rowB_ok
      rcases hls with rfl | rfl <;> cases decide (j = 0) <;> kernel_rfl
    refine ⟨d3, rows ++ [⟨"far", [], ls, decide (j = 0)⟩], hd3, h.app hr, ?_⟩
    unfold m_law_tool_p3 m_law_tool_p2
    rw [← map_rowT]
    have z1 : (1 ≤ LB) = True := eq_true (by omega)
    have z2 : (2 ≤ LB) = True := eq_true (by omega)
    have z4 : (4 ≤ LB) = True := eq_true (by omega)
    push_cast [h1, hi, h2, h3, hl, z1, z2, z4]
    rfl
  · refine ⟨d1, rows, hd1, h.mono (by omega), ?_⟩
    unfold m_law_tool_p3
    push_cast [h1, hi]
theorem tool_p5 {d : Dl} {w x : Option W} {k : Nat} {rows : List RowM} (hd : d.1.length ≤ 1000) (h : Good k rows) (hk : k ≤ 50) : ∃ (d' : Dl) (rows' : List RowM), d'.1.length ≤ 1000 ∧ Good (k + 1) rows' ∧ m_law_tool_p5 [some (.loc 1), w, some (.loc 2), x] (MO.lst (List.map D.int (Prod.fst d)) :: MO.lsW [W.loc 0, W.val (D.int (Prod.snd d))] :: ([.lst (rows.map rowT)])) = some (.nx [some (.loc 1), w, some (.loc 2), x] (MO.lst (List.map D.int (Prod.fst d')) :: MO.lsW [W.loc 0, W.val (D.int (Prod.snd d'))] :: ([.lst (rows'.map rowT)]))) := by
  obtain ⟨i, d1, k0, k1, hd1, h1⟩ := draw_ex d 3 hd (by omega) (by omega)
  have hlb : LB = 100000 := rfl
  have hl : ((rows.map rowT).length < LB) = True := eq_true (by rw [List.length_map]; have := h.le; omega)
  by_cases hi : i = 0
  · obtain ⟨y, d2, hy, hd2, h2⟩ := pick_ex d1 [.str "last", .str "elder"] hd1 (by simp) (by simp)
    obtain ⟨s, hs, rfl⟩ : ∃ s : Str, (s = "last" ∨ s = "elder") ∧ y = .str s := by
      rcases List.mem_cons.mp hy with z | z
      · exact ⟨_, .inl rfl, z⟩
      · exact ⟨_, .inr rfl, List.mem_singleton.mp z⟩
    have hr : RW ⟨s, [], [], true⟩ := by
      apply rowB_ok
      rcases hs with rfl | rfl <;> kernel_rfl
    refine ⟨d2, rows ++ [⟨s, [], [], true⟩], hd2, h.app hr, ?_⟩
    unfold m_law_tool_p5 m_law_tool_p4
    rw [← map_rowT]
    have z2 : (2 ≤ LB) = True := eq_true (by omega)
    have z4 : (4 ≤ LB) = True := eq_true (by omega)
    push_cast [h1, hi, h2, hl, z2, z4]
    rfl
  · refine ⟨d1, rows, hd1, h.mono (by omega), ?_⟩
    unfold m_law_tool_p5
    push_cast [h1, hi]
theorem tool_p7 {d : Dl} {w x : Option W} {k : Nat} {rows : List RowM} (hd : d.1.length ≤ 1000) (h : Good k rows) (hk : k ≤ 50) : ∃ (d' : Dl) (rows' : List RowM), d'.1.length ≤ 1000 ∧ Good (k + 1) rows' ∧ m_law_tool_p7 [some (.loc 1), w, some (.loc 2), x] (MO.lst (List.map D.int (Prod.fst d)) :: MO.lsW [W.loc 0, W.val (D.int (Prod.snd d))] :: ([.lst (rows.map rowT)])) = some (.nx [some (.loc 1), w, some (.loc 2), x] (MO.lst (List.map D.int (Prod.fst d')) :: MO.lsW [W.loc 0, W.val (D.int (Prod.snd d'))] :: ([.lst (rows'.map rowT)]))) := by
  obtain ⟨i, d1, k0, k1, hd1, h1⟩ := draw_ex d 2 hd (by omega) (by omega)
  have hlb : LB = 100000 := rfl
  have hl : ((rows.map rowT).length < LB) = True := eq_true (by rw [List.length_map]; have := h.le; omega)
  by_cases hi : i = 0
  · have hr : RW ⟨"house", [], ["learn"], true⟩ := by
      apply rowB_ok
      kernel_rfl
    refine ⟨d1, rows ++ [⟨"house", [], ["learn"], true⟩], hd1, h.app hr, ?_⟩
    unfold m_law_tool_p7 m_law_tool_p6
    rw [← map_rowT]
    have z1 : (1 ≤ LB) = True := eq_true (by omega)
    have z4 : (4 ≤ LB) = True := eq_true (by omega)
    push_cast [h1, hi, hl, z1, z4]
    rfl
  · refine ⟨d1, rows, hd1, h.mono (by omega), ?_⟩
    unfold m_law_tool_p7
    push_cast [h1, hi]
theorem bent_vx (d : Dl) (rows : List RowM) (hd : d.1.length ≤ 1000) (h : Good 9 rows) : ∃ (d' : Dl) (rows' : List RowM), d'.1.length ≤ 1000 ∧ Good 9 rows' ∧ ∀ t, callX f_law_bent [.loc 1, .val (.lst (rows.map rowT))] (MO.lst (List.map D.int (Prod.fst d)) :: MO.lsW [W.loc 0, W.val (D.int (Prod.snd d))] :: (t)) = some (.val (.lst (rows'.map rowT)), (MO.lst (List.map D.int (Prod.fst d')) :: MO.lsW [W.loc 0, W.val (D.int (Prod.snd d'))] :: (t))) := by
  obtain ⟨rows', d', h1, h2, h3, h4, h5⟩ := bent_v d rows hd h.rw h.ne h.le
  exact ⟨d', rows', h4, ⟨h1, h2, h3⟩, fun t => callX_deal rfl h5⟩
theorem bent_lx (d : Dl) (rows : List RowM) (hd : d.1.length ≤ 1000) (h : Good 9 rows) : ∃ (d' : Dl) (rows' : List RowM), d'.1.length ≤ 1000 ∧ Good 9 rows' ∧ ∀ t, callX f_law_bent [.loc 1, .loc 2] (MO.lst (List.map D.int (Prod.fst d)) :: MO.lsW [W.loc 0, W.val (D.int (Prod.snd d))] :: (.lst (rows.map rowT) :: t)) = some (.val (.lst (rows'.map rowT)), (MO.lst (List.map D.int (Prod.fst d')) :: MO.lsW [W.loc 0, W.val (D.int (Prod.snd d'))] :: (.lst (rows.map rowT) :: t))) := by
  obtain ⟨rows', d', h1, h2, h3, h4, h5⟩ := bent_l d rows hd h.rw h.ne h.le
  exact ⟨d', rows', h4, ⟨h1, h2, h3⟩, fun t => callX_front (μ0 := (MO.lst (List.map D.int (Prod.fst d)) :: MO.lsW [W.loc 0, W.val (D.int (Prod.snd d))] :: ([.lst (rows.map rowT)]))) (μ1 := (MO.lst (List.map D.int (Prod.fst d')) :: MO.lsW [W.loc 0, W.val (D.int (Prod.snd d'))] :: ([.lst (rows.map rowT)]))) (rest := t) rfl rfl h5 rfl⟩
theorem mixed_vx (d : Dl) (xs : List D) (hd : d.1.length ≤ 1000) (hx : xs.length < 1000) : ∀ t, callX f_law_mixed [.loc 1, .val (.lst xs)] (MO.lst (List.map D.int (Prod.fst d)) :: MO.lsW [W.loc 0, W.val (D.int (Prod.snd d))] :: (t)) = some (.val (.lst (mixedM xs d)), (MO.lst (List.map D.int (Prod.fst (mixedD xs d))) :: MO.lsW [W.loc 0, W.val (D.int (Prod.snd (mixedD xs d)))] :: (t))) := fun t => by
  have hlb : LB = 100000 := rfl
  have := e_mixed (d := d) (w := .val (.lst xs)) (xs := xs) (v := .lst xs) (t := []) (by omega) rfl rfl hx rfl rfl
  exact callX_deal rfl this
theorem mixed_lx (d : Dl) (xs : List D) (hd : d.1.length ≤ 1000) (hx : xs.length < 1000) : ∀ t, callX f_law_mixed [.loc 1, .loc 2] (MO.lst (List.map D.int (Prod.fst d)) :: MO.lsW [W.loc 0, W.val (D.int (Prod.snd d))] :: (.lst xs :: t)) = some (.val (.lst (mixedM xs d)), (MO.lst (List.map D.int (Prod.fst (mixedD xs d))) :: MO.lsW [W.loc 0, W.val (D.int (Prod.snd (mixedD xs d)))] :: (.lst xs :: t))) := fun t => by
  have hlb : LB = 100000 := rfl
  have := e_mixed (d := d) (w := .loc 2) (xs := xs) (v := .lst xs) (t := [.lst xs]) (by omega) rfl rfl hx rfl rfl
  exact callX_front (μ0 := (MO.lst (List.map D.int (Prod.fst d)) :: MO.lsW [W.loc 0, W.val (D.int (Prod.snd d))] :: ([.lst xs]))) (μ1 := (MO.lst (List.map D.int (Prod.fst (mixedD xs d))) :: MO.lsW [W.loc 0, W.val (D.int (Prod.snd (mixedD xs d)))] :: ([.lst xs]))) (rest := t) rfl rfl this rfl
theorem mixed_vr {α : Type} (f : α → D) (d : Dl) (xs : List α) (hd : d.1.length ≤ 1000) (hx : xs.length < 1000) : ∃ (d' : Dl) (ys : List α), d'.1.length ≤ 1000 ∧ ys.Perm xs ∧ ∀ t, callX f_law_mixed [.loc 1, .val (.lst (xs.map f))] (MO.lst (List.map D.int (Prod.fst d)) :: MO.lsW [W.loc 0, W.val (D.int (Prod.snd d))] :: (t)) = some (.val (.lst (ys.map f)), (MO.lst (List.map D.int (Prod.fst d')) :: MO.lsW [W.loc 0, W.val (D.int (Prod.snd d'))] :: (t))) :=
  ⟨mixedD (xs.map f) d, mixedM xs d, Nat.le_trans (mixedD_len _ _) hd, mixedM_perm _ _, fun t => by
    rw [mixed_vx d (xs.map f) hd (by rw [List.length_map]; exact hx) t, mixedM_map]⟩
theorem mixed_lr {α : Type} (f : α → D) (d : Dl) (xs : List α) (hd : d.1.length ≤ 1000) (hx : xs.length < 1000) : ∃ (d' : Dl) (ys : List α), d'.1.length ≤ 1000 ∧ ys.Perm xs ∧ ∀ t, callX f_law_mixed [.loc 1, .loc 2] (MO.lst (List.map D.int (Prod.fst d)) :: MO.lsW [W.loc 0, W.val (D.int (Prod.snd d))] :: (.lst (xs.map f) :: t)) = some (.val (.lst (ys.map f)), (MO.lst (List.map D.int (Prod.fst d')) :: MO.lsW [W.loc 0, W.val (D.int (Prod.snd d'))] :: (.lst (xs.map f) :: t))) :=
  ⟨mixedD (xs.map f) d, mixedM xs d, Nat.le_trans (mixedD_len _ _) hd, mixedM_perm _ _, fun t => by
    rw [mixed_lx d (xs.map f) hd (by rw [List.length_map]; exact hx) t, mixedM_map]⟩
def ToolI (w : W) (ρ : Env') (μ : Mu) : Prop := ∃ (d : Dl) (rows : List RowM) (xs : List D) (v : W) (x : Option W), d.1.length ≤ 1000 ∧ Good 9 rows ∧ ρ = [some (.loc 1), some w, some v, x] ∧ ((v = .loc 2 ∧ μ = (MO.lst (List.map D.int (Prod.fst d)) :: MO.lsW [W.loc 0, W.val (D.int (Prod.snd d))] :: ([.lst (rows.map rowT)]))) ∨ (v = .val (.lst (rows.map rowT)) ∧ μ = (MO.lst (List.map D.int (Prod.fst d)) :: MO.lsW [W.loc 0, W.val (D.int (Prod.snd d))] :: ([.lst xs]))))
theorem tool_p9l {d1 : Dl} {k : Int} {w : W} {rows : List RowM} (hd1 : d1.1.length ≤ 1000) (h : Good 9 rows) : ∃ ρ2 μ2, loopR (hName 3) m_law_tool_1 none (rangeD 0 k.toNat) [some (.loc 1), some w, some (.loc 2), none] (MO.lst (List.map D.int (Prod.fst d1)) :: MO.lsW [W.loc 0, W.val (D.int (Prod.snd d1))] :: ([.lst (rows.map rowT)])) = some (.nx ρ2 μ2) ∧ ToolI w ρ2 μ2 := by
  exact loop_all (g := hName 3) (b := m_law_tool_1) (c := none) (I := ToolI w) (xs := rangeD 0 k.toNat) (ρ := [some (.loc 1), some w, some (.loc 2), none]) (μ := (MO.lst (List.map D.int (Prod.fst d1)) :: MO.lsW [W.loc 0, W.val (D.int (Prod.snd d1))] :: ([.lst (rows.map rowT)]))) (by
    rintro x ρ μ - ⟨d, rows, xs, v, y, hd, h, rfl, hv⟩
    rcases hv with ⟨rfl, rfl⟩ | ⟨rfl, rfl⟩
    · obtain ⟨d2, rows2, e1, e2, e3⟩ := bent_lx d rows hd h
      refine ⟨_, [some (.loc 1), some w, some (.val (.lst (rows2.map rowT))), some (.val x)], (MO.lst (List.map D.int (Prod.fst d2)) :: MO.lsW [W.loc 0, W.val (D.int (Prod.snd d2))] :: ([.lst (rows.map rowT)])), rfl, .inl ?_, rfl, ⟨d2, rows2, _, _, _, e1, e2, rfl, .inr ⟨rfl, rfl⟩⟩⟩
      unfold m_law_tool_1 m_law_tool_p8
      push_cast [e3]
    · obtain ⟨d2, rows2, e1, e2, e3⟩ := bent_vx d rows hd h
      refine ⟨_, [some (.loc 1), some w, some (.val (.lst (rows2.map rowT))), some (.val x)], (MO.lst (List.map D.int (Prod.fst d2)) :: MO.lsW [W.loc 0, W.val (D.int (Prod.snd d2))] :: ([.lst xs])), rfl, .inl ?_, rfl, ⟨d2, rows2, _, _, _, e1, e2, rfl, .inr ⟨rfl, rfl⟩⟩⟩
      unfold m_law_tool_1 m_law_tool_p8
      push_cast [e3]) ⟨d1, rows, [], _, _, hd1, h, rfl, .inl ⟨rfl, rfl⟩⟩
theorem tool_p9 {d : Dl} {w : W} {rows : List RowM} (hd : d.1.length ≤ 1000) (h : Good 9 rows) : ∃ ρ2 μ2, ToolI w ρ2 μ2 ∧ m_law_tool_p9 [some (.loc 1), some w, some (.loc 2), none] (MO.lst (List.map D.int (Prod.fst d)) :: MO.lsW [W.loc 0, W.val (D.int (Prod.snd d))] :: ([.lst (rows.map rowT)])) = some (.nx ρ2 μ2) := by
  obtain ⟨k, d1, k0, k1, hd1, h1⟩ := draw_ex d 4 hd (by omega) (by omega)
  have this := tool_p9l (k := k) (w := w) hd1 h
  obtain ⟨ρ2, μ2, e1, e2⟩ := this
  refine ⟨ρ2, μ2, e2, ?_⟩
  unfold m_law_tool_p9
  push_cast [h1, rng_ok k0 (by omega), e1]
theorem tool_p10 {ρ : Env'} {μ : Mu} {n : Int} (hn : 0 < n) (hn2 : n < 1000) (h : ToolI (.val (.int n)) ρ μ) : ∃ (d : Dl) (T : ToolM) (t : Mu), d.1.length ≤ 1000 ∧ Good 9 T.rows ∧ 1 ≤ T.window ∧ T.window ≤ n ∧ m_law_tool_p10 ρ μ = some (.rt (.val (toolT T)) (MO.lst (List.map D.int (Prod.fst d)) :: MO.lsW [W.loc 0, W.val (D.int (Prod.snd d))] :: (t))) := by
  obtain ⟨d, rows, xs, v, x, hd, h, rfl, hv⟩ := h
  have hlb : LB = 100000 := rfl
  obtain ⟨k, d1, k0, k1, hd1, h1⟩ := draw_ex d n hd (by omega) (by omega)
  obtain ⟨j, d2, j0, j1, hd2, h2⟩ := draw_ex d1 2 hd1 (by omega) (by omega)
  have z2 : (2 ≤ LB) = True := eq_true (by omega)
  have hm : rows.length < 1000 := by have := h.le; omega
  rcases hv with ⟨rfl, rfl⟩ | ⟨rfl, rfl⟩
  · by_cases hj : j = 0
    · obtain ⟨d3, ys, hd3, hp, h3⟩ := mixed_lr rowT d2 rows hd2 hm
      refine ⟨d3, ⟨1 + k, ys⟩, [.lst (rows.map rowT)], hd3, h.perm hp, by show 1 ≤ 1 + k; omega, by show 1 + k ≤ n; omega, ?_⟩
      unfold m_law_tool_p10
      generalize f_law_mixed = fm at h3 ⊢
      push_cast [h1, h2, hj, h3, z2, toolT]
    · refine ⟨d2, ⟨1 + k, rows⟩, [.frz (rows.map rowT)], hd2, h, by show 1 ≤ 1 + k; omega, by show 1 + k ≤ n; omega, ?_⟩
      unfold m_law_tool_p10
      push_cast [h1, h2, hj, z2, toolT]
  · by_cases hj : j = 0
    · obtain ⟨d3, ys, hd3, hp, h3⟩ := mixed_vr rowT d2 rows hd2 hm
      refine ⟨d3, ⟨1 + k, ys⟩, [.lst xs], hd3, h.perm hp, by show 1 ≤ 1 + k; omega, by show 1 + k ≤ n; omega, ?_⟩
      unfold m_law_tool_p10
      generalize f_law_mixed = fm at h3 ⊢
      push_cast [h1, h2, hj, h3, z2, toolT]
    · refine ⟨d2, ⟨1 + k, rows⟩, [.lst xs], hd2, h, by show 1 ≤ 1 + k; omega, by show 1 + k ≤ n; omega, ?_⟩
      unfold m_law_tool_p10
      push_cast [h1, h2, hj, z2, toolT]
theorem tool_ex (d : Dl) (n : Int) (hd : d.1.length ≤ 1000) (hn : 0 < n) (hn2 : n < 1000) : ∃ (d' : Dl) (T : ToolM), d'.1.length ≤ 1000 ∧ Good 9 T.rows ∧ 1 ≤ T.window ∧ T.window ≤ n ∧ ∀ t, callX f_law_tool [.loc 1, .val (.int n)] (MO.lst (List.map D.int (Prod.fst d)) :: MO.lsW [W.loc 0, W.val (D.int (Prod.snd d))] :: (t)) = some (.val (toolT T), (MO.lst (List.map D.int (Prod.fst d')) :: MO.lsW [W.loc 0, W.val (D.int (Prod.snd d'))] :: (t))) := by
  obtain ⟨d1, r1, a1, a2, a3⟩ := tool_p3 (d := d) (w := some (.val (.int n))) (x := none) hd good0 (by omega)
  obtain ⟨d2, r2, b1, b2, b3⟩ := tool_p5 (w := some (.val (.int n))) (x := none) a1 a2 (by omega)
  obtain ⟨d3, r3, c1, c2, c3⟩ := tool_p7 (w := some (.val (.int n))) (x := none) b1 b2 (by omega)
  obtain ⟨ρ4, μ4, e1, e2⟩ := tool_p9 (w := .val (.int n)) c1 (c2.mono (by omega))
  obtain ⟨d5, T, t5, f1, f2, f3, f4, f5⟩ := tool_p10 hn hn2 e1
  refine ⟨d5, T, f1, f2, f3, f4, fun t => callX_deal rfl ?_⟩
  unfold f_law_tool m_law_tool
  push_cast [tool_p1, a3, b3, c3, e2, f5]
end DX

namespace DX.K09
open PySem PySem.Spec L2 DK
def m_law_p1 : RS :=
  mAsg (mCall f_law_deal [] (mCons (mVar 0) (mCons (mC (.int 0)) mNil))) (hName 1)
def m_law_p2 : RS :=
  mPar 3 4 (mCons (mCall f_law_tool [] (mCons (mVar 1) (mCons (mC (.int 3)) mNil))) (mCons (mCall f_law_tool [] (mCons (mVar 1) (mCons (mC (.int 3)) mNil))) mNil))
def m_law_p3 : RS :=
  mAsg (mTup (mCons (mIx (mVar 3) (mC (.int 0))) (mCons (mSl (mOp plusF (mOp plusF (mIx (mVar 3) (mC (.int 1))) (mCall f_law_mixed [] (mCons (mVar 1) (mCons (mIx (mVar 4) (mC (.int 1))) mNil)))) (mIx (mVar 3) (mC (.int 1)))) mNoPart (mPart (mC (.int 12)))) mNil))) (hName 3)
def m_law_p4 : RS :=
  mPar 5 6 (mCons (mCall f_law_made [] (mCons (mVar 3) mNil)) (mCons (mCall f_law_made [] (mCons (mVar 4) mNil)) mNil))
def m_law_p5 : RS :=
  mPar 8 9 (mCons (mCall f_law_draw [] (mCons (mVar 1) (mCons (mC (.int 9)) mNil))) (mCons (mSl (mCall f_law_mixed [] (mCons (mVar 1) (mCons (mLst (mCons (mC (.str "a")) (mCons (mC (.str "k")) (mCons (mC (.str "zz")) mNil)))) mNil))) mNoPart (mPart (mCall f_law_draw [] (mCons (mVar 1) (mCons (mC (.int 4)) mNil))))) mNil))
def m_law_p6 : RS :=
  mAsg (mOp maxF (mC (.int 1)) (mUn intF (mOp plusF (mVar 8) (mCall f_law_pick [] (mCons (mVar 1) (mCons (mLst (mCons (mC (.int 0)) (mCons (mC (.int 1)) (mCons (mC (.int 2)) (mCons (mC (.int 3)) (mCons (mC (.int 4)) (mCons (mC (.int 9)) (mCons (mOp minusF (mC (.int 0)) (mC (.int 1))) (mCons (mOp minusF (mC (.int 0)) (mC (.int 2))) (mCons (mOp minusF (mC (.int 0)) (mC (.int 5))) mNil)))))))))) mNil)))))) (hName 10)
def m_law_p7 : RS :=
  mAsg (mCall f_law_answer [] (mCons (mVar 3) (mCons (mVar 8) (mCons (mUn tupF (mUn sortF (mLc (kSeq (mVar 9)) (hName 11) mYes (mUn strF (mVar 11)) [11]))) (mCons (mVar 10) mNil))))) (hName 12)
def m_law_p8 : RS :=
  mAsg (mUn lstF (mVar 9)) (hName 13)
def m_law_p9 : RS :=
  mRet (mC (.bl false))
def m_law_p10 : RS :=
  mIfS (mOr (mTest (mReprC true (mMeth "Tool" "answer" f_Tool_answer [] (mVar 5) (mCons (mVar 8) (mCons (mVar 13) (mCons (mVar 10) mNil)))) (mVar 12))) (mTest (mOp (eqF true) (mVar 13) (mVar 9)))) (m_law_p9) mNext
def m_law_p11 : RS :=
  mRet (mC (.bl false))
def m_law_p12 : RS :=
  mIfS (mTest (mReprC true (mIx (mMeth "Tool" "answer" f_Tool_answer [] (mVar 6) (mCons (mVar 8) (mCons (mVar 9) (mCons (mVar 10) mNil)))) (mC (.int 3))) (mIx (mCall f_law_answer [] (mCons (mVar 4) (mCons (mVar 8) (mCons (mUn tupF (mVar 9)) (mCons (mVar 10) mNil))))) (mC (.int 3))))) (m_law_p11) mNext
def m_law_p13 : RS :=
  mRet (mC (.bl false))
def m_law_p14 : RS :=
  mIfS (mTest (mReprC true (mMeth "Tool" "answer" f_Tool_answer [] (mVar 5) (mCons (mVar 8) (mCons (mUn tupF (mVar 9)) (mCons (mVar 10) mNil)))) (mVar 12))) (m_law_p13) mNext
def m_law_1 : RS :=
  (mSeq (m_law_p5)
      (mSeq (m_law_p6)
      (mSeq (m_law_p7)
      (mSeq (m_law_p8)
      (mSeq (m_law_p10)
      (mSeq (m_law_p12)
      (m_law_p14)))))))
def m_law_p15 : RS :=
  mFor (kRng1 (mCons (mC (.int 10)) mNil)) (hName 7) m_law_1
def m_law_2 : RS :=
  (mSeq (m_law_p2)
      (mSeq (m_law_p3)
      (mSeq (m_law_p4)
      (m_law_p15))))
def m_law_p16 : RS :=
  mFor (kRng1 (mCons (mC (.int 8)) mNil)) (hName 2) m_law_2
def m_law_p17 : RS :=
  mRet (mC (.bl true))
def m_law : RS :=
  (mSeq (m_law_p1)
      (mSeq (m_law_p16)
      (m_law_p17)))
def f_law : FX := bodyF true 1 14 m_law

end DX.K09

/-! DXSh: data that can be shown. -/
namespace DX
open PySem PySem.Spec L2 DK
/-- can be shown, with a cost and a depth -/
structure Sh (c n : Nat) (d : D) : Prop where
  py : pyOk d = true
  sh : (toPy d).showable = true
  dp : (toPy d).depth ≤ n
  st : strsIn d = true
  co : showCost d ≤ c
theorem Sh.b {c n : Nat} {d : D} (h : Sh c n d) (hn : n ≤ 60) (hc : c ≤ SB) : showsB d = true := by
  unfold showsB
  rw [h.py, h.sh, h.st, decide_eq_true (Nat.le_trans h.dp hn), decide_eq_true (Nat.le_trans h.co hc)]
  rfl
theorem Sh.mono {c n c' n' : Nat} {d : D} (h : Sh c n d) (hc : c ≤ c') (hn : n ≤ n') : Sh c' n' d := ⟨h.py, h.sh, Nat.le_trans h.dp hn, h.st, Nat.le_trans h.co hc⟩
theorem sh_non : Sh 5 1 .non := ⟨rfl, rfl, by decide, rfl, by decide⟩
theorem sh_bl {b : Bool} : Sh 5 1 (.bl b) := ⟨rfl, rfl, by cases b <;> decide, rfl, by cases b <;> decide⟩
theorem sh_int {i : Int} (h : i.natAbs < 1000000) : Sh 8 1 (.int i) := by
  refine ⟨rfl, ?_, by show 0 ≤ 1; decide, rfl, ?_⟩
  · show decide (i.natAbs.log2 < 1920) = true
    apply decide_eq_true
    by_cases h0 : i.natAbs = 0
    · rw [h0]; decide
    · rw [Nat.log2_lt h0]
      exact Nat.lt_of_lt_of_le h (Nat.le_trans (by decide : 1000000 ≤ 2 ^ 20) (Nat.pow_le_pow_right (by decide) (by decide)))
  · show (if Nat.blt i.natAbs 1000000 = true then 8 else 2000) ≤ 8
    rw [if_pos (by simp [Nat.blt]; omega)]
    exact Nat.le_refl 8
theorem sh_str {s : Str} (h : s.cps.all (· < 0x110000) = true) : Sh (10 * s.length + 4) 1 (.str s) := ⟨rfl, rfl, by show 0 ≤ 1; decide, h, Nat.le_refl _⟩
theorem shL {c n : Nat} : ∀ {xs : List D}, (∀ x ∈ xs, Sh c n x) → pyOkL xs = true ∧ PyData.showableAll (toPyL xs) = true ∧ PyData.depthAll (toPyL xs) ≤ n ∧ strsInL xs = true ∧ showCostL xs ≤ (c + 2) * xs.length
  | [], _ => ⟨rfl, rfl, Nat.zero_le _, rfl, Nat.zero_le _⟩
  | x :: xs, h => by
    obtain ⟨h1, h2, h3, h4, h5⟩ := shL (xs := xs) (fun y hy => h y (List.mem_cons_of_mem _ hy))
    have hx := h x (by simp)
    refine ⟨by rw [pyOkL, hx.py, h1]; rfl, by rw [toPyL, PyData.showableAll, hx.sh, h2]; rfl, ?_, by rw [strsInL, hx.st, h4]; rfl, ?_⟩
    · rw [toPyL, PyData.depthAll]
      exact Nat.max_le.mpr ⟨hx.dp, h3⟩
    · rw [showCostL, List.length_cons, Nat.mul_succ]
      have := hx.co
      omega
theorem sh_tup {c n : Nat} {xs : List D} (h : ∀ x ∈ xs, Sh c n x) : Sh ((c + 2) * xs.length + 3) (n + 1) (.tup xs) := by
  obtain ⟨h1, h2, h3, h4, h5⟩ := shL h
  refine ⟨h1, h2, ?_, h4, ?_⟩
  · show PyData.depth (.tuple (toPyL xs)) ≤ n + 1
    rw [PyData.depth]
    omega
  · show showCostL xs + 3 ≤ _
    omega
theorem sh_lst {c n : Nat} {xs : List D} (h : ∀ x ∈ xs, Sh c n x) : Sh ((c + 2) * xs.length + 3) (n + 1) (.lst xs) := by
  obtain ⟨h1, h2, h3, h4, h5⟩ := shL h
  refine ⟨h1, h2, ?_, h4, ?_⟩
  · show PyData.depth (.list (toPyL xs)) ≤ n + 1
    rw [PyData.depth]
    omega
  · show showCostL xs + 3 ≤ _
    omega
end DX

/-! DXLg: the laws' answers for any marks; tools that are good. -/
namespace DX
open PySem PySem.Spec L2 DK
local macro_rules
  | `(tactic| push_cast [$ts,*]) => `(tactic| simp only [q_seq, q_ifS, q_if, q_and, q_or, q_not, q_andV, q_orV, q_notV, q_test, q_op, q_un, q_asg, q_ret, q_drop, q_cons, q_dat, q_dat1, q_tup, q_lst, q_call, q_meth, q_for, q_lc, q_seqI, q_sl, q_var, q_c, q_nil, q_next, q_cont, q_break, q_retN, q_yes, q_noPart, q_partB, q_isN, q_ixB, q_fld, q_enum, q_par, q_body, varW_some, view_val, view_loc, viewM_lst, viewM_frz, isBl_bl, partW_int, name_set, ixW_val, ixF_l, ixF_t, fld_row_word, fld_row_tests, fld_row_deeds, fld_row_opens, fld_tool_window, fld_tool_rows, fld_tool_marks, recv_row, recv_tool, bodyE_rt, bodyE_nx, exit_any, exit_dst, negF_int, plusF_int, minusF_int, ltF_int, leF_int, gtF_int, geF_int, eqF_int, eqF_str, eqF_bl, intF_int, maxF_int, minF_int, lenF_l, lenF_t, lenF_s, tupF_l, tupF_t, lstF_l, lstF_t, strF_s, seqOf_t, seqOf_l, guard_val, guard_loc, isNW_val, isNW_loc, enumW_1, parW_2, tup_set, cons_set, nil_set, frzL_nil, frzL_cons, frz1_val, frz1_loc, frzM_lst, frzM_frz, ofS, ite_bind, Option.bind_some, then_nx, then_rt, then_ct, then_bk, start, List.length_cons, List.length_nil, List.map_cons, List.map_nil, List.replicate, List.cons_append, List.nil_append, List.append_nil, List.getElem?_cons_succ, List.getElem?_cons_zero, List.set_cons_succ, List.set_cons_zero, Nat.sub_self, Nat.reduceSub, Nat.reduceAdd, Nat.reduceEqDiff, if_true, if_false, reduceIte, decide_eq_true_eq, decide_true, decide_false, Bool.false_xor, Bool.true_xor, Nat.zero_add, eq_self, String.reduceEq, Bool.false_eq_true, wipeE, List.foldl_cons, List.foldl_nil, Bool.not_true, Bool.not_false, inF_strsT, inF_strsL, q_fldS, fldSW_0, q_make, isNon_int, isNon_non, isNon_bl, isNon_str, isNon_tup, isNon_lst, q_lcM, q_setI, q_addM, addW_val, seqOf_loc, seqM_lst, seqM_frz, ixW_loc, ixM_lsW, ixM_lst, ixM_frz, setIW_loc, setIM_lst, exit_val, exit_loc, exitV_if, List.take_succ_cons, List.take_zero, List.take_nil, List.all_cons, List.all_nil, Bool.and_true, Bool.true_and, Bool.and_self, Nat.reduceLT, Nat.reduceLeDiff, Nat.zero_le, Nat.lt_add_one, exitM_lst, exitM_frz, below_lst, below_frz, below_dK, below_scr, below_lsW, below_ins, below_dW, wbelow_val, wbelow_loc, q_append, appA_loc, appW_1, appM_lst, q_lstOfM, lstM_lst, q_lstM, q_rng1, standB_none, standB_some, standM_lst, standM_frz, q_join, joinA_str, q_joined, q_jNil, q_jCons, jW_str, q_star, q_own1, ownW_val, okStr_str, isIns_row, isIns_tool, q_kget, kgetW_str, q_indexC, indexW_lst, q_makeL, mkL_cls, q_cmeth, cmW_cls, q_star1, star1W_cons, q_chain, chainW_bl, chainE_bl, q_eqOwn, fmtF_s, and_self, $ts,*])
variable {ρ : Env'} {μ : Mu}
theorem fits1_mem {a b : List Str} (h : ∀ s, s ∈ a ↔ s ∈ b) {t : Str} : fits1 a t = fits1 b t := by
  unfold fits1
  rw [show decide (lst (wds t) ∈ a) = decide (lst (wds t) ∈ b) from decide_eq_decide.mpr (h _)]
theorem fitsM_mem {a b : List Str} (h : ∀ s, s ∈ a ↔ s ∈ b) {ts : List Str} : fitsM ts a = fitsM ts b := by
  unfold fitsM
  rw [show fits1 a = fits1 b from funext fun t => fits1_mem h]
theorem rowForM_mem {a b : List Str} (h : ∀ s, s ∈ a ↔ s ∈ b) {rs : List RowM} {w : Str} : rowForM rs w a = rowForM rs w b := by
  unfold rowForM
  rw [show fitP w a = fitP w b from funext fun p => by unfold fitP; rw [fitsM_mem h]]
theorem rowForM_srt {ms : List Str} {rs : List RowM} {w : Str} : rowForM rs w (srt ms) = rowForM rs w ms := rowForM_mem fun s => (srt_perm ms).mem_iff
theorem behind_srt {ds ms : List Str} (h : ∀ s ∈ ds, deedOk2 s = true) (n : ms.Nodup) : behindM ds (srt ms) = behindM ds ms := by
  have n2 : (srt ms).Nodup := (srt_perm ms).nodup_iff.mpr n
  rw [← kept_behind h n2, ← kept_behind h n]
  refine srt_uniq (srt_srt _) (srt_srt _) ((srt_perm _).trans (List.Perm.trans ?_ (srt_perm _).symm))
  exact (kept_all h (List.Perm.refl _) n2).trans (kept_all h (srt_perm ms).symm n).symm
theorem srt_idem {ms : List Str} : srt (srt ms) = srt ms := srt_uniq (srt_srt _) (srt_srt _) (srt_perm _)
/-- the law's answer is the tool's -/
theorem e_lanswerU {T : ToolM} {n c : Int} {m : D} {marks : List Str} (hm : m = .tup (marks.map D.str)) (ht : ∀ r ∈ T.rows, r.tests.length ≤ 1000 ∧ ∀ t ∈ r.tests, testOk t = true) (hd : ∀ r ∈ T.rows, ∀ s ∈ r.deeds, deedOk2 s = true) (hr : ∀ r ∈ T.rows, r.tests.length + r.deeds.length < 32) (hz : marks.length < 32) (hn : marks.Nodup) : callX f_law_answer [.val (toolT T), .val (.int n), .val m, .val (.int c)] μ = some (.val (answerM T n marks c), μ) := by
  refine callX_pure rfl ?_
  subst hm
  have hlb : LB = 100000 := rfl
  have h4 : (4 ≤ LB) = True := eq_true (by omega)
  unfold f_law_answer m_law_answer
  push_cast [e_lword]
  rw [e_lrow_done (marks := marks) rfl ht]
  unfold answerM
  rw [rowForM_srt]
  have hp : ∀ q, rowForM T.rows (wordM T.window (c - n)) marks = some q → T.rows[q.1]? = some q.2 := fun q e => by
    have := (enumR_at (List.mem_of_find?_eq_some e)).2
    simpa using this
  have hdd := fun μ => e_ldeeds (μ := μ) (T := T) (n := n) (c := c) (m := .tup (marks.map D.str)) (marks := marks) (p := rowForM T.rows (wordM T.window (c - n)) marks) rfl hp hd hr hz hn
  push_cast [hdd]
  cases e : rowForM T.rows (wordM T.window (c - n)) marks with
  | none => push_cast [atD, h4, keptP, lateP]
  | some q =>
    have hat : atI (T.rows.map rowT) ((q.1 : Nat) : Int) = some (rowT q.2) := at_map (L2.atI_nat (hp q e))
    have hmem : q.2 ∈ T.rows := List.mem_of_getElem? (hp q e)
    have hb := behind_srt (hd _ hmem) hn
    push_cast [atD, h4, ix_tool, at1, hat, ix_row, at3, keptP, lateP, hb]
/-! ### good tools -/
theorem texts_len {k : Nat} : ∀ {rows : List RowM}, (∀ r ∈ rows, r.tests.length + r.deeds.length ≤ k) → (textsM rows).length ≤ k * rows.length
  | [], _ => by simp [textsM]
  | r :: rows, h => by
    have ih := texts_len (rows := rows) fun x hx => h x (List.mem_cons_of_mem _ hx)
    have h1 := h r (by simp)
    unfold textsM at ih ⊢
    rw [List.flatMap_cons, List.length_append, List.length_cons, Nat.mul_succ]
    have h2 := List.length_filter_le hasSp (r.tests ++ r.deeds)
    rw [List.length_append] at h2
    omega
theorem Good.tool {rows : List RowM} {w : Int} (h : Good 12 rows) (hw : 1 ≤ w) : ToolOk XT ⟨w, rows⟩ := ⟨hw, by
    have := texts_len (k := 5) (rows := rows) fun r hr => by have := (h.rw r hr).t2; have := (h.rw r hr).d3; omega
    have := h.le
    show (textsM rows).length < 64
    omega, by have := h.le; show rows.length ≤ 1000; omega, fun r hr => by have := (h.rw r hr).t2; have := (h.rw r hr).d3; omega, fun r hr => (h.rw r hr).ok⟩
theorem XTok : TxtOk XT := ⟨XT_ok, fun s hs => (XT_de s hs).1⟩
/-- the law's answer of a good tool -/
theorem Good.ans {rows : List RowM} {w n c : Int} {marks : List Str} (h : Good 12 rows) (hz : marks.length < 32) (hn : marks.Nodup) : callX f_law_answer [.val (toolT ⟨w, rows⟩), .val (.int n), .val (.tup (marks.map D.str)), .val (.int c)] μ = some (.val (answerM ⟨w, rows⟩ n marks c), μ) :=
  e_lanswerU rfl (fun r hr => ⟨(h.rw r hr).ok.zt, fun t ht => XT_te t ((h.rw r hr).ok.ts t ht)⟩) (fun r hr s hs => (XT_de s ((h.rw r hr).ok.ds s hs)).2) (fun r hr => by have := (h.rw r hr).t2; have := (h.rw r hr).d3; omega) hz hn
theorem Good.made {rows : List RowM} {w : Int} (h : Good 12 rows) (hw : 1 ≤ w) : callX f_law_made [.val (toolT ⟨w, rows⟩)] μ = some (.val (ToolM.d ⟨w, rows⟩), μ) := e_lmade XT_ok (h.tool hw)
/-! ### answers that are shown -/
theorem addK_mems : ∀ {ms ks : List Str} {s : Str}, s ∈ ms.foldl addK ks → s ∈ ks ∨ s ∈ ms
  | [], ks, s, h => .inl h
  | m :: ms, ks, s, h => by
    rcases addK_mems (ms := ms) (ks := addK ks m) h with h | h
    · rcases addK_mem h with h | h
      · exact .inl h
      · exact .inr (by rw [h]; simp)
    · exact .inr (List.mem_cons_of_mem _ h)
theorem deedM_mems : ∀ {ds ks : List Str} {s : Str}, s ∈ ds.foldl deedM ks → s ∈ ks ∨ ∃ d ∈ ds, s = (wds d).getD 1 ""
  | [], ks, s, h => .inl h
  | d :: ds, ks, s, h => by
    rcases deedM_mems (ds := ds) (ks := deedM ks d) h with h | ⟨e, he, h⟩
    · unfold deedM at h
      split at h
      · rcases addK_mem h with h | h
        · exact .inl h
        · exact .inr ⟨d, by simp, h⟩
      · split at h
        · exact .inl (List.mem_filter.mp h).1
        · exact .inl h
    · exact .inr ⟨e, List.mem_cons_of_mem _ he, h⟩
theorem behind_mem {ds ms : List Str} {s : Str} (h : s ∈ behindM ds ms) : s ∈ ms ∨ ∃ d ∈ ds, s = (wds d).getD 1 "" := by
  unfold behindM at h
  rcases deedM_mems ((srt_perm _).mem_iff.mp h) with h | h
  · rcases addK_mems h with h | h
    · cases h
    · exact .inl h
  · exact .inr h
theorem behind_len {ds ms : List Str} : (behindM ds ms).length ≤ ms.length + ds.length := by
  unfold behindM
  rw [(srt_perm _).length_eq]
  have h1 := deedM_lenF (ms := ds) (ks := ms.foldl addK [])
  have h2 := addK_lenF (ms := ms) (ks := [])
  rw [List.length_nil] at h2
  omega
/-- a short text -/
def shortB (s : Str) : Bool := decide (s.length ≤ 20) && s.cps.all (· < 0x110000)
theorem shortB_sh {s : Str} (h : shortB s = true) : Sh 204 1 (.str s) := by
  unfold shortB at h
  rw [Bool.and_eq_true] at h
  have := of_decide_eq_true h.1
  exact (sh_str h.2).mono (by omega) (Nat.le_refl _)
theorem XT_names : ∀ s ∈ XT.ds, shortB ((wds s).getD 1 "") = true := by
  have : (XT.ds.all fun s => shortB ((wds s).getD 1 "")) = true := by kernel_rfl
  exact fun s hs => List.all_eq_true.mp this s hs
theorem marks_sh {ms : List Str} (h : ∀ s ∈ ms, shortB s = true) (hl : ms.length ≤ 40) : Sh 8243 2 (.tup (ms.map D.str)) := by
  refine (sh_tup (c := 204) (n := 1) fun x hx => ?_).mono ?_ (Nat.le_refl _)
  · obtain ⟨s, hs, rfl⟩ := List.mem_map.mp hx
    exact shortB_sh (h s hs)
  · rw [List.length_map]
    omega
theorem enumR_lt {rs : List RowM} {p : Nat × RowM} (h : p ∈ enumR 0 rs) : p.1 < rs.length := by
  have := (List.getElem?_eq_some_iff.mp (enumR_at h).2).1
  simpa using this
theorem Good.rowAt {rows : List RowM} {w : Str} {marks : List Str} {p : Nat × RowM} (e : rowForM rows w marks = some p) : p.1 < rows.length ∧ p.2 ∈ rows := by
  have hm := List.mem_of_find?_eq_some e
  exact ⟨enumR_lt hm, List.mem_of_getElem? (enumR_at hm).2⟩
theorem Good.sh {rows : List RowM} {w n c : Int} {marks : List Str} (h : Good 12 rows) (hs : ∀ s ∈ marks, shortB s = true) (hz : marks.length ≤ 20) (hn : n.natAbs < 1000000) (hc : c.natAbs < 1000000) : Sh 32983 3 (answerM ⟨w, rows⟩ n marks c) := by
  have hss : ∀ s ∈ srt marks, shortB s = true := fun s q => hs s ((srt_perm marks).mem_iff.mp q)
  have hsl : (srt marks).length = marks.length := (srt_perm marks).length_eq
  unfold answerM
  cases e : rowForM rows (wordM w (c - n)) (srt marks) with
  | none =>
    refine (sh_tup (c := 8243) (n := 2) fun x hx => ?_).mono (by simp) (Nat.le_refl _)
    simp only [List.mem_cons, List.not_mem_nil, or_false] at hx
    rcases hx with rfl | rfl | rfl | rfl
    · exact sh_bl.mono (by omega) (by omega)
    · exact (sh_int hn).mono (by omega) (by omega)
    · exact marks_sh hss (by omega)
    · exact sh_non.mono (by omega) (by omega)
  | some p =>
    obtain ⟨hp1, hp2⟩ := Good.rowAt e
    have hle := h.le
    have hrw := h.rw _ hp2
    refine (sh_tup (c := 8243) (n := 2) fun x hx => ?_).mono (by simp) (Nat.le_refl _)
    simp only [List.mem_cons, List.not_mem_nil, or_false] at hx
    rcases hx with rfl | rfl | rfl | rfl
    · exact sh_bl.mono (by omega) (by omega)
    · split
      · exact (sh_int hc).mono (by omega) (by omega)
      · exact (sh_int hn).mono (by omega) (by omega)
    · refine marks_sh (fun s q => ?_) ?_
      · rcases behind_mem q with q | ⟨d, hd, q⟩
        · exact hss s q
        · rw [q]; exact XT_names d (hrw.ok.ds d hd)
      · have := behind_len (ds := p.2.deeds) (ms := srt marks)
        have := hrw.d3
        omega
    · exact (sh_int (by omega)).mono (by omega) (by omega)
/-! ### cuts, repr -/
theorem cut_take {xs : List D} {n : Nat} : DK.cutD xs none (some (n : Int)) = xs.take n := by
  unfold DK.cutD
  rw [HT.sIx_none, HT.sIx_nat, List.drop_zero, Nat.sub_zero, List.take_eq_take_iff]
  omega
theorem q_reprC {neg : Bool} {a b : RE} : mReprC neg a b ρ μ = (a ρ μ).bind fun p => (view p.2 p.1).bind fun d => if showsB d = true then (b ρ p.2).bind fun q => (view q.2 q.1).bind fun e => if showsB e = true then some (.val (.bl (neg ^^ decide ((toPy d).shown = (toPy e).shown))), q.2) else none else none := by
  unfold mReprC
  cases a ρ μ with
  | none => rfl
  | some p =>
    dsimp only [Option.bind]
    cases view p.2 p.1 with
    | none => rfl
    | some d =>
      dsimp only
      split
      · cases b ρ p.2 with
        | none => rfl
        | some q =>
          dsimp only
          cases view q.2 q.1 <;> rfl
      · rfl
theorem callX_nil {f : FX} {ws : List W} {w : W} {μ' : Mu} (ht : locTop ws = 0) (h : f ws [] = some (w, μ')) : callX f ws [] = some (w, μ') := by
  have e : preN ws [] = 0 := by
    unfold preN
    rw [ht]
    rfl
  unfold callX
  rw [e]
  show (match f ws [] with
    | some (w, μ') => if μ'.length = 0 then some (w, μ' ++ []) else f ws []
    | none => none) = _
  rw [h]
  dsimp only
  split
  · rw [List.append_nil]
  · rfl
end DX

namespace DX.K09
open PySem PySem.Spec L2 DK
local macro_rules
  | `(tactic| push_cast [$ts,*]) => `(tactic| simp only [q_seq, q_ifS, q_if, q_and, q_or, q_not, q_andV, q_orV, q_notV, q_test, q_op, q_un, q_asg, q_ret, q_drop, q_cons, q_dat, q_dat1, q_tup, q_lst, q_call, q_meth, q_for, q_lc, q_seqI, q_sl, q_var, q_c, q_nil, q_next, q_cont, q_break, q_retN, q_yes, q_noPart, q_partB, q_isN, q_ixB, q_fld, q_enum, q_par, q_body, varW_some, view_val, view_loc, viewM_lst, viewM_frz, isBl_bl, partW_int, name_set, ixW_val, ixF_l, ixF_t, fld_row_word, fld_row_tests, fld_row_deeds, fld_row_opens, fld_tool_window, fld_tool_rows, fld_tool_marks, recv_row, recv_tool, bodyE_rt, bodyE_nx, exit_any, exit_dst, negF_int, plusF_int, minusF_int, ltF_int, leF_int, gtF_int, geF_int, eqF_int, eqF_str, eqF_bl, intF_int, maxF_int, minF_int, lenF_l, lenF_t, lenF_s, tupF_l, tupF_t, lstF_l, lstF_t, strF_s, seqOf_t, seqOf_l, guard_val, guard_loc, isNW_val, isNW_loc, enumW_1, parW_2, tup_set, cons_set, nil_set, frzL_nil, frzL_cons, frz1_val, frz1_loc, frzM_lst, frzM_frz, ofS, ite_bind, Option.bind_some, then_nx, then_rt, then_ct, then_bk, start, List.length_cons, List.length_nil, List.map_cons, List.map_nil, List.replicate, List.cons_append, List.nil_append, List.append_nil, List.getElem?_cons_succ, List.getElem?_cons_zero, List.set_cons_succ, List.set_cons_zero, Nat.sub_self, Nat.reduceSub, Nat.reduceAdd, Nat.reduceEqDiff, if_true, if_false, reduceIte, decide_eq_true_eq, decide_true, decide_false, Bool.false_xor, Bool.true_xor, Nat.zero_add, eq_self, String.reduceEq, Bool.false_eq_true, wipeE, List.foldl_cons, List.foldl_nil, Bool.not_true, Bool.not_false, inF_strsT, inF_strsL, q_fldS, fldSW_0, q_make, isNon_int, isNon_non, isNon_bl, isNon_str, isNon_tup, isNon_lst, q_lcM, q_setI, q_addM, addW_val, seqOf_loc, seqM_lst, seqM_frz, ixW_loc, ixM_lsW, ixM_lst, ixM_frz, setIW_loc, setIM_lst, exit_val, exit_loc, exitV_if, List.take_succ_cons, List.take_zero, List.take_nil, List.all_cons, List.all_nil, Bool.and_true, Bool.true_and, Bool.and_self, Nat.reduceLT, Nat.reduceLeDiff, Nat.zero_le, Nat.lt_add_one, exitM_lst, exitM_frz, below_lst, below_frz, below_dK, below_scr, below_lsW, below_ins, below_dW, wbelow_val, wbelow_loc, q_append, appA_loc, appW_1, appM_lst, q_lstOfM, lstM_lst, q_lstM, q_rng1, standB_none, standB_some, standM_lst, standM_frz, q_join, joinA_str, q_joined, q_jNil, q_jCons, jW_str, q_star, q_own1, ownW_val, okStr_str, isIns_row, isIns_tool, q_kget, kgetW_str, q_indexC, indexW_lst, q_makeL, mkL_cls, q_cmeth, cmW_cls, q_star1, star1W_cons, q_chain, chainW_bl, chainE_bl, q_eqOwn, fmtF_s, and_self, $ts,*])
variable {ρ : Env'} {μ : Mu}
/-- inner: how the loop over the cards stands -/
def In (ns : List Int) (T O : ToolM) (ρ : Env') (μ : Mu) : Prop := ∃ (d : Dl) (x2 x7 x8 x9 x10 x11 x12 x13 : Option W), d.1.length ≤ 1000 ∧ ρ = [some (.val (.scr ns)), some (.loc 1), x2, some (.val (toolT T)), some (.val (toolT O)), some (.val T.d), some (.val O.d), x7, x8, x9, x10, x11, x12, x13] ∧ μ = (MO.lst (List.map D.int (Prod.fst d)) :: MO.lsW [W.loc 0, W.val (D.int (Prod.snd d))] :: ([]))
def picks : List D := [.int 0, .int 1, .int 2, .int 3, .int 4, .int 9, .int (-1), .int (-2), .int (-5)]
theorem p5 {d : Dl} {s x2 x3 x4 x5 x6 x7 x8 x9 x10 x11 x12 x13 : Option W} (hd : d.1.length ≤ 1000) : ∃ (d' : Dl) (n : Int) (ms : List Str), d'.1.length ≤ 1000 ∧ 0 ≤ n ∧ n < 9 ∧ ms.Nodup ∧ (∀ m ∈ ms, m ∈ (["a", "k", "zz"] : List Str)) ∧ ms.length ≤ 3 ∧
    m_law_p5 [s, some (.loc 1), x2, x3, x4, x5, x6, x7, x8, x9, x10, x11, x12, x13] (MO.lst (List.map D.int (Prod.fst d)) :: MO.lsW [W.loc 0, W.val (D.int (Prod.snd d))] :: ([])) = some (.nx [s, some (.loc 1), x2, x3, x4, x5, x6, x7, some (.val (.int n)), some (.val (.lst (ms.map D.str))), x10, x11, x12, x13] (MO.lst (List.map D.int (Prod.fst d')) :: MO.lsW [W.loc 0, W.val (D.int (Prod.snd d'))] :: ([]))) := by
  obtain ⟨n, d1, n0, n1, hd1, h1⟩ := draw_ex d 9 hd (by omega) (by omega)
  obtain ⟨d2, ys, hd2, hp, h2⟩ := mixed_vr D.str d1 ["a", "k", "zz"] hd1 (by decide)
  obtain ⟨k, d3, k0, k1, hd3, h3⟩ := draw_ex d2 4 hd2 (by omega) (by omega)
  obtain ⟨j, rfl⟩ := Int.eq_ofNat_of_zero_le k0
  have hnd : ys.Nodup := hp.nodup_iff.mpr (by decide +kernel)
  have h2' : ∀ t, callX f_law_mixed [.loc 1, .val (.lst [.str "a", .str "k", .str "zz"])] (MO.lst (List.map D.int (Prod.fst d1)) :: MO.lsW [W.loc 0, W.val (D.int (Prod.snd d1))] :: (t)) = some (.val (.lst (ys.map D.str)), (MO.lst (List.map D.int (Prod.fst d2)) :: MO.lsW [W.loc 0, W.val (D.int (Prod.snd d2))] :: (t))) := h2
  have h3l : (3 ≤ LB) = True := eq_true (by decide)
  refine ⟨d3, n, ys.take j, hd3, n0, n1, hnd.sublist (List.take_sublist _ _), fun m hm => hp.mem_iff.mp (List.mem_of_mem_take hm), ?_, ?_⟩
  · rw [List.length_take]; omega
  · unfold m_law_p5
    push_cast [h1, h3l, h2', h3, slF_ls, cut_take, List.map_take]
theorem p6 {d : Dl} {s x2 x3 x4 x5 x6 x7 x9 x10 x11 x12 x13 : Option W} {n : Int} (hd : d.1.length ≤ 1000) (n0 : 0 ≤ n) (n1 : n < 9) : ∃ (d' : Dl) (c : Int), d'.1.length ≤ 1000 ∧ 1 ≤ c ∧ c < 20 ∧
    m_law_p6 [s, some (.loc 1), x2, x3, x4, x5, x6, x7, some (.val (.int n)), x9, x10, x11, x12, x13] (MO.lst (List.map D.int (Prod.fst d)) :: MO.lsW [W.loc 0, W.val (D.int (Prod.snd d))] :: ([])) = some (.nx [s, some (.loc 1), x2, x3, x4, x5, x6, x7, some (.val (.int n)), x9, some (.val (.int c)), x11, x12, x13] (MO.lst (List.map D.int (Prod.fst d')) :: MO.lsW [W.loc 0, W.val (D.int (Prod.snd d'))] :: ([]))) := by
  obtain ⟨y, d1, hy, hd1, h1⟩ := pick_ex d picks hd (by simp [picks]) (by simp [picks])
  obtain ⟨k, k0, k1, rfl⟩ : ∃ k : Int, -5 ≤ k ∧ k ≤ 9 ∧ y = .int k := by
    simp only [picks, List.mem_cons, List.not_mem_nil, or_false] at hy
    rcases hy with rfl | rfl | rfl | rfl | rfl | rfl | rfl | rfl | rfl <;> exact ⟨_, by omega, by omega, rfl⟩
  unfold picks at h1
  have h9 : (9 ≤ LB) = True := eq_true (by decide)
  refine ⟨d1, max 1 (n + k), hd1, by omega, by omega, ?_⟩
  unfold m_law_p6
  push_cast [h1, h9, Int.reduceSub]
structure MkOk (ms : List Str) : Prop where
  nd : ms.Nodup
  le : ms.length ≤ 3
  sh : ∀ s ∈ ms, shortB s = true
  ok : ∀ s ∈ ms, sOkB s = true
theorem mk_of {ms : List Str} (h1 : ms.Nodup) (h2 : ∀ m ∈ ms, m ∈ (["a", "k", "zz"] : List Str)) (h3 : ms.length ≤ 3) : MkOk ms := ⟨h1, h3, fun s hs => List.all_eq_true.mp (show (["a", "k", "zz"] : List Str).all shortB = true by kernel_rfl) s (h2 s hs), fun s hs => List.all_eq_true.mp (show (["a", "k", "zz"] : List Str).all sOkB = true by kernel_rfl) s (h2 s hs)⟩
theorem srt_ans {T : ToolM} {n c : Int} {ms : List Str} : answerM T n (srt ms) c = answerM T n ms c := by
  unfold answerM
  rw [srt_idem]
section
variable {s x2 x4 x5 x6 x7 x9 x10 x11 x12 x13 : Option W} {w w2 n c : Int} {rows rows2 : List RowM} {ms : List Str}
theorem p7 (hT : Good 12 rows) (hm : MkOk ms) : ∃ y, m_law_p7 [s, some (.loc 1), x2, some (.val (toolT ⟨w, rows⟩)), x4, x5, x6, x7, some (.val (.int n)), some (.val (.lst (ms.map D.str))), some (.val (.int c)), x11, x12, x13] μ = some (.nx [s, some (.loc 1), x2, some (.val (toolT ⟨w, rows⟩)), x4, x5, x6, x7, some (.val (.int n)), some (.val (.lst (ms.map D.str))), some (.val (.int c)), y, some (.val (answerM ⟨w, rows⟩ n ms c)), x13] μ) := by
  have hlb : LB = 100000 := rfl
  have hl : ((ms.map D.str).length ≤ LB) = True := eq_true (by rw [List.length_map]; have := hm.le; omega)
  have h := fun μ => hT.ans (μ := μ) (w := w) (n := n) (c := c) (marks := srt ms) (by rw [(srt_perm ms).length_eq]; have := hm.le; omega) ((srt_perm ms).nodup_iff.mpr hm.nd)
  refine ⟨x11, ?_⟩
  unfold m_law_p7
  push_cast [hl]
  rw [lc_map1 (h := D.str) rfl (fun t ht => ⟨_, rfl, by push_cast [eq_self]⟩)]
  push_cast [sortF_map (l := ms) (by have := hm.le; omega), h, srt_ans]
theorem eq_self_xor {p : D} : (true ^^ decide ((toPy p).shown = (toPy p).shown)) = false := by simp
theorem p10 (hT : Good 12 rows) (hw : 1 ≤ w) (hm : MkOk ms) (n0 : 0 ≤ n) (n1 : n < 9) (c0 : 1 ≤ c) (c1 : c < 20) : m_law_p10 [s, some (.loc 1), x2, x4, x5, some (.val (ToolM.d ⟨w, rows⟩)), x6, x7, some (.val (.int n)), some (.val (.lst (ms.map D.str))), some (.val (.int c)), x11, some (.val (answerM ⟨w, rows⟩ n ms c)), some (.val (.lst (ms.map D.str)))] μ = some (.nx [s, some (.loc 1), x2, x4, x5, some (.val (ToolM.d ⟨w, rows⟩)), x6, x7, some (.val (.int n)), some (.val (.lst (ms.map D.str))), some (.val (.int c)), x11, some (.val (answerM ⟨w, rows⟩ n ms c)), some (.val (.lst (ms.map D.str)))] μ) := by
  have h := fun μ => e_answer (μ := μ) XTok (hT.tool hw) (n := n) (c := c) (m := .lst (ms.map D.str)) (marks := ms) rfl hm.ok (by have := hm.le; omega)
  have hs : showsB (answerM ⟨w, rows⟩ n ms c) = true := (hT.sh hm.sh (by have := hm.le; omega) (by omega) (by omega)).b (by omega) (by decide)
  have c1 : (toolNs.contains ("answer" : Str)) = false := by kernel_rfl
  unfold m_law_p10
  push_cast [q_reprC, h, c1, hs, eq_self_xor, eqF_strsL, Bool.xor_false, Bool.not_true]
theorem p14 (hT : Good 12 rows) (hw : 1 ≤ w) (hm : MkOk ms) (n0 : 0 ≤ n) (n1 : n < 9) (c0 : 1 ≤ c) (c1 : c < 20) : m_law_p14 [s, some (.loc 1), x2, x4, x5, some (.val (ToolM.d ⟨w, rows⟩)), x6, x7, some (.val (.int n)), some (.val (.lst (ms.map D.str))), some (.val (.int c)), x11, some (.val (answerM ⟨w, rows⟩ n ms c)), x13] μ = some (.nx [s, some (.loc 1), x2, x4, x5, some (.val (ToolM.d ⟨w, rows⟩)), x6, x7, some (.val (.int n)), some (.val (.lst (ms.map D.str))), some (.val (.int c)), x11, some (.val (answerM ⟨w, rows⟩ n ms c)), x13] μ) := by
  have h := fun μ => e_answer (μ := μ) XTok (hT.tool hw) (n := n) (c := c) (m := .tup (ms.map D.str)) (marks := ms) rfl hm.ok (by have := hm.le; omega)
  have hs : showsB (answerM ⟨w, rows⟩ n ms c) = true := (hT.sh hm.sh (by have := hm.le; omega) (by omega) (by omega)).b (by omega) (by decide)
  have c1 : (toolNs.contains ("answer" : Str)) = false := by kernel_rfl
  unfold m_law_p14
  push_cast [q_reprC, h, c1, hs, eq_self_xor]
theorem at3_ans {T : ToolM} : ∃ v, ixF (answerM T n ms c) (.int 3) = some v ∧ ((∃ p, rowForM T.rows (wordM T.window (c - n)) (srt ms) = some p ∧ v = .int (p.1 : Nat)) ∨ v = .non) := by
  unfold answerM
  cases rowForM T.rows (wordM T.window (c - n)) (srt ms) with
  | none => exact ⟨.non, at3, .inr rfl⟩
  | some p => exact ⟨_, at3, .inl ⟨p, rfl, rfl⟩⟩
theorem p12 (hT : Good 12 rows) (hw : 1 ≤ w) (hm : MkOk ms) : m_law_p12 [s, some (.loc 1), x2, x4, some (.val (toolT ⟨w, rows⟩)), x5, some (.val (ToolM.d ⟨w, rows⟩)), x7, some (.val (.int n)), some (.val (.lst (ms.map D.str))), some (.val (.int c)), x11, x12, x13] μ = some (.nx [s, some (.loc 1), x2, x4, some (.val (toolT ⟨w, rows⟩)), x5, some (.val (ToolM.d ⟨w, rows⟩)), x7, some (.val (.int n)), some (.val (.lst (ms.map D.str))), some (.val (.int c)), x11, x12, x13] μ) := by
  have h := fun μ => e_answer (μ := μ) XTok (hT.tool hw) (n := n) (c := c) (m := .lst (ms.map D.str)) (marks := ms) rfl hm.ok (by have := hm.le; omega)
  have h2 := fun μ => hT.ans (μ := μ) (w := w) (n := n) (c := c) (marks := ms) (by have := hm.le; omega) hm.nd
  obtain ⟨v, hv, hv2⟩ := at3_ans (T := ⟨w, rows⟩) (n := n) (c := c) (ms := ms)
  have hs : showsB v = true := by
    rcases hv2 with ⟨p, e, rfl⟩ | rfl
    · have h9 : p.1 < rows.length := (Good.rowAt e).1
      have := hT.le
      exact (sh_int (by omega)).b (by omega) (by decide)
    · rfl
  have c1 : (toolNs.contains ("answer" : Str)) = false := by kernel_rfl
  unfold m_law_p12
  push_cast [q_reprC, h, h2, c1, hv, hs, eq_self_xor]
end
theorem inner {ns : List Int} {w w2 : Int} {rows rows2 : List RowM} (hT : Good 12 rows) (hw : 1 ≤ w) (hO : Good 12 rows2) (hw2 : 1 ≤ w2) {ρ : Env'} {μ : Mu} (h : In ns ⟨w, rows⟩ ⟨w2, rows2⟩ ρ μ) : ∃ ρ2 μ2, m_law_1 ρ μ = some (.nx ρ2 μ2) ∧ In ns ⟨w, rows⟩ ⟨w2, rows2⟩ ρ2 μ2 := by
  obtain ⟨d, x2, x7, x8, x9, x10, x11, x12, x13, hd, rfl, rfl⟩ := h
  obtain ⟨d1, n, ms, hd1, n0, n1, hnd, hin, hle, e5⟩ := p5 (d := d) (s := some (.val (.scr ns))) (x2 := x2) (x3 := some (.val (toolT ⟨w, rows⟩))) (x4 := some (.val (toolT ⟨w2, rows2⟩))) (x5 := some (.val (ToolM.d ⟨w, rows⟩))) (x6 := some (.val (ToolM.d ⟨w2, rows2⟩))) (x7 := x7) (x8 := x8) (x9 := x9) (x10 := x10) (x11 := x11) (x12 := x12) (x13 := x13) hd
  have hm := mk_of hnd hin hle
  obtain ⟨d2, c, hd2, c0, c1, e6⟩ := p6 (d := d1) (s := some (.val (.scr ns))) (x2 := x2) (x3 := some (.val (toolT ⟨w, rows⟩))) (x4 := some (.val (toolT ⟨w2, rows2⟩))) (x5 := some (.val (ToolM.d ⟨w, rows⟩))) (x6 := some (.val (ToolM.d ⟨w2, rows2⟩))) (x7 := x7) (x9 := some (.val (.lst (ms.map D.str)))) (x10 := x10) (x11 := x11) (x12 := x12) (x13 := x13) (n := n) hd1 n0 n1
  obtain ⟨y, e7⟩ := p7 (μ := (MO.lst (List.map D.int (Prod.fst d2)) :: MO.lsW [W.loc 0, W.val (D.int (Prod.snd d2))] :: ([]))) (s := some (.val (.scr ns))) (x2 := x2) (x4 := some (.val (toolT ⟨w2, rows2⟩))) (x5 := some (.val (ToolM.d ⟨w, rows⟩))) (x6 := some (.val (ToolM.d ⟨w2, rows2⟩))) (x7 := x7) (x11 := x11) (x12 := x12) (x13 := x13) (w := w) (n := n) (c := c) hT hm
  refine ⟨[some (.val (.scr ns)), some (.loc 1), x2, some (.val (toolT ⟨w, rows⟩)), some (.val (toolT ⟨w2, rows2⟩)), some (.val (ToolM.d ⟨w, rows⟩)), some (.val (ToolM.d ⟨w2, rows2⟩)), x7, some (.val (.int n)), some (.val (.lst (ms.map D.str))), some (.val (.int c)), y, some (.val (answerM ⟨w, rows⟩ n ms c)), some (.val (.lst (ms.map D.str)))], (MO.lst (List.map D.int (Prod.fst d2)) :: MO.lsW [W.loc 0, W.val (D.int (Prod.snd d2))] :: ([])), ?_, d2, x2, x7, _, _, _, _, _, _, hd2, rfl, rfl⟩
  unfold m_law_1
  push_cast [e5, e6, e7, m_law_p8, p10 hT hw hm n0 n1 c0 c1, p12 hO hw2 hm, p14 hT hw hm n0 n1 c0 c1]
/-! ### the loop over the tools -/
def Ou (ns : List Int) (ρ : Env') (μ : Mu) : Prop := ∃ (d : Dl) (x2 x3 x4 x5 x6 x7 x8 x9 x10 x11 x12 x13 : Option W), d.1.length ≤ 1000 ∧ ρ = [some (.val (.scr ns)), some (.loc 1), x2, x3, x4, x5, x6, x7, x8, x9, x10, x11, x12, x13] ∧ μ = (MO.lst (List.map D.int (Prod.fst d)) :: MO.lsW [W.loc 0, W.val (D.int (Prod.snd d))] :: ([]))
theorem outer {ns : List Int} {ρ : Env'} {μ : Mu} (h : Ou ns ρ μ) : ∃ ρ2 μ2, m_law_2 ρ μ = some (.nx ρ2 μ2) ∧ Ou ns ρ2 μ2 := by
  obtain ⟨d, x2, x3, x4, x5, x6, x7, x8, x9, x10, x11, x12, x13, hd, rfl, rfl⟩ := h
  have hlb : LB = 100000 := rfl
  obtain ⟨d1, ⟨w, r1⟩, hd1, g1, w1, _, e1⟩ := tool_ex d 3 hd (by omega) (by omega)
  obtain ⟨d2, ⟨w2, r2⟩, hd2, g2, w3, _, e2⟩ := tool_ex d1 3 hd1 (by omega) (by omega)
  have hl2 := g2.le
  have hl1 := g1.le
  dsimp only at hl1 hl2
  obtain ⟨d3, ys, hd3, hp, e3⟩ := mixed_vr rowT d2 r2 hd2 (by omega)
  have gy := g2.perm hp
  have hly := gy.le
  have gT : Good 12 ((r1 ++ ys ++ r1).take 12) := by
    refine ⟨fun r hr => ?_, fun z => ?_, by rw [List.length_take]; omega⟩
    · have := List.mem_of_mem_take hr
      rcases List.mem_append.mp this with q | q
      · rcases List.mem_append.mp q with q | q
        · exact g1.rw r q
        · exact gy.rw r q
      · exact g1.rw r q
    · have := congrArg List.length z
      have h0 := List.length_pos_iff.mpr g1.ne
      rw [List.length_take, List.length_append, List.length_append, List.length_nil] at this
      dsimp only at h0
      omega
  have gO : Good 12 r2 := g2.mono (by omega)
  have q2 : m_law_p2 [some (.val (.scr ns)), some (.loc 1), x2, x3, x4, x5, x6, x7, x8, x9, x10, x11, x12, x13] (MO.lst (List.map D.int (Prod.fst d)) :: MO.lsW [W.loc 0, W.val (D.int (Prod.snd d))] :: ([])) = some (.nx [some (.val (.scr ns)), some (.loc 1), x2, some (.val (toolT ⟨w, r1⟩)), some (.val (toolT ⟨w2, r2⟩)), x5, x6, x7, x8, x9, x10, x11, x12, x13] (MO.lst (List.map D.int (Prod.fst d2)) :: MO.lsW [W.loc 0, W.val (D.int (Prod.snd d2))] :: ([]))) := by
    unfold m_law_p2
    push_cast [e1, e2]
  have z1 : ((r1.map rowT).length + (ys.map rowT).length ≤ LB) = True := eq_true (by rw [List.length_map, List.length_map]; omega)
  have z2 : ((r1.map rowT ++ ys.map rowT).length + (r1.map rowT).length ≤ LB) = True := eq_true (by rw [List.length_append, List.length_map, List.length_map]; omega)
  have z3 : (2 ≤ LB) = True := eq_true (by omega)
  have hc : DK.cutD (r1.map rowT ++ ys.map rowT ++ r1.map rowT) none (some 12) = ((r1 ++ ys ++ r1).take 12).map rowT := by
    rw [List.map_take, List.map_append, List.map_append]
    exact cut_take (n := 12)
  have q3 : m_law_p3 [some (.val (.scr ns)), some (.loc 1), x2, some (.val (toolT ⟨w, r1⟩)), some (.val (toolT ⟨w2, r2⟩)), x5, x6, x7, x8, x9, x10, x11, x12, x13] (MO.lst (List.map D.int (Prod.fst d2)) :: MO.lsW [W.loc 0, W.val (D.int (Prod.snd d2))] :: ([])) = some (.nx [some (.val (.scr ns)), some (.loc 1), x2, some (.val (toolT ⟨w, (r1 ++ ys ++ r1).take 12⟩)), some (.val (toolT ⟨w2, r2⟩)), x5, x6, x7, x8, x9, x10, x11, x12, x13] (MO.lst (List.map D.int (Prod.fst d3)) :: MO.lsW [W.loc 0, W.val (D.int (Prod.snd d3))] :: ([]))) := by
    unfold m_law_p3
    push_cast [ix_tool, at0, at1, e3, plusF_l, z1, z2, z3, slF_ls, hc]
    simp only [toolT]
  generalize (r1 ++ ys ++ r1).take 12 = rows at gT q3
  have q4 : ∀ μ, m_law_p4 [some (.val (.scr ns)), some (.loc 1), x2, some (.val (toolT ⟨w, rows⟩)), some (.val (toolT ⟨w2, r2⟩)), x5, x6, x7, x8, x9, x10, x11, x12, x13] μ = some (.nx [some (.val (.scr ns)), some (.loc 1), x2, some (.val (toolT ⟨w, rows⟩)), some (.val (toolT ⟨w2, r2⟩)), some (.val (ToolM.d ⟨w, rows⟩)), some (.val (ToolM.d ⟨w2, r2⟩)), x7, x8, x9, x10, x11, x12, x13] μ) := fun μ => by
    unfold m_law_p4
    push_cast [gT.made w1, gO.made w3]
  obtain ⟨ρ5, μ5, l1, l2⟩ := loop_all (g := hName 7) (b := m_law_1) (c := none) (I := In ns ⟨w, rows⟩ ⟨w2, r2⟩) (xs := rangeD 0 (10 : Int).toNat) (ρ := [some (.val (.scr ns)), some (.loc 1), x2, some (.val (toolT ⟨w, rows⟩)), some (.val (toolT ⟨w2, r2⟩)), some (.val (ToolM.d ⟨w, rows⟩)), some (.val (ToolM.d ⟨w2, r2⟩)), x7, x8, x9, x10, x11, x12, x13]) (μ := (MO.lst (List.map D.int (Prod.fst d3)) :: MO.lsW [W.loc 0, W.val (D.int (Prod.snd d3))] :: ([]))) (by
    rintro x ρ μ - ⟨d, x2, x7, x8, x9, x10, x11, x12, x13, hd, rfl, rfl⟩
    obtain ⟨ρ2, μ2, i1, i2⟩ := inner (ns := ns) gT w1 gO w3 (ρ := [some (.val (.scr ns)), some (.loc 1), x2, some (.val (toolT ⟨w, rows⟩)), some (.val (toolT ⟨w2, r2⟩)), some (.val (ToolM.d ⟨w, rows⟩)), some (.val (ToolM.d ⟨w2, r2⟩)), some (.val x), x8, x9, x10, x11, x12, x13]) (μ := (MO.lst (List.map D.int (Prod.fst d)) :: MO.lsW [W.loc 0, W.val (D.int (Prod.snd d))] :: ([]))) ⟨d, x2, _, x8, x9, x10, x11, x12, x13, hd, rfl, rfl⟩
    exact ⟨_, ρ2, μ2, rfl, .inl i1, rfl, i2⟩) ⟨d3, x2, x7, x8, x9, x10, x11, x12, x13, hd3, rfl, rfl⟩
  obtain ⟨d4, y2, y7, y8, y9, y10, y11, y12, y13, hd4, rfl, rfl⟩ := l2
  refine ⟨[some (.val (.scr ns)), some (.loc 1), y2, some (.val (toolT ⟨w, rows⟩)), some (.val (toolT ⟨w2, r2⟩)), some (.val (ToolM.d ⟨w, rows⟩)), some (.val (ToolM.d ⟨w2, r2⟩)), y7, y8, y9, y10, y11, y12, y13], (MO.lst (List.map D.int (Prod.fst d4)) :: MO.lsW [W.loc 0, W.val (D.int (Prod.snd d4))] :: ([])), ?_, d4, y2, _, _, _, _, y7, y8, y9, y10, y11, y12, y13, hd4, rfl, rfl⟩
  unfold m_law_2
  push_cast [q2, q3, q4, m_law_p15, rng_ok (k := 10) (by omega) (by omega), l1]
theorem law_ok (ns : List Int) (hl : ns.length ≤ 63) : f_law [.val (.scr ns)] [] = some (.val (.bl true), []) := by
  obtain ⟨d, hd, hdl⟩ := e_gdeal (a := 36195017) (b := 43) (p := 2147483629) (q := 2147483647) (base := 0) (ns := ns) (by decide) (by decide) (by decide) (by omega)
  have hg : mCall f_law_deal [] (mCons (mVar 0) (mCons (mC (.int 0)) mNil)) [some (.val (.scr ns)), none, none, none, none, none, none, none, none, none, none, none, none, none] [] = some (.loc 1, (MO.lst (List.map D.int (Prod.fst d)) :: MO.lsW [W.loc 0, W.val (D.int (Prod.snd d))] :: ([]))) := call_of rfl (callX_nil rfl hd)
  obtain ⟨ρ5, μ5, l1, l2⟩ := loop_all (g := hName 2) (b := m_law_2) (c := none) (I := Ou ns) (xs := rangeD 0 (8 : Int).toNat) (ρ := [some (.val (.scr ns)), some (.loc 1), none, none, none, none, none, none, none, none, none, none, none, none]) (μ := (MO.lst (List.map D.int (Prod.fst d)) :: MO.lsW [W.loc 0, W.val (D.int (Prod.snd d))] :: ([]))) (by
    rintro x ρ μ - ⟨d, x2, x3, x4, x5, x6, x7, x8, x9, x10, x11, x12, x13, hd, rfl, rfl⟩
    obtain ⟨ρ2, μ2, i1, i2⟩ := outer (ns := ns) (ρ := [some (.val (.scr ns)), some (.loc 1), some (.val x), x3, x4, x5, x6, x7, x8, x9, x10, x11, x12, x13]) (μ := (MO.lst (List.map D.int (Prod.fst d)) :: MO.lsW [W.loc 0, W.val (D.int (Prod.snd d))] :: ([]))) ⟨d, _, x3, x4, x5, x6, x7, x8, x9, x10, x11, x12, x13, hd, rfl, rfl⟩
    exact ⟨_, ρ2, μ2, rfl, .inl i1, rfl, i2⟩) ⟨d, none, none, none, none, none, none, none, none, none, none, none, none, by omega, rfl, rfl⟩
  obtain ⟨d4, x2, x3, x4, x5, x6, x7, x8, x9, x10, x11, x12, x13, hd4, rfl, rfl⟩ := l2
  have q1 : m_law_p1 [some (.val (.scr ns)), none, none, none, none, none, none, none, none, none, none, none, none, none] [] = some (.nx [some (.val (.scr ns)), some (.loc 1), none, none, none, none, none, none, none, none, none, none, none, none] (MO.lst (List.map D.int (Prod.fst d)) :: MO.lsW [W.loc 0, W.val (D.int (Prod.snd d))] :: ([]))) := by
    unfold m_law_p1
    rw [q_asg, hg]
    rfl
  unfold f_law m_law
  push_cast [q1, m_law_p16, rng_ok (k := 8) (by omega) (by omega), l1, m_law_p17]
end DX.K09

namespace DX.K09
open PySem PySem.Spec PyProof.Rows L2 DK
def top (i : Nat) : Stmt := PySem.Challenge.pw_deskcards_k09_tools_answer.main.body.getD i (.Pass ⟨0, 0, 0, 0⟩)
abbrev st_is_integer : Stmt := top 12
abbrev nm_is_integer : List Str := ["value"]
abbrev ps_is_integer : List Str := ["value"]
theorem sc_is_integer : FnScope nm_is_integer ps_is_integer (defScope st_is_integer) := ⟨rfl, rfl, rfl, by decide +kernel, rfl, by decide +kernel, by decide +kernel⟩
abbrev sp_is_integer (K : PySem.W.Frag) : Sp := spF K f_is_integer
abbrev st_is_sequence : Stmt := top 13
abbrev nm_is_sequence : List Str := ["value"]
abbrev ps_is_sequence : List Str := ["value"]
theorem sc_is_sequence : FnScope nm_is_sequence ps_is_sequence (defScope st_is_sequence) := ⟨rfl, rfl, rfl, by decide +kernel, rfl, by decide +kernel, by decide +kernel⟩
abbrev sp_is_sequence (K : PySem.W.Frag) : Sp := spF K f_is_sequence
abbrev st_is_name : Stmt := top 14
abbrev nm_is_name : List Str := ["value", "sign"]
abbrev ps_is_name : List Str := ["value"]
theorem sc_is_name : FnScope nm_is_name ps_is_name (defScope st_is_name) := ⟨rfl, rfl, rfl, by decide +kernel, rfl, by decide +kernel, by decide +kernel⟩
abbrev sp_is_name (K : PySem.W.Frag) : Sp := spF K f_is_name
abbrev st_is_test : Stmt := top 19
abbrev nm_is_test : List Str := ["value", "words"]
abbrev ps_is_test : List Str := ["value"]
theorem sc_is_test : FnScope nm_is_test ps_is_test (defScope st_is_test) := ⟨rfl, rfl, rfl, by decide +kernel, rfl, by decide +kernel, by decide +kernel⟩
abbrev sp_is_test (K : PySem.W.Frag) : Sp := spF K f_is_test
abbrev st_is_deed : Stmt := top 20
abbrev nm_is_deed : List Str := ["value", "words"]
abbrev ps_is_deed : List Str := ["value"]
theorem sc_is_deed : FnScope nm_is_deed ps_is_deed (defScope st_is_deed) := ⟨rfl, rfl, rfl, by decide +kernel, rfl, by decide +kernel, by decide +kernel⟩
abbrev sp_is_deed (K : PySem.W.Frag) : Sp := spF K f_is_deed
abbrev st_are_tests : Stmt := top 21
abbrev nm_are_tests : List Str := ["value", "one"]
abbrev ps_are_tests : List Str := ["value"]
theorem sc_are_tests : FnScope nm_are_tests ps_are_tests (defScope st_are_tests) := ⟨rfl, rfl, rfl, by decide +kernel, rfl, by decide +kernel, by decide +kernel⟩
abbrev sp_are_tests (K : PySem.W.Frag) : Sp := spF K f_are_tests
abbrev st_are_deeds : Stmt := top 22
abbrev nm_are_deeds : List Str := ["value", "word", "one"]
abbrev ps_are_deeds : List Str := ["value", "word"]
theorem sc_are_deeds : FnScope nm_are_deeds ps_are_deeds (defScope st_are_deeds) := ⟨rfl, rfl, rfl, by decide +kernel, rfl, by decide +kernel, by decide +kernel⟩
abbrev sp_are_deeds (K : PySem.W.Frag) : Sp := spF K f_are_deeds
abbrev st_wrong_in : Stmt := top 23
abbrev nm_wrong_in : List Str := ["word", "tests", "deeds", "opens"]
abbrev ps_wrong_in : List Str := ["word", "tests", "deeds", "opens"]
theorem sc_wrong_in : FnScope nm_wrong_in ps_wrong_in (defScope st_wrong_in) := ⟨rfl, rfl, rfl, by decide +kernel, rfl, by decide +kernel, by decide +kernel⟩
abbrev sp_wrong_in (K : PySem.W.Frag) : Sp := spF K f_wrong_in
abbrev st_Row_init : Stmt := (stmtsOf (top 25)).getD 0 (.Pass ⟨0, 0, 0, 0⟩)
abbrev nm_Row_init : List Str := ["self", "word", "tests", "deeds", "opens", "wrong"]
abbrev ps_Row_init : List Str := ["self", "word", "tests", "deeds", "opens"]
theorem sc_Row_init : FnScope nm_Row_init ps_Row_init (defScope st_Row_init) := ⟨rfl, rfl, rfl, by decide +kernel, rfl, by decide +kernel, by decide +kernel⟩
abbrev sp_Row_init (K : PySem.W.Frag) : Sp := spF K f_Row_init
abbrev st_Row_fits : Stmt := (stmtsOf (top 25)).getD 2 (.Pass ⟨0, 0, 0, 0⟩)
abbrev nm_Row_fits : List Str := ["self", "marks", "test", "words"]
abbrev ps_Row_fits : List Str := ["self", "marks"]
theorem sc_Row_fits : FnScope nm_Row_fits ps_Row_fits (defScope st_Row_fits) := ⟨rfl, rfl, rfl, by decide +kernel, rfl, by decide +kernel, by decide +kernel⟩
abbrev sp_Row_fits (K : PySem.W.Frag) : Sp := spF K f_Row_fits
abbrev st_Row_marks_behind : Stmt := (stmtsOf (top 25)).getD 3 (.Pass ⟨0, 0, 0, 0⟩)
abbrev nm_Row_marks_behind : List Str := ["self", "marks", "mark", "found", "deed", "words"]
abbrev ps_Row_marks_behind : List Str := ["self", "marks"]
theorem sc_Row_marks_behind : FnScope nm_Row_marks_behind ps_Row_marks_behind (defScope st_Row_marks_behind) := ⟨rfl, rfl, rfl, by decide +kernel, rfl, by decide +kernel, by decide +kernel⟩
abbrev sp_Row_marks_behind (K : PySem.W.Frag) : Sp := spF K f_Row_marks_behind
abbrev st_names_in : Stmt := top 27
abbrev nm_names_in : List Str := ["rows", "row", "text", "texts"]
abbrev ps_names_in : List Str := ["rows"]
theorem sc_names_in : FnScope nm_names_in ps_names_in (defScope st_names_in) := ⟨rfl, rfl, rfl, by decide +kernel, rfl, by decide +kernel, by decide +kernel⟩
abbrev sp_names_in (K : PySem.W.Frag) : Sp := spF K f_names_in
abbrev st_Tool_init : Stmt := (stmtsOf (top 29)).getD 0 (.Pass ⟨0, 0, 0, 0⟩)
abbrev nm_Tool_init : List Str := ["self", "window", "rows", "row"]
abbrev ps_Tool_init : List Str := ["self", "window", "rows"]
theorem sc_Tool_init : FnScope nm_Tool_init ps_Tool_init (defScope st_Tool_init) := ⟨rfl, rfl, rfl, by decide +kernel, rfl, by decide +kernel, by decide +kernel⟩
abbrev sp_Tool_init (K : PySem.W.Frag) : Sp := spF K f_Tool_init
abbrev st_Tool_word_of : Stmt := (stmtsOf (top 29)).getD 5 (.Pass ⟨0, 0, 0, 0⟩)
abbrev nm_Tool_word_of : List Str := ["self", "number", "card", "ahead"]
abbrev ps_Tool_word_of : List Str := ["self", "number", "card"]
theorem sc_Tool_word_of : FnScope nm_Tool_word_of ps_Tool_word_of (defScope st_Tool_word_of) := ⟨rfl, rfl, rfl, by decide +kernel, rfl, by decide +kernel, by decide +kernel⟩
abbrev sp_Tool_word_of (K : PySem.W.Frag) : Sp := spF K f_Tool_word_of
abbrev st_Tool_row_for : Stmt := (stmtsOf (top 29)).getD 6 (.Pass ⟨0, 0, 0, 0⟩)
abbrev nm_Tool_row_for : List Str := ["self", "word", "marks", "at", "row"]
abbrev ps_Tool_row_for : List Str := ["self", "word", "marks"]
theorem sc_Tool_row_for : FnScope nm_Tool_row_for ps_Tool_row_for (defScope st_Tool_row_for) := ⟨rfl, rfl, rfl, by decide +kernel, rfl, by decide +kernel, by decide +kernel⟩
abbrev sp_Tool_row_for (K : PySem.W.Frag) : Sp := spF K f_Tool_row_for
abbrev st_Tool_answer : Stmt := (stmtsOf (top 29)).getD 7 (.Pass ⟨0, 0, 0, 0⟩)
abbrev nm_Tool_answer : List Str := ["self", "number", "marks", "card", "mark", "kept", "at", "row"]
abbrev ps_Tool_answer : List Str := ["self", "number", "marks", "card"]
theorem sc_Tool_answer : FnScope nm_Tool_answer ps_Tool_answer (defScope st_Tool_answer) := ⟨rfl, rfl, rfl, by decide +kernel, rfl, by decide +kernel, by decide +kernel⟩
abbrev sp_Tool_answer (K : PySem.W.Frag) : Sp := spF K f_Tool_answer
abbrev st_law_deal : Stmt := top 31
abbrev nm_law_deal : List Str := ["_law_script", "_law_base", "_law_cell", "_law_cells", "_law_mixed_here"]
abbrev ps_law_deal : List Str := ["_law_script", "_law_base"]
theorem sc_law_deal : FnScope nm_law_deal ps_law_deal (defScope st_law_deal) := ⟨rfl, rfl, rfl, by decide +kernel, rfl, by decide +kernel, by decide +kernel⟩
abbrev sp_law_deal (K : PySem.W.Frag) : Sp := spF K f_law_deal
abbrev st_law_draw : Stmt := top 32
abbrev nm_law_draw : List Str := ["_law_deal_here", "_law_many", "_law_rest"]
abbrev ps_law_draw : List Str := ["_law_deal_here", "_law_many"]
theorem sc_law_draw : FnScope nm_law_draw ps_law_draw (defScope st_law_draw) := ⟨rfl, rfl, rfl, by decide +kernel, rfl, by decide +kernel, by decide +kernel⟩
abbrev sp_law_draw (K : PySem.W.Frag) : Sp := spF K f_law_draw
abbrev st_law_bent : Stmt := top 33
abbrev nm_law_bent : List Str := ["_law_deal_here", "_law_rows", "_law_row", "_law_found", "_law_at", "_law_word_here", "_law_tests", "_law_deeds_here", "_law_opens", "_law_form"]
abbrev ps_law_bent : List Str := ["_law_deal_here", "_law_rows"]
theorem sc_law_bent : FnScope nm_law_bent ps_law_bent (defScope st_law_bent) := ⟨rfl, rfl, rfl, by decide +kernel, rfl, by decide +kernel, by decide +kernel⟩
abbrev sp_law_bent (K : PySem.W.Frag) : Sp := spF K f_law_bent
abbrev st_law_deeds : Stmt := top 34
abbrev nm_law_deeds : List Str := ["_law_tool_here", "_law_at", "_law_number", "_law_marks", "_law_card", "_law_kept", "_law_deed", "_law_name", "_law_mark"]
abbrev ps_law_deeds : List Str := ["_law_tool_here", "_law_at", "_law_number", "_law_marks", "_law_card"]
theorem sc_law_deeds : FnScope nm_law_deeds ps_law_deeds (defScope st_law_deeds) := ⟨rfl, rfl, rfl, by decide +kernel, rfl, by decide +kernel, by decide +kernel⟩
abbrev sp_law_deeds (K : PySem.W.Frag) : Sp := spF K f_law_deeds
abbrev st_law_word : Stmt := top 35
abbrev nm_law_word : List Str := ["_law_tool_here", "_law_number", "_law_card", "_law_away"]
abbrev ps_law_word : List Str := ["_law_tool_here", "_law_number", "_law_card"]
theorem sc_law_word : FnScope nm_law_word ps_law_word (defScope st_law_word) := ⟨rfl, rfl, rfl, by decide +kernel, rfl, by decide +kernel, by decide +kernel⟩
abbrev sp_law_word (K : PySem.W.Frag) : Sp := spF K f_law_word
abbrev st_law_row_done : Stmt := top 36
abbrev nm_law_row_done : List Str := ["_law_tool_here", "_law_word_here", "_law_marks", "_law_at", "_law_row", "_law_test", "_law_wrong"]
abbrev ps_law_row_done : List Str := ["_law_tool_here", "_law_word_here", "_law_marks"]
theorem sc_law_row_done : FnScope nm_law_row_done ps_law_row_done (defScope st_law_row_done) := ⟨rfl, rfl, rfl, by decide +kernel, rfl, by decide +kernel, by decide +kernel⟩
abbrev sp_law_row_done (K : PySem.W.Frag) : Sp := spF K f_law_row_done
abbrev st_law_answer : Stmt := top 37
abbrev nm_law_answer : List Str := ["_law_tool_here", "_law_number", "_law_marks", "_law_card", "_law_at", "_law_later", "_law_kept"]
abbrev ps_law_answer : List Str := ["_law_tool_here", "_law_number", "_law_marks", "_law_card"]
theorem sc_law_answer : FnScope nm_law_answer ps_law_answer (defScope st_law_answer) := ⟨rfl, rfl, rfl, by decide +kernel, rfl, by decide +kernel, by decide +kernel⟩
abbrev sp_law_answer (K : PySem.W.Frag) : Sp := spF K f_law_answer
abbrev st_law_tool : Stmt := top 38
abbrev nm_law_tool : List Str := ["_law_deal_here", "_law_widest", "_law_rows", "_law_turn"]
abbrev ps_law_tool : List Str := ["_law_deal_here", "_law_widest"]
theorem sc_law_tool : FnScope nm_law_tool ps_law_tool (defScope st_law_tool) := ⟨rfl, rfl, rfl, by decide +kernel, rfl, by decide +kernel, by decide +kernel⟩
abbrev sp_law_tool (K : PySem.W.Frag) : Sp := spF K f_law_tool
abbrev st_law_pick : Stmt := top 39
abbrev nm_law_pick : List Str := ["_law_deal_here", "_law_some"]
abbrev ps_law_pick : List Str := ["_law_deal_here", "_law_some"]
theorem sc_law_pick : FnScope nm_law_pick ps_law_pick (defScope st_law_pick) := ⟨rfl, rfl, rfl, by decide +kernel, rfl, by decide +kernel, by decide +kernel⟩
abbrev sp_law_pick (K : PySem.W.Frag) : Sp := spF K f_law_pick
abbrev st_law_mixed : Stmt := top 40
abbrev nm_law_mixed : List Str := ["_law_deal_here", "_law_some", "_law_rest", "_law_found", "_law_turn"]
abbrev ps_law_mixed : List Str := ["_law_deal_here", "_law_some"]
theorem sc_law_mixed : FnScope nm_law_mixed ps_law_mixed (defScope st_law_mixed) := ⟨rfl, rfl, rfl, by decide +kernel, rfl, by decide +kernel, by decide +kernel⟩
abbrev sp_law_mixed (K : PySem.W.Frag) : Sp := spF K f_law_mixed
abbrev st_law_made : Stmt := top 41
abbrev nm_law_made : List Str := ["_law_tool_here", "_law_row"]
abbrev ps_law_made : List Str := ["_law_tool_here"]
theorem sc_law_made : FnScope nm_law_made ps_law_made (defScope st_law_made) := ⟨rfl, rfl, rfl, by decide +kernel, rfl, by decide +kernel, by decide +kernel⟩
abbrev sp_law_made (K : PySem.W.Frag) : Sp := spF K f_law_made
abbrev st_law : Stmt := top 42
abbrev nm_law : List Str := ["_law_script", "_law_deal_here", "_law_turn", "_law_tool_here", "_law_other", "_law_made_here", "_law_beside", "_law_more", "_law_number", "_law_marks", "_law_card", "_law_mark", "_law_due", "_law_handed"]
abbrev ps_law : List Str := ["_law_script"]
theorem sc_law : FnScope nm_law ps_law (defScope st_law) := ⟨rfl, rfl, rfl, by decide +kernel, rfl, by decide +kernel, by decide +kernel⟩
abbrev sp_law (K : PySem.W.Frag) : Sp := spF K f_law
def dfl_Row_init : List He.Dv := [.adr (He.dflAt ("Row", some "__init__") 0), .adr (He.dflAt ("Row", some "__init__") 1), .bl true]
def dfl_Tool_init : List He.Dv := [.adr (He.dflAt ("Tool", some "__init__") 0)]
def t_is_integer (K : PySem.W.Frag) : TS :=
  (tRet (tAndV (tCB (rIsi K) (tCons (tVar 0) (tCons (tC (.ty "int")) tNil))) (tNotV (tCB (rIsi K) (tCons (tVar 0) (tCons (tC (.ty "bool")) tNil))))))
def t_is_sequence (K : PySem.W.Frag) : TS :=
  (tRet (tIsSeq K (tVar 0)))
def t_is_name (K : PySem.W.Frag) : TS :=
  (tSeq (tIfS (tOr (tNot (tB (tCB (rIsi K) (tCons (tVar 0) (tCons (tC (.ty "str")) tNil))))) (tNot (tTest (tChain (rLe') (rLe') (tC (.int 1)) (tCB (rLenA K) (tCons (tVar 0) tNil)) (tC (.int 4)))))) (tRet (tC (.bl false))) tNext)
      (tRet (tAndV (tCB (rAll K) (tCons (tLc (iStr (tVar 0)) (gName 1) tYes (tOp (rInn K) (tVar 1) (tC (.str "abcdefghijklmnopqrstuvwxyz"))) [1]) tNil)) (tOp (rNin K) (tVar 0) (tC (.ref (He.ga K "BARRED")))))))
def t_Row_fits (K : PySem.W.Frag) : TS :=
  (tSeq (tFor (iSeq K (tFld K (tVar 0) "tests")) (gName 2) (tSeq (tAsg (tM1 rSplit (tVar 2) (tC (.str " "))) (gName 3))
      (tIfS (tTest (tOp (rEqq K) (tOp (rInn K) (tOp (rIx K) (tVar 3) (tUn (rU fun i => .int (-i)) (tC (.int 1)))) (tVar 1)) (tOp (rEqq K) (tOp (rIx K) (tVar 3) (tC (.int 0))) (tC (.str "not"))))) (tRet (tC (.bl false))) tNext)))
      (tRet (tC (.bl true))))
def t_Row_marks_behind (K : PySem.W.Frag) : TS :=
  (tSeq (tAsg (tDc (iSeq K (tVar 1)) (gName 2) tYes (tVar 2) (tC (.bl true)) [2]) (gName 3))
      (tSeq (tFor (iSeq K (tFld K (tVar 0) "deeds")) (gName 4) (tSeq (tAsg (tM1 rSplit (tVar 4) (tC (.str " "))) (gName 5))
      (tIfS (tTest (tOp (rEqq K) (tOp (rIx K) (tVar 5) (tC (.int 0))) (tC (.str "mark")))) (sDPut (tVar 3) (tOp (rIx K) (tVar 5) (tC (.int 1))) (tC (.bl true))) (tIfS (tTest (tOp (rEqq K) (tOp (rIx K) (tVar 5) (tC (.int 0))) (tC (.str "clear")))) (tDrop (tDPop2 (tVar 3) (tOp (rIx K) (tVar 5) (tC (.int 1))) (tC .non))) tNext))))
      (tRet (tCB (rTupOf K) (tCons (tCB (rSortedS K) (tCons (tLockE (tLc (iKeys (tVar 3)) (gName 2) tYes (tCB (rStrS) (tCons (tVar 2) tNil)) [2])) tNil)) tNil)))))
def t_names_in (K : PySem.W.Frag) (wd : World) : TS :=
  (tSeq (tAsg (tLc2 (iSeq K (tVar 0)) (gName 1) tYes (iSeq K (tTup (StX.tStar K (tFld K (tVar 1) "tests") (StX.tStar K (tFld K (tVar 1) "deeds") tNil)))) (gName 2) (tTest (tOp (rInn K) (tC (.str " ")) (tVar 2))) (tVar 2) [1, 2] [2]) (gName 3))
      (tRet (tCB (rTupOf K) (tCons (tCB (rSetSorted wd) (tCons (tScS wd (iSeq K (tVar 3)) (gName 2) tYes (tOp (rIx K) (tM1 rSplit (tVar 2) (tC (.str " "))) (tUn (rU fun i => .int (-i)) (tC (.int 1)))) [2]) tNil)) tNil))))
def t_Tool_word_of (K : PySem.W.Frag) : TS :=
  (tSeq (tAsg (tOp (rMinus) (tVar 2) (tVar 1)) (gName 3))
      (tSeq (tIfS (tTest (tOp (rLt') (tVar 3) (tC (.int 0)))) (tRet (tIf (tTest (tOp (rEqq K) (tVar 3) (tUn (rU fun i => .int (-i)) (tC (.int 1))))) (tC (.str "last")) (tC (.str "elder")))) tNext)
      (tSeq (tIfS (tTest (tOp (rLt') (tVar 3) (tC (.int 2)))) (tRet (tIf (tTest (tOp (rEqq K) (tVar 3) (tC (.int 0)))) (tC (.str "same")) (tC (.str "next")))) tNext)
      (tRet (tIf (tTest (tOp (rLe') (tVar 3) (tFld K (tVar 0) "window"))) (tC (.str "near")) (tC (.str "far")))))))
def t_law_deal (K : PySem.W.Frag) : TS :=
  (tSeq (tAsg (tLc (iSeq K (tSl (rSlc K) (tVar 0) (tPart (tVar 1)) (tPart (tC (.int 60))))) (gName 2) tYes (tCB (rAbs) (tCons (tVar 2) tNil)) [2]) (gName 3))
      (tSeq (tAsg (tOp (rPlus K) (tC (.int 36195017)) (tOp (rTimes K) (tC (.int 43)) (tVar 1))) (gName 4))
      (tSeq (tFor (iSeq K (tVar 3)) (gName 2) (tAsg (tOp (rMd) (tCB (rInt1) (tCons (tOp (rPlus K) (tOp (rTimes K) (tVar 4) (tC (.int 16807))) (tOp (rMd) (tCB (rInt1) (tCons (tVar 2) tNil)) (tC (.int 2147483629)))) tNil)) (tC (.int 2147483647))) (gName 4)))
      (tRet (tLst (tCons (tRevL K (tLc (iSeq K (tVar 3)) (gName 2) (tTest (tOp (rGe') (tVar 2) (tOp (rPw) (tC (.int 10)) (tC (.int 18))))) (tVar 2) [2])) (tCons (tVar 4) tNil)))))))
def t_law_draw (K : PySem.W.Frag) : TS :=
  (tSeq (tWhile (tAnd (tTest (tOp (rNee K) (tOp (rIx K) (tVar 0) (tC (.int 0))) (tLst tNil))) (tTest (tOp (rEqq K) (tOp (rIx K) (tOp (rIx K) (tVar 0) (tC (.int 0))) (tUn (rU fun i => .int (-i)) (tC (.int 1)))) (tC (.int 0))))) (tDrop (tBM0 K "list" rPop (tOp (rIx K) (tVar 0) (tC (.int 0))))))
      (tSeq (tIfS (tTest (tOp (rNee K) (tOp (rIx K) (tVar 0) (tC (.int 0))) (tLst tNil))) (tSeq (tAsg (tBM0 K "list" rPop (tOp (rIx K) (tVar 0) (tC (.int 0)))) (gName 2))
      (tSeq (tDrop (tBM K "list" rAppend (tOp (rIx K) (tVar 0) (tC (.int 0))) (tCons (tOp (rFd) (tVar 2) (tVar 1)) tNil)))
      (tRet (tOp (rMd) (tCB (rInt1) (tCons (tVar 2) tNil)) (tVar 1))))) tNext)
      (tSeq (tAsg (tOp (rMd) (tCB (rInt1) (tCons (tOp (rPlus K) (tOp (rTimes K) (tOp (rIx K) (tVar 0) (tC (.int 1))) (tC (.int 48271))) (tC (.int 11))) tNil)) (tC (.int 2147483647))) (gSub (tVar 0) (tC (.int 1)) rSetL))
      (tRet (tOp (rMd) (tCB (rInt1) (tCons (tOp (rFd) (tOp (rIx K) (tVar 0) (tC (.int 1))) (tC (.int 8))) tNil)) (tVar 1))))))
def t_law_deeds (K : PySem.W.Frag) : TS :=
  (tSeq (tAsg (tCB (rLstOf K) (tCons (tVar 3) tNil)) (gName 5))
      (tSeq (tFor (iSeq K (tIf (tTest (tOp (rNotN) (tVar 1) (tC .non))) (tOp (rIx K) (tOp (rIx K) (tOp (rIx K) (tVar 0) (tC (.int 1))) (tVar 1)) (tC (.int 2))) (tLst tNil))) (gName 6) (tSeq (tIfS (tTest (tOp (rEqq K) (tVar 6) (tC (.str "learn")))) (tSeq (tAsg (tVar 4) (gName 2))
      (tCont)) tNext)
      (tSeq (tAsg (tOp (rIx K) (tM1 rSplit (tVar 6) (tC (.str " "))) (tC (.int 1))) (gName 7))
      (tAsg (tOp (rPlus K) (tLc (iSeq K (tVar 5)) (gName 8) (tTest (tOp (rNee K) (tVar 8) (tVar 7))) (tVar 8) [8]) (tIf (tTest (tOp (rEqq K) (tSl (rSlc K) (tVar 6) tNoPart (tPart (tC (.int 4)))) (tC (.str "mark")))) (tLst (tCons (tVar 7) tNil)) (tLst tNil))) (gName 5)))))
      (tRet (tTup (tCons (tVar 2) (tCons (tCB (rTupOf K) (tCons (tCB (rSortedS K) (tCons (tLc (iSeq K (tVar 5)) (gName 8) tYes (tCB (rStrS) (tCons (tVar 8) tNil)) [8]) tNil)) tNil)) tNil))))))
def t_law_word (K : PySem.W.Frag) : TS :=
  (tSeq (tAsg (tOp (rMinus) (tVar 2) (tVar 1)) (gName 3))
      (tSeq (tIfS (tTest (tOp (rLt') (tVar 3) (tC (.int 2)))) (tRet (tIf (tTest (tOp (rLt') (tVar 3) (tOp (rMinus) (tC (.int 0)) (tC (.int 1))))) (tC (.str "elder")) (tIf (tTest (tOp (rLt') (tVar 3) (tC (.int 0)))) (tC (.str "last")) (tIf (tTest (tOp (rEqq K) (tVar 3) (tC (.int 1)))) (tC (.str "next")) (tC (.str "same")))))) tNext)
      (tRet (tIf (tTest (tOp (rLe') (tVar 3) (tOp (rIx K) (tVar 0) (tC (.int 0))))) (tC (.str "near")) (tC (.str "far"))))))
def t_law_row_done (K : PySem.W.Frag) : TS :=
  (tSeq (tFor (iEnumA K (tCons (tOp (rIx K) (tVar 0) (tC (.int 1))) tNil)) (gTup K 2 (gCons (gName 3) (gCons (gName 4) gNil))) (tSeq (tAsg (tLc (iSeq K (tOp (rIx K) (tVar 4) (tC (.int 1)))) (gName 5) (tTest (tOp (rEqq K) (tOp (rEqq K) (tSl (rSlc K) (tVar 5) tNoPart (tPart (tC (.int 4)))) (tC (.str "not "))) (tOp (rInn K) (tOp (rIx K) (tM1 rSplit (tVar 5) (tC (.str " "))) (tUn (rU fun i => .int (-i)) (tC (.int 1)))) (tVar 2)))) (tVar 5) [5]) (gName 6))
      (tIfS (tAnd (tTest (tOp (rEqq K) (tOp (rIx K) (tVar 4) (tC (.int 0))) (tVar 1))) (tTest (tOp (rEqq K) (tVar 6) (tLst tNil)))) (tRet (tVar 3)) tNext)))
      (tRet (tC .non)))
def t_is_test (K : PySem.W.Frag) : TS :=
  (tSeq (tIfS (tNot (tB (tCB (rIsi K) (tCons (tVar 0) (tCons (tC (.ty "str")) tNil))))) (tRet (tC (.bl false))) tNext)
      (tSeq (tAsg (tM1 rSplit (tVar 0) (tC (.str " "))) (gName 1))
      (tSeq (tIfS (tTest (tOp (rEqq K) (tOp (rIx K) (tVar 1) (tC (.int 0))) (tC (.str "not")))) (tAsg (tSl (rSlc K) (tVar 1) (tPart (tC (.int 1))) tNoPart) (gName 1)) tNext)
      (tRet (tAndV (tOp (rEqq K) (tCB (rLenA K) (tCons (tVar 1) tNil)) (tC (.int 2))) (tAndV (tOp (rEqq K) (tOp (rIx K) (tVar 1) (tC (.int 0))) (tC (.str "marked"))) (tCall (sp_is_name K) [] E0 (tCons (tOp (rIx K) (tVar 1) (tC (.int 1))) tNil))))))))
def t_is_deed (K : PySem.W.Frag) : TS :=
  (tSeq (tIfS (tNot (tB (tCB (rIsi K) (tCons (tVar 0) (tCons (tC (.ty "str")) tNil))))) (tRet (tC (.bl false))) tNext)
      (tSeq (tAsg (tM1 rSplit (tVar 0) (tC (.str " "))) (gName 1))
      (tRet (tOrV (tOp (rEqq K) (tVar 1) (tLst (tCons (tC (.str "learn")) tNil))) (tAndV (tOp (rEqq K) (tCB (rLenA K) (tCons (tVar 1) tNil)) (tC (.int 2))) (tAndV (tOp (rInn K) (tOp (rIx K) (tVar 1) (tC (.int 0))) (tTup (tCons (tC (.str "mark")) (tCons (tC (.str "clear")) tNil)))) (tCall (sp_is_name K) [] E0 (tCons (tOp (rIx K) (tVar 1) (tC (.int 1))) tNil))))))))
def t_Tool_init (K : PySem.W.Frag) : TS :=
  (tSeq (tIfS (tOr (tNot (tB (tCall (sp_is_integer K) [] E0 (tCons (tVar 1) tNil)))) (tTest (tOp (rLt') (tVar 1) (tC (.int 1))))) tNever tNext)
      (tSeq (tIfS (tOr (tNot (tB (tCall (sp_is_sequence K) [] E0 (tCons (tVar 2) tNil)))) (tNot (tB (tCB (rAll K) (tCons (tLc (iSeq K (tVar 2)) (gName 3) tYes (tCB (rIsi K) (tCons (tVar 3) (tCons (tC (.ref (He.ga K "Row"))) tNil))) [3]) tNil))))) tNever tNext)
      (tSeq (sFld K (tVar 0) (tVar 1) "window")
      (tSeq (sFld K (tVar 0) (tCB (rTupOf K) (tCons (tVar 2) tNil)) "rows")
      (sFld K (tVar 0) (tCall (sp_names_in K) [] E0 (tCons (tFld K (tVar 0) "rows") tNil)) "marks")))))
def t_Tool_row_for (K : PySem.W.Frag) : TS :=
  (tSeq (tFor (iEnumA K (tCons (tFld K (tVar 0) "rows") tNil)) (gTup K 2 (gCons (gName 3) (gCons (gName 4) gNil))) (tIfS (tAnd (tTest (tOp (rEqq K) (tFld K (tVar 4) "word") (tVar 1))) (tB (tMeth (He.ga K "Row") "fits" (sp_Row_fits K) [] E0 (tVar 4) (tCons (tVar 2) tNil)))) (tRet (tVar 3)) tNext))
      (tRet (tC .non)))
def t_law_answer (K : PySem.W.Frag) : TS :=
  (tSeq (tAsg (tCall (sp_law_row_done K) [] E0 (tCons (tVar 0) (tCons (tCall (sp_law_word K) [] E0 (tCons (tVar 0) (tCons (tVar 1) (tCons (tVar 3) tNil)))) (tCons (tVar 2) tNil)))) (gName 4))
      (tSeq (tAsg (tCall (sp_law_deeds K) [] E0 (tCons (tVar 0) (tCons (tVar 4) (tCons (tVar 1) (tCons (tVar 2) (tCons (tVar 3) tNil)))))) (gTup K 2 (gCons (gName 5) (gCons (gName 6) gNil))))
      (tRet (tTup (tCons (tAndV (tOp (rNotN) (tVar 4) (tC .non)) (tOp (rIx K) (tOp (rIx K) (tOp (rIx K) (tVar 0) (tC (.int 1))) (tVar 4)) (tC (.int 3)))) (tCons (tVar 5) (tCons (tVar 6) (tCons (tVar 4) tNil))))))))
def t_law_pick (K : PySem.W.Frag) : TS :=
  (tRet (tOp (rIx K) (tVar 1) (tCall (sp_law_draw K) [] E0 (tCons (tVar 0) (tCons (tCB (rLenA K) (tCons (tVar 1) tNil)) tNil)))))
def t_law_mixed (K : PySem.W.Frag) : TS :=
  (tSeq (tPar 2 3 (tCons (tCB (rLstOfM K) (tCons (tVar 1) tNil)) (tCons (tLstM tNil) tNil)))
      (tSeq (tFor (iRng1 (tCons (tCB (rLenA K) (tCons (tVar 2) tNil)) tNil)) (gName 4) (tDrop (tBM K "list" rAppend (tVar 3) (tCons (tBM K "list" rPopAt (tVar 2) (tCons (tCall (sp_law_draw K) [] E0 (tCons (tVar 0) (tCons (tCB (rLenA K) (tCons (tVar 2) tNil)) tNil))) tNil)) tNil))))
      (tRet (tVar 3))))
def t_are_tests (K : PySem.W.Frag) : TS :=
  (tRet (tAndV (tCall (sp_is_sequence K) [] E0 (tCons (tVar 0) tNil)) (tCB (rAll K) (tCons (tLc (iSeq K (tVar 0)) (gName 1) tYes (tCall (sp_is_test K) [] E0 (tCons (tVar 1) tNil)) [1]) tNil))))
def t_are_deeds (K : PySem.W.Frag) : TS :=
  (tSeq (tIfS (tOr (tNot (tB (tCall (sp_is_sequence K) [] E0 (tCons (tVar 0) tNil)))) (tNot (tB (tCB (rAll K) (tCons (tLc (iSeq K (tVar 0)) (gName 2) tYes (tCall (sp_is_deed K) [] E0 (tCons (tVar 2) tNil)) [2]) tNil))))) (tRet (tC (.bl false))) tNext)
      (tRet (tOrV (tOp (rEqq K) (tCB (rLenA K) (tCons (tVar 0) tNil)) (tC (.int 0))) (tAndV (tOp (rInn K) (tVar 1) (tC (.ref (He.ga K "LEARNING")))) (tOp (rInn K) (tC (.str "learn")) (tVar 0))))))
def t_Tool_answer (K : PySem.W.Frag) : TS :=
  (tSeq (tAsg (tCB (rTupOf K) (tCons (tCB (rSortedS K) (tCons (tLc (iSeq K (tVar 2)) (gName 4) tYes (tCB (rStrS) (tCons (tVar 4) tNil)) [4]) tNil)) tNil)) (gName 5))
      (tSeq (tAsg (tMeth (He.ga K "Tool") "row_for" (sp_Tool_row_for K) [] E0 (tVar 0) (tCons (tMeth (He.ga K "Tool") "word_of" (sp_Tool_word_of K) [] E0 (tVar 0) (tCons (tVar 1) (tCons (tVar 3) tNil))) (tCons (tVar 5) tNil))) (gName 6))
      (tSeq (tIfS (tTest (tOp (rIsN) (tVar 6) (tC .non))) (tRet (tTup (tCons (tC (.bl false)) (tCons (tVar 1) (tCons (tVar 5) (tCons (tC .non) tNil)))))) tNext)
      (tSeq (tAsg (tOp (rIx K) (tFld K (tVar 0) "rows") (tVar 6)) (gName 7))
      (tRet (tTup (tCons (tFld K (tVar 7) "opens") (tCons (tIf (tTest (tOp (rInn K) (tC (.str "learn")) (tFld K (tVar 7) "deeds"))) (tVar 3) (tVar 1)) (tCons (tMeth (He.ga K "Row") "marks_behind" (sp_Row_marks_behind K) [] E0 (tVar 7) (tCons (tVar 5) tNil)) (tCons (tVar 6) tNil))))))))))
def t_law_bent (K : PySem.W.Frag) : TS :=
  (tSeq (tPar 3 4 (tCons (tLc (iSeq K (tVar 1)) (gName 2) tYes (tTup (tCons (tOp (rIx K) (tVar 2) (tC (.int 0))) (tCons (tCB (rLstOf K) (tCons (tOp (rIx K) (tVar 2) (tC (.int 1))) tNil)) (tCons (tCB (rLstOf K) (tCons (tOp (rIx K) (tVar 2) (tC (.int 2))) tNil)) (tCons (tOp (rIx K) (tVar 2) (tC (.int 3))) tNil))))) [2]) (tCons (tCall (sp_law_draw K) [] E0 (tCons (tVar 0) (tCons (tCB (rLenA K) (tCons (tVar 1) tNil)) tNil))) tNil)))
      (tSeq (tAsg (tOp (rIx K) (tVar 3) (tVar 4)) (gTup K 4 (gCons (gName 5) (gCons (gName 6) (gCons (gName 7) (gCons (gName 8) gNil))))))
      (tSeq (tAsg (tCall (sp_law_draw K) [] E0 (tCons (tVar 0) (tCons (tC (.int 7)) tNil))) (gName 9))
      (tSeq (tIfS (tAnd (tTest (tOp (rEqq K) (tVar 9) (tC (.int 0)))) (tTest (tOp (rGt') (tCB (rLenA K) (tCons (tVar 3) tNil)) (tC (.int 1))))) (tRet (tOp (rPlus K) (tSl (rSlc K) (tVar 3) tNoPart (tPart (tVar 4))) (tSl (rSlc K) (tVar 3) (tPart (tOp (rPlus K) (tVar 4) (tC (.int 1)))) tNoPart))) tNext)
      (tSeq (tIfS (tAnd (tTest (tOp (rEqq K) (tVar 9) (tC (.int 1)))) (tTest (tOp (rNee K) (tVar 5) (tC (.str "house"))))) (tAsg (tTup (tCons (tVar 5) (tCons (tVar 6) (tCons (tVar 7) (tCons (tNotV (tVar 8)) tNil))))) (gSub (tVar 3) (tVar 4) rSetL)) (tIfS (tAnd (tTest (tOp (rEqq K) (tVar 9) (tC (.int 2)))) (tTest (tOp (rLt') (tCB (rLenA K) (tCons (tVar 6) tNil)) (tC (.int 2))))) (tAsg (tTup (tCons (tVar 5) (tCons (tOp (rPlus K) (tVar 6) (tLst (tCons (tCall (sp_law_pick K) [] E0 (tCons (tVar 0) (tCons (tLst (tCons (tC (.str "marked k")) (tCons (tC (.str "not marked k")) tNil))) tNil))) tNil))) (tCons (tVar 7) (tCons (tVar 8) tNil))))) (gSub (tVar 3) (tVar 4) rSetL)) (tIfS (tAnd (tTest (tOp (rEqq K) (tVar 9) (tC (.int 3)))) (tAnd (tTest (tOp (rInn K) (tC (.str "learn")) (tVar 7))) (tTest (tOp (rLt') (tCB (rLenA K) (tCons (tVar 7) tNil)) (tC (.int 3)))))) (tAsg (tTup (tCons (tVar 5) (tCons (tVar 6) (tCons (tOp (rPlus K) (tVar 7) (tLst (tCons (tCall (sp_law_pick K) [] E0 (tCons (tVar 0) (tCons (tLst (tCons (tC (.str "mark k")) (tCons (tC (.str "clear k")) tNil))) tNil))) tNil))) (tCons (tVar 8) tNil))))) (gSub (tVar 3) (tVar 4) rSetL)) (tIfS (tTest (tOp (rEqq K) (tVar 9) (tC (.int 4)))) (tAsg (tTup (tCons (tVar 5) (tCons (tVar 6) (tCons (tLst tNil) (tCons (tVar 8) tNil))))) (gSub (tVar 3) (tVar 4) rSetL)) (tIfS (tAnd (tTest (tOp (rEqq K) (tVar 9) (tC (.int 5)))) (tTest (tOp (rInn K) (tVar 5) (tTup (tCons (tC (.str "next")) (tCons (tC (.str "near")) (tCons (tC (.str "far")) tNil))))))) (tAsg (tTup (tCons (tVar 5) (tCons (tVar 6) (tCons (tLst (tCons (tC (.str "learn")) tNil)) (tCons (tVar 8) tNil))))) (gSub (tVar 3) (tVar 4) rSetL)) (tIfS (tAnd (tTest (tOp (rEqq K) (tVar 9) (tC (.int 6)))) (tTest (tOp (rLt') (tCB (rLenA K) (tCons (tVar 3) tNil)) (tC (.int 9))))) (tAsg (tOp (rPlus K) (tOp (rPlus K) (tSl (rSlc K) (tVar 3) tNoPart (tPart (tVar 4))) (tLst (tCons (tTup (tCons (tVar 5) (tCons (tLst (tCons (tC (.str "marked k")) tNil)) (tCons (tLst tNil) (tCons (tOrV (tOp (rEqq K) (tVar 5) (tC (.str "house"))) (tNotV (tVar 8))) tNil))))) tNil))) (tSl (rSlc K) (tVar 3) (tPart (tVar 4)) tNoPart)) (gName 3)) tNext))))))
      (tRet (tVar 3)))))))
def t_wrong_in (K : PySem.W.Frag) : TS :=
  (tSeq (tIfS (tOr (tNot (tB (tCB (rIsi K) (tCons (tVar 0) (tCons (tC (.ty "str")) tNil))))) (tTest (tOp (rNin K) (tVar 0) (tC (.ref (He.ga K "WORDS")))))) (tRet (tC (.str "word"))) tNext)
      (tSeq (tIfS (tNot (tB (tCall (sp_are_tests K) [] E0 (tCons (tVar 1) tNil)))) (tRet (tC (.str "tests"))) tNext)
      (tSeq (tIfS (tNot (tB (tCall (sp_are_deeds K) [] E0 (tCons (tVar 2) (tCons (tVar 0) tNil))))) (tRet (tC (.str "deeds"))) tNext)
      (tRet (tIf (tAnd (tB (tCB (rIsi K) (tCons (tVar 3) (tCons (tC (.ty "bool")) tNil)))) (tOr (tB (tVar 3)) (tTest (tOp (rNee K) (tVar 0) (tC (.str "house")))))) (tC .non) (tC (.str "opens")))))))
def t_law_tool (K : PySem.W.Frag) : TS :=
  (tSeq (tAsg (tLstM (tCons (tTup (tCons (tC (.str "same")) (tCons (tLst tNil) (tCons (tLst tNil) (tCons (tC (.bl true)) tNil))))) (tCons (tTup (tCons (tC (.str "next")) (tCons (tLst tNil) (tCons (tLst (tCons (tC (.str "learn")) tNil)) (tCons (tC (.bl true)) tNil))))) (tCons (tTup (tCons (tC (.str "near")) (tCons (tLst tNil) (tCons (tLst (tCons (tC (.str "learn")) tNil)) (tCons (tC (.bl true)) tNil))))) tNil)))) (gName 2))
      (tSeq (tIfS (tTest (tOp (rEqq K) (tCall (sp_law_draw K) [] E0 (tCons (tVar 0) (tCons (tC (.int 3)) tNil))) (tC (.int 0)))) (tDrop (tBM K "list" rAppend (tVar 2) (tCons (tTup (tCons (tC (.str "far")) (tCons (tLst tNil) (tCons (tCall (sp_law_pick K) [] E0 (tCons (tVar 0) (tCons (tLst (tCons (tLst tNil) (tCons (tLst (tCons (tC (.str "learn")) tNil)) tNil))) tNil))) (tCons (tOp (rEqq K) (tCall (sp_law_draw K) [] E0 (tCons (tVar 0) (tCons (tC (.int 2)) tNil))) (tC (.int 0))) tNil))))) tNil))) tNext)
      (tSeq (tIfS (tTest (tOp (rEqq K) (tCall (sp_law_draw K) [] E0 (tCons (tVar 0) (tCons (tC (.int 3)) tNil))) (tC (.int 0)))) (tDrop (tBM K "list" rAppend (tVar 2) (tCons (tTup (tCons (tCall (sp_law_pick K) [] E0 (tCons (tVar 0) (tCons (tLst (tCons (tC (.str "last")) (tCons (tC (.str "elder")) tNil))) tNil))) (tCons (tLst tNil) (tCons (tLst tNil) (tCons (tC (.bl true)) tNil))))) tNil))) tNext)
      (tSeq (tIfS (tTest (tOp (rEqq K) (tCall (sp_law_draw K) [] E0 (tCons (tVar 0) (tCons (tC (.int 2)) tNil))) (tC (.int 0)))) (tDrop (tBM K "list" rAppend (tVar 2) (tCons (tTup (tCons (tC (.str "house")) (tCons (tLst tNil) (tCons (tLst (tCons (tC (.str "learn")) tNil)) (tCons (tC (.bl true)) tNil))))) tNil))) tNext)
      (tSeq (tFor (iRng1 (tCons (tCall (sp_law_draw K) [] E0 (tCons (tVar 0) (tCons (tC (.int 4)) tNil))) tNil)) (gName 3) (tAsg (tCall (sp_law_bent K) [] E0 (tCons (tVar 0) (tCons (tVar 2) tNil))) (gName 2)))
      (tRet (tTup (tCons (tOp (rPlus K) (tC (.int 1)) (tCall (sp_law_draw K) [] E0 (tCons (tVar 0) (tCons (tVar 1) tNil)))) (tCons (tIf (tTest (tOp (rEqq K) (tCall (sp_law_draw K) [] E0 (tCons (tVar 0) (tCons (tC (.int 2)) tNil))) (tC (.int 0)))) (tCall (sp_law_mixed K) [] E0 (tCons (tVar 0) (tCons (tVar 2) tNil))) (tVar 2)) tNil)))))))))
def t_Row_init (K : PySem.W.Frag) : TS :=
  (tSeq (tAsg (tCall (sp_wrong_in K) [] E0 (tCons (tVar 1) (tCons (tVar 2) (tCons (tVar 3) (tCons (tVar 4) tNil))))) (gName 5))
      (tSeq (tIfS (tTest (tOp (rNotN) (tVar 5) (tC .non))) tNever tNext)
      (tSeq (sFld K (tVar 0) (tVar 1) "word")
      (tSeq (sFld K (tVar 0) (tCB (rTupOf K) (tCons (tVar 2) tNil)) "tests")
      (tSeq (sFld K (tVar 0) (tCB (rTupOf K) (tCons (tVar 3) tNil)) "deeds")
      (sFld K (tVar 0) (tVar 4) "opens"))))))
def t_law_made (K : PySem.W.Frag) : TS :=
  (tRet (tMake (He.ga K "Tool") (sp_Tool_init K) [] E0 (tCons (tOp (rIx K) (tVar 0) (tC (.int 0))) (tCons (tLc (iSeq K (tOp (rIx K) (tVar 0) (tC (.int 1)))) (gName 1) tYes (tMake (He.ga K "Row") (sp_Row_init K) [] E0 (tCons (tOp (rIx K) (tVar 1) (tC (.int 0))) (tCons (tOp (rIx K) (tVar 1) (tC (.int 1))) (tCons (tOp (rIx K) (tVar 1) (tC (.int 2))) (tCons (tOp (rIx K) (tVar 1) (tC (.int 3))) tNil))))) [1]) tNil))))
def t_law (K : PySem.W.Frag) : TS :=
  (tSeq (tAsg (tCall (sp_law_deal K) [] E0 (tCons (tVar 0) (tCons (tC (.int 0)) tNil))) (gName 1))
      (tSeq (tFor (iRng1 (tCons (tC (.int 8)) tNil)) (gName 2) (tSeq (tPar 3 4 (tCons (tCall (sp_law_tool K) [] E0 (tCons (tVar 1) (tCons (tC (.int 3)) tNil))) (tCons (tCall (sp_law_tool K) [] E0 (tCons (tVar 1) (tCons (tC (.int 3)) tNil))) tNil)))
      (tSeq (tAsg (tTup (tCons (tOp (rIx K) (tVar 3) (tC (.int 0))) (tCons (tSl (rSlc K) (tOp (rPlus K) (tOp (rPlus K) (tOp (rIx K) (tVar 3) (tC (.int 1))) (tCall (sp_law_mixed K) [] E0 (tCons (tVar 1) (tCons (tOp (rIx K) (tVar 4) (tC (.int 1))) tNil)))) (tOp (rIx K) (tVar 3) (tC (.int 1)))) tNoPart (tPart (tC (.int 12)))) tNil))) (gName 3))
      (tSeq (tPar 5 6 (tCons (tCall (sp_law_made K) [] E0 (tCons (tVar 3) tNil)) (tCons (tCall (sp_law_made K) [] E0 (tCons (tVar 4) tNil)) tNil)))
      (tFor (iRng1 (tCons (tC (.int 10)) tNil)) (gName 7) (tSeq (tPar 8 9 (tCons (tCall (sp_law_draw K) [] E0 (tCons (tVar 1) (tCons (tC (.int 9)) tNil))) (tCons (tSl (rSlc K) (tCall (sp_law_mixed K) [] E0 (tCons (tVar 1) (tCons (tLst (tCons (tC (.str "a")) (tCons (tC (.str "k")) (tCons (tC (.str "zz")) tNil)))) tNil))) tNoPart (tPart (tCall (sp_law_draw K) [] E0 (tCons (tVar 1) (tCons (tC (.int 4)) tNil))))) tNil)))
      (tSeq (tAsg (tCB (rMax2) (tCons (tC (.int 1)) (tCons (tCB (rInt1) (tCons (tOp (rPlus K) (tVar 8) (tCall (sp_law_pick K) [] E0 (tCons (tVar 1) (tCons (tLst (tCons (tC (.int 0)) (tCons (tC (.int 1)) (tCons (tC (.int 2)) (tCons (tC (.int 3)) (tCons (tC (.int 4)) (tCons (tC (.int 9)) (tCons (tOp (rMinus) (tC (.int 0)) (tC (.int 1))) (tCons (tOp (rMinus) (tC (.int 0)) (tC (.int 2))) (tCons (tOp (rMinus) (tC (.int 0)) (tC (.int 5))) tNil)))))))))) tNil)))) tNil)) tNil))) (gName 10))
      (tSeq (tAsg (tCall (sp_law_answer K) [] E0 (tCons (tVar 3) (tCons (tVar 8) (tCons (tCB (rTupOf K) (tCons (tCB (rSortedS K) (tCons (tLc (iSeq K (tVar 9)) (gName 11) tYes (tCB (rStrS) (tCons (tVar 11) tNil)) [11]) tNil)) tNil)) (tCons (tVar 10) tNil))))) (gName 12))
      (tSeq (tAsg (tCB (rLstOf K) (tCons (tVar 9) tNil)) (gName 13))
      (tSeq (tIfS (tOr (tTest (tOp (rNee K) (tCB (rRepr K) (tCons (tMeth (He.ga K "Tool") "answer" (sp_Tool_answer K) [] E0 (tVar 5) (tCons (tVar 8) (tCons (tVar 13) (tCons (tVar 10) tNil)))) tNil)) (tCB (rRepr K) (tCons (tVar 12) tNil)))) (tTest (tOp (rNee K) (tVar 13) (tVar 9)))) (tRet (tC (.bl false))) tNext)
      (tSeq (tIfS (tTest (tOp (rNee K) (tCB (rRepr K) (tCons (tOp (rIx K) (tMeth (He.ga K "Tool") "answer" (sp_Tool_answer K) [] E0 (tVar 6) (tCons (tVar 8) (tCons (tVar 9) (tCons (tVar 10) tNil)))) (tC (.int 3))) tNil)) (tCB (rRepr K) (tCons (tOp (rIx K) (tCall (sp_law_answer K) [] E0 (tCons (tVar 4) (tCons (tVar 8) (tCons (tCB (rTupOf K) (tCons (tVar 9) tNil)) (tCons (tVar 10) tNil))))) (tC (.int 3))) tNil)))) (tRet (tC (.bl false))) tNext)
      (tIfS (tTest (tOp (rNee K) (tCB (rRepr K) (tCons (tMeth (He.ga K "Tool") "answer" (sp_Tool_answer K) [] E0 (tVar 5) (tCons (tVar 8) (tCons (tCB (rTupOf K) (tCons (tVar 9) tNil)) (tCons (tVar 10) tNil)))) tNil)) (tCB (rRepr K) (tCons (tVar 12) tNil)))) (tRet (tC (.bl false))) tNext))))))))))))
      (tRet (tC (.bl true)))))
theorem na1 {K : PySem.W.Frag} {x f : Str} (h : noB K x [f] = true) : NoAttr K (He.ga K x) f := noB_ok h f (by simp)
structure Tx (K : PySem.W.Frag) (mg : Str → Option Value) (wld : World) where
  f_abs : mg "abs" = none
  f_all : mg "all" = none
  f_bool : mg "bool" = none
  f_enumerate : mg "enumerate" = none
  f_int : mg "int" = none
  f_isinstance : mg "isinstance" = none
  f_len : mg "len" = none
  f_list : mg "list" = none
  f_max : mg "max" = none
  f_range : mg "range" = none
  f_repr : mg "repr" = none
  f_sorted : mg "sorted" = none
  f_str : mg "str" = none
  f_tuple : mg "tuple" = none
  g_BARRED : mg "BARRED" = some (.ref (He.ga K "BARRED"))
  g_LEARNING : mg "LEARNING" = some (.ref (He.ga K "LEARNING"))
  c_LETTERS : ∃ t, mg "LETTERS" = some (.str "abcdefghijklmnopqrstuvwxyz" t)
  g_Row : mg "Row" = some (.ref (He.ga K "Row"))
  g_Tool : mg "Tool" = some (.ref (He.ga K "Tool"))
  g_WORDS : mg "WORDS" = some (.ref (He.ga K "WORDS"))
  g_is_integer : mg "is_integer" = some (.ref (He.ga K "is_integer"))
  g_is_sequence : mg "is_sequence" = some (.ref (He.ga K "is_sequence"))
  g_is_name : mg "is_name" = some (.ref (He.ga K "is_name"))
  g_is_test : mg "is_test" = some (.ref (He.ga K "is_test"))
  g_is_deed : mg "is_deed" = some (.ref (He.ga K "is_deed"))
  g_are_tests : mg "are_tests" = some (.ref (He.ga K "are_tests"))
  g_are_deeds : mg "are_deeds" = some (.ref (He.ga K "are_deeds"))
  g_wrong_in : mg "wrong_in" = some (.ref (He.ga K "wrong_in"))
  mk_Row : Mk K (He.ga K "Row") (He.ma K (He.ga K "Row") "__init__")
  m_Row_fits : Meth K (He.ga K "Row") "fits" (He.ma K (He.ga K "Row") "fits")
  m_Row_marks_behind : Meth K (He.ga K "Row") "marks_behind" (He.ma K (He.ga K "Row") "marks_behind")
  g_names_in : mg "names_in" = some (.ref (He.ga K "names_in"))
  mk_Tool : Mk K (He.ga K "Tool") (He.ma K (He.ga K "Tool") "__init__")
  m_Tool_word_of : Meth K (He.ga K "Tool") "word_of" (He.ma K (He.ga K "Tool") "word_of")
  m_Tool_row_for : Meth K (He.ga K "Tool") "row_for" (He.ma K (He.ga K "Tool") "row_for")
  m_Tool_answer : Meth K (He.ga K "Tool") "answer" (He.ma K (He.ga K "Tool") "answer")
  g_law_deal : mg "_law_deal" = some (.ref (He.ga K "_law_deal"))
  g_law_draw : mg "_law_draw" = some (.ref (He.ga K "_law_draw"))
  g_law_bent : mg "_law_bent" = some (.ref (He.ga K "_law_bent"))
  g_law_deeds : mg "_law_deeds" = some (.ref (He.ga K "_law_deeds"))
  g_law_word : mg "_law_word" = some (.ref (He.ga K "_law_word"))
  g_law_row_done : mg "_law_row_done" = some (.ref (He.ga K "_law_row_done"))
  g_law_answer : mg "_law_answer" = some (.ref (He.ga K "_law_answer"))
  g_law_tool : mg "_law_tool" = some (.ref (He.ga K "_law_tool"))
  g_law_pick : mg "_law_pick" = some (.ref (He.ga K "_law_pick"))
  g_law_mixed : mg "_law_mixed" = some (.ref (He.ga K "_law_mixed"))
  g_law_made : mg "_law_made" = some (.ref (He.ga K "_law_made"))
  g_law : mg "law" = some (.ref (He.ga K "law"))
  cl_Row : Cls K (He.ga K "Row")
  cl_Tool : Cls K (He.ga K "Tool")
  k_BARRED : ∀ H, SqT K H (He.ga K "BARRED") (cc_BARRED.map V.str)
  k_LEARNING : ∀ H, SqT K H (He.ga K "LEARNING") (cc_LEARNING.map V.str)
  k_WORDS : ∀ H, SqT K H (He.ga K "WORDS") (cc_WORDS.map V.str)
  ck_Row : ClsOk K (He.ga K "Row")
  ck_Tool : ClsOk K (He.ga K "Tool")
  na_Row_deeds : NoAttr K (He.ga K "Row") "deeds"
  na_Row_opens : NoAttr K (He.ga K "Row") "opens"
  na_Row_tests : NoAttr K (He.ga K "Row") "tests"
  na_Row_word : NoAttr K (He.ga K "Row") "word"
  na_Tool_marks : NoAttr K (He.ga K "Tool") "marks"
  na_Tool_rows : NoAttr K (He.ga K "Tool") "rows"
  na_Tool_window : NoAttr K (He.ga K "Tool") "window"
  is_Row : IsC K "Row" ["Row"]
  fd_is_integer : FuncData
  F_is_integer : FunD K "is_integer" "is_integer" (defArgs st_is_integer) (defBody st_is_integer) (defScope st_is_integer) [] [] (He.ga K "is_integer") fd_is_integer
  fd_is_sequence : FuncData
  F_is_sequence : FunD K "is_sequence" "is_sequence" (defArgs st_is_sequence) (defBody st_is_sequence) (defScope st_is_sequence) [] [] (He.ga K "is_sequence") fd_is_sequence
  fd_is_name : FuncData
  F_is_name : FunD K "is_name" "is_name" (defArgs st_is_name) (defBody st_is_name) (defScope st_is_name) [] [] (He.ga K "is_name") fd_is_name
  fd_is_test : FuncData
  F_is_test : FunD K "is_test" "is_test" (defArgs st_is_test) (defBody st_is_test) (defScope st_is_test) [] [] (He.ga K "is_test") fd_is_test
  fd_is_deed : FuncData
  F_is_deed : FunD K "is_deed" "is_deed" (defArgs st_is_deed) (defBody st_is_deed) (defScope st_is_deed) [] [] (He.ga K "is_deed") fd_is_deed
  fd_are_tests : FuncData
  F_are_tests : FunD K "are_tests" "are_tests" (defArgs st_are_tests) (defBody st_are_tests) (defScope st_are_tests) [] [] (He.ga K "are_tests") fd_are_tests
  fd_are_deeds : FuncData
  F_are_deeds : FunD K "are_deeds" "are_deeds" (defArgs st_are_deeds) (defBody st_are_deeds) (defScope st_are_deeds) [] [] (He.ga K "are_deeds") fd_are_deeds
  fd_wrong_in : FuncData
  F_wrong_in : FunD K "wrong_in" "wrong_in" (defArgs st_wrong_in) (defBody st_wrong_in) (defScope st_wrong_in) [] [] (He.ga K "wrong_in") fd_wrong_in
  fd_Row_init : FuncData
  F_Row_init : FunD K "__init__" "Row.__init__" (defArgs st_Row_init) (defBody st_Row_init) (defScope st_Row_init) (dfl_Row_init.map (He.Dv.v K)) [] (He.ma K (He.ga K "Row") "__init__") fd_Row_init
  fd_Row_fits : FuncData
  F_Row_fits : FunD K "fits" "Row.fits" (defArgs st_Row_fits) (defBody st_Row_fits) (defScope st_Row_fits) [] [] (He.ma K (He.ga K "Row") "fits") fd_Row_fits
  fd_Row_marks_behind : FuncData
  F_Row_marks_behind : FunD K "marks_behind" "Row.marks_behind" (defArgs st_Row_marks_behind) (defBody st_Row_marks_behind) (defScope st_Row_marks_behind) [] [] (He.ma K (He.ga K "Row") "marks_behind") fd_Row_marks_behind
  fd_names_in : FuncData
  F_names_in : FunD K "names_in" "names_in" (defArgs st_names_in) (defBody st_names_in) (defScope st_names_in) [] [] (He.ga K "names_in") fd_names_in
  fd_Tool_init : FuncData
  F_Tool_init : FunD K "__init__" "Tool.__init__" (defArgs st_Tool_init) (defBody st_Tool_init) (defScope st_Tool_init) (dfl_Tool_init.map (He.Dv.v K)) [] (He.ma K (He.ga K "Tool") "__init__") fd_Tool_init
  fd_Tool_word_of : FuncData
  F_Tool_word_of : FunD K "word_of" "Tool.word_of" (defArgs st_Tool_word_of) (defBody st_Tool_word_of) (defScope st_Tool_word_of) [] [] (He.ma K (He.ga K "Tool") "word_of") fd_Tool_word_of
  fd_Tool_row_for : FuncData
  F_Tool_row_for : FunD K "row_for" "Tool.row_for" (defArgs st_Tool_row_for) (defBody st_Tool_row_for) (defScope st_Tool_row_for) [] [] (He.ma K (He.ga K "Tool") "row_for") fd_Tool_row_for
  fd_Tool_answer : FuncData
  F_Tool_answer : FunD K "answer" "Tool.answer" (defArgs st_Tool_answer) (defBody st_Tool_answer) (defScope st_Tool_answer) [] [] (He.ma K (He.ga K "Tool") "answer") fd_Tool_answer
  fd_law_deal : FuncData
  F_law_deal : FunD K "_law_deal" "_law_deal" (defArgs st_law_deal) (defBody st_law_deal) (defScope st_law_deal) [] [] (He.ga K "_law_deal") fd_law_deal
  fd_law_draw : FuncData
  F_law_draw : FunD K "_law_draw" "_law_draw" (defArgs st_law_draw) (defBody st_law_draw) (defScope st_law_draw) [] [] (He.ga K "_law_draw") fd_law_draw
  fd_law_bent : FuncData
  F_law_bent : FunD K "_law_bent" "_law_bent" (defArgs st_law_bent) (defBody st_law_bent) (defScope st_law_bent) [] [] (He.ga K "_law_bent") fd_law_bent
  fd_law_deeds : FuncData
  F_law_deeds : FunD K "_law_deeds" "_law_deeds" (defArgs st_law_deeds) (defBody st_law_deeds) (defScope st_law_deeds) [] [] (He.ga K "_law_deeds") fd_law_deeds
  fd_law_word : FuncData
  F_law_word : FunD K "_law_word" "_law_word" (defArgs st_law_word) (defBody st_law_word) (defScope st_law_word) [] [] (He.ga K "_law_word") fd_law_word
  fd_law_row_done : FuncData
  F_law_row_done : FunD K "_law_row_done" "_law_row_done" (defArgs st_law_row_done) (defBody st_law_row_done) (defScope st_law_row_done) [] [] (He.ga K "_law_row_done") fd_law_row_done
  fd_law_answer : FuncData
  F_law_answer : FunD K "_law_answer" "_law_answer" (defArgs st_law_answer) (defBody st_law_answer) (defScope st_law_answer) [] [] (He.ga K "_law_answer") fd_law_answer
  fd_law_tool : FuncData
  F_law_tool : FunD K "_law_tool" "_law_tool" (defArgs st_law_tool) (defBody st_law_tool) (defScope st_law_tool) [] [] (He.ga K "_law_tool") fd_law_tool
  fd_law_pick : FuncData
  F_law_pick : FunD K "_law_pick" "_law_pick" (defArgs st_law_pick) (defBody st_law_pick) (defScope st_law_pick) [] [] (He.ga K "_law_pick") fd_law_pick
  fd_law_mixed : FuncData
  F_law_mixed : FunD K "_law_mixed" "_law_mixed" (defArgs st_law_mixed) (defBody st_law_mixed) (defScope st_law_mixed) [] [] (He.ga K "_law_mixed") fd_law_mixed
  fd_law_made : FuncData
  F_law_made : FunD K "_law_made" "_law_made" (defArgs st_law_made) (defBody st_law_made) (defScope st_law_made) [] [] (He.ga K "_law_made") fd_law_made
  fd_law : FuncData
  F_law : FunD K "law" "law" (defArgs st_law) (defBody st_law) (defScope st_law) [] [] (He.ga K "law") fd_law
section
variable {P : Program} {w : World} {K : PySem.W.Frag} {mg : Str → Option Value} {base : Heap}
theorem sd_is_integer (T : Tx K mg w) : SnS K (t_is_integer K) m_is_integer := by
  unfold t_is_integer m_is_integer
  exact (sn_ret (sn_andV (sn_isT (by decide) (sn_var)) (sn_notV (sn_isT (by decide) (sn_var)))))
theorem ok_is_integer (T : Tx K mg w) : FnOk P w K mg base CX0 1 (He.ga K "is_integer") T.fd_is_integer ps_is_integer (sp_is_integer K) := by
  refine T.F_is_integer.ok sc_is_integer (fun vs H Q E h => ln_body h) (fun cdv A outer s H vs Q E hr h => ⟨t_is_integer K, PSs.nox ?_, fn_rd (N := nm_is_integer) (fn_body (sd_is_integer T)) h⟩)
  exact (pss_one (ps_ret (pe_and (pe_callB call_isi (by rfl) T.f_isinstance (by decide +kernel) (pa_cons (pv 0) (pa_cons (pe_bltn (by rfl) T.f_int (by decide +kernel) rfl) pa_nil))) (pe_one (pe_not (pe_callB call_isi (by rfl) T.f_isinstance (by decide +kernel) (pa_cons (pv 0) (pa_cons (pe_bltn (by rfl) T.f_bool (by decide +kernel) rfl) pa_nil))))))))
theorem b_is_integer (T : Tx K mg w) : Binds K T.fd_is_integer ps_is_integer [] := T.F_is_integer.bindsN fun _ _ _ _ _ _ us hl => match us, hl with | [_], _ => rfl
theorem sd_is_sequence (T : Tx K mg w) : SnS K (t_is_sequence K) m_is_sequence := by
  unfold t_is_sequence m_is_sequence
  exact (sn_ret (sn_isSeq (sn_var)))
theorem ok_is_sequence (T : Tx K mg w) : FnOk P w K mg base CX0 1 (He.ga K "is_sequence") T.fd_is_sequence ps_is_sequence (sp_is_sequence K) := by
  refine T.F_is_sequence.ok sc_is_sequence (fun vs H Q E h => ln_body h) (fun cdv A outer s H vs Q E hr h => ⟨t_is_sequence K, PSs.nox ?_, fn_rd (N := nm_is_sequence) (fn_body (sd_is_sequence T)) h⟩)
  exact (pss_one (ps_ret (pe_callB call_isiT (by rfl) T.f_isinstance (by decide +kernel) (pa_cons (pv 0) (pa_cons (pe_tup (pa_cons (pe_bltn (by rfl) T.f_list (by decide +kernel) rfl) (pa_cons (pe_bltn (by rfl) T.f_tuple (by decide +kernel) rfl) pa_nil))) pa_nil)))))
theorem b_is_sequence (T : Tx K mg w) : Binds K T.fd_is_sequence ps_is_sequence [] := T.F_is_sequence.bindsN fun _ _ _ _ _ _ us hl => match us, hl with | [_], _ => rfl
theorem sd_is_name (T : Tx K mg w) : SnS K (t_is_name K) m_is_name := by
  unfold t_is_name m_is_name
  exact (sn_seq (sn_ifS (sn_or (sn_not (sn_B (sn_isT (by decide) (sn_var)))) (sn_not (sn_test (sn_chain ov_le ov_le (sn_int) (sn_cb1 ou_len (sn_var)) (sn_int))))) (sn_ret (sn_bl)) sn_next)
      (sn_ret (sn_andV (sn_cb1 ou_all (sn_lc (sn_iStr (sn_var)) sn_cName sn_yes (sn_op ov_in (sn_var) (sn_str)))) (sn_op ov_nin (sn_var) (sn_strs T.k_BARRED (by decide +kernel) (by decide))))))
theorem ok_is_name (T : Tx K mg w) : FnOk P w K mg base CX0 1 (He.ga K "is_name") T.fd_is_name ps_is_name (sp_is_name K) := by
  refine T.F_is_name.ok sc_is_name (fun vs H Q E h => ln_body h) (fun cdv A outer s H vs Q E hr h => ⟨t_is_name K, PSs.nox ?_, fn_rd (N := nm_is_name) (fn_body (sd_is_name T)) h⟩)
  exact (pss_cons (ps_if (PW.pt (pw_or (pt_not (pt_val (pe_callB call_isi (by rfl) T.f_isinstance (by decide +kernel) (pa_cons (pv 0) (pa_cons (pe_bltn (by rfl) T.f_str (by decide +kernel) rfl) pa_nil))))) (pw_or1 (pt_not (pt_chain (op_le') (op_le') (pe_int) (pe_callB (call_lenA) (by rfl) T.f_len (by decide +kernel) (pa_cons (pv 0) pa_nil)) (pe_int)))))) (pss_one (ps_ret (pe_bl))) pss_nil)
      (pss_one (ps_ret (pe_and (pe_callB (cr_all rfl) (by rfl) T.f_all (by decide +kernel) (pa_cons (pe_lc (own := [("sign", 1)]) rfl sc_is_name.nd (pi_str (pv 0)) (blkOk_by (own := [("sign", 1)]) (N := nm_is_name) (sc := defScope st_is_name) (by decide +kernel)) (fun _ _ _ _ _ => (pg_n 1 sc_is_name.nd)) (fun _ _ _ _ _ => pts_nil) (fun _ _ _ _ _ => (pe_cmpR (op_inn) (pv 1) (pe_glob (by rfl) T.c_LETTERS.choose_spec ⟨_, rfl⟩) (by rfl)))) pa_nil)) (pe_one (pe_cmpR (op_nin) (pv 0) (pe_glob (by rfl) T.g_BARRED rfl) (by rfl)))))))
theorem b_is_name (T : Tx K mg w) : Binds K T.fd_is_name ps_is_name [] := T.F_is_name.bindsN fun _ _ _ _ _ _ us hl => match us, hl with | [_], _ => rfl
theorem sd_Row_fits (T : Tx K mg w) : SnS K (t_Row_fits K) m_Row_fits := by
  unfold t_Row_fits m_Row_fits
  exact (sn_seq (sn_for (sn_iSeq (sn_fld T.ck_Row.cl T.na_Row_tests (sn_var))) sn_gName (sn_seq (sn_asg (sn_split (sn_var) (sn_str)) sn_gName)
      (sn_ifS (sn_test (sn_op ov_eq (sn_op ov_in (sn_ix (sn_var) (sn_un ou_neg (sn_int))) (sn_var)) (sn_op ov_eq (sn_ix (sn_var) (sn_int)) (sn_str)))) (sn_ret (sn_bl)) sn_next)))
      (sn_ret (sn_bl)))
theorem ok_Row_fits (T : Tx K mg w) : FnOk P w K mg base CX0 1 (He.ma K (He.ga K "Row") "fits") T.fd_Row_fits ps_Row_fits (sp_Row_fits K) := by
  refine T.F_Row_fits.ok sc_Row_fits (fun vs H Q E h => ln_body h) (fun cdv A outer s H vs Q E hr h => ⟨t_Row_fits K, PSs.nox ?_, fn_rd (N := nm_Row_fits) (fn_body (sd_Row_fits T)) h⟩)
  exact (pss_cons (ps_for PassesOwn.never rfl (pi_seq (pe_fld (pv 0) rfl)) (pg_n 2 sc_Row_fits.nd) (pss_cons (ps_a 3 sc_Row_fits.nd (pe_split' (pv 2) (pe_str)))
      (pss_one (ps_if (pt_cmpR (op_eqq hr.units) (pe_cmpR (op_inn) (pe_ix ix_seq (pv 3) (pe_un un_neg (pe_int)) (fun _ _ => rfl)) (pv 1) (by rfl)) (pe_cmpR (op_eqq hr.units) (pe_ix ix_seq (pv 3) (pe_int) (fun _ _ => rfl)) (pe_str) (nomark _)) (nomark _)) (pss_one (ps_ret (pe_bl))) pss_nil))))
      (pss_one (ps_ret (pe_bl))))
theorem b_Row_fits (T : Tx K mg w) : Binds K T.fd_Row_fits ps_Row_fits [] := T.F_Row_fits.bindsN fun _ _ _ _ _ _ us hl => match us, hl with | [_, _], _ => rfl
theorem sd_Row_marks_behind (T : Tx K mg w) : SnS K (t_Row_marks_behind K) m_Row_marks_behind := by
  unfold t_Row_marks_behind m_Row_marks_behind
  exact (sn_seq (sn_asg (sn_dc (sn_iSeq (sn_var)) sn_cName sn_yes (sn_var) (sn_bl)) sn_gName)
      (sn_seq (sn_for (sn_iSeq (sn_fld T.ck_Row.cl T.na_Row_deeds (sn_var))) sn_gName (sn_seq (sn_asg (sn_split (sn_var) (sn_str)) sn_gName)
      (sn_ifS (sn_test (sn_op ov_eq (sn_ix (sn_var) (sn_int)) (sn_str))) (sn_dput (sn_var) (sn_ix (sn_var) (sn_int)) (sn_bl)) (sn_ifS (sn_test (sn_op ov_eq (sn_ix (sn_var) (sn_int)) (sn_str))) (sn_drop (sn_dpop2 (sn_ix (sn_var) (sn_int)) (sn_non))) sn_next))))
      (sn_ret (sn_cb1 ou_tup (sn_cb1 ou_sort (sn_lcKeys sn_cName sn_yes (sn_cb1 ou_str (sn_var))))))))
theorem ok_Row_marks_behind (T : Tx K mg w) : FnOk P w K mg base CX0 1 (He.ma K (He.ga K "Row") "marks_behind") T.fd_Row_marks_behind ps_Row_marks_behind (sp_Row_marks_behind K) := by
  refine T.F_Row_marks_behind.ok sc_Row_marks_behind (fun vs H Q E h => ln_body h) (fun cdv A outer s H vs Q E hr h => ⟨t_Row_marks_behind K, PSs.nox ?_, fn_rd (N := nm_Row_marks_behind) (fn_body (sd_Row_marks_behind T)) h⟩)
  exact (pss_cons (ps_setDc (i := 3) (own := [("mark", 2)]) rfl sc_Row_marks_behind.nd rfl rfl (sw_trueD rfl rfl rfl (by decide +kernel)) (pi_seq (pv 1)) (blkOk_by (own := [("mark", 2)]) (N := nm_Row_marks_behind) (sc := defScope st_Row_marks_behind) (by decide +kernel)) (fun _ _ _ _ _ => (pg_n 2 sc_Row_marks_behind.nd)) (fun _ _ _ _ _ => pts_nil) (fun _ _ _ _ _ => (pv 2)) (fun _ _ _ _ _ => (pe_bl)))
      (pss_cons (ps_for PassesOwn.never rfl (pi_seq (pe_fld (pv 0) rfl)) (pg_n 4 sc_Row_marks_behind.nd) (pss_cons (ps_a 5 sc_Row_marks_behind.nd (pe_split' (pv 4) (pe_str)))
      (pss_one (ps_if (pt_cmpR (op_eqq hr.units) (pe_ix ix_seq (pv 5) (pe_int) (fun _ _ => rfl)) (pe_str) (nomark _)) (pss_one (ps_dput (hu_of hr) (pv 3) (pe_ix ix_seq (pv 5) (pe_int) (fun _ _ => rfl)) (pe_bl) rfl)) (pss_one (ps_if (pt_cmpR (op_eqq hr.units) (pe_ix ix_seq (pv 5) (pe_int) (fun _ _ => rfl)) (pe_str) (nomark _)) (pss_one (ps_expr (pe_dpop2 (pv 3) (pe_ix ix_seq (pv 5) (pe_int) (fun _ _ => rfl)) (pe_non) ⟨rfl, rfl, rfl, rfl⟩))) pss_nil))))))
      (pss_one (ps_ret (pe_callTy (call_tupOf) (by rfl) T.f_tuple (by decide +kernel) (pa_cons (pe_callB (cr_sortedS) (by rfl) T.f_sorted (by decide +kernel) (pa_cons (pe_lock (pe_lc (own := [("mark", 2)]) rfl sc_Row_marks_behind.nd (pi_keys (pv 3)) (blkOk_by (own := [("mark", 2)]) (N := nm_Row_marks_behind) (sc := defScope st_Row_marks_behind) (by decide +kernel)) (fun _ _ _ _ _ => (pg_n 2 sc_Row_marks_behind.nd)) (fun _ _ _ _ _ => pts_nil) (fun _ _ _ _ _ => (pe_callTy (call_strS) (by rfl) T.f_str (by decide +kernel) (pa_cons (pv 2) pa_nil))))) pa_nil)) pa_nil))))))
theorem b_Row_marks_behind (T : Tx K mg w) : Binds K T.fd_Row_marks_behind ps_Row_marks_behind [] := T.F_Row_marks_behind.bindsN fun _ _ _ _ _ _ us hl => match us, hl with | [_, _], _ => rfl
theorem sd_names_in (T : Tx K mg w) : SnS K (t_names_in K w) m_names_in := by
  unfold t_names_in m_names_in
  exact (sn_seq (sn_asg (sn_lc2 (sn_iSeq (sn_var)) sn_cName sn_yes (sn_iSeq (sn_tup (sn_star (sn_fld T.ck_Row.cl T.na_Row_tests (sn_var)) (sn_star (sn_fld T.ck_Row.cl T.na_Row_deeds (sn_var)) sn_nil)))) sn_cName (sn_test (sn_op ov_in (sn_str) (sn_var))) (sn_var)) sn_gName)
      (sn_ret (sn_cb1 ou_tup (sn_setSort (sn_iSeq (sn_var)) sn_cName sn_yes (sn_ix (sn_split (sn_var) (sn_str)) (sn_un ou_neg (sn_int)))))))
theorem ok_names_in (T : Tx K mg w) : FnOk P w K mg base CX0 1 (He.ga K "names_in") T.fd_names_in ps_names_in (sp_names_in K) := by
  refine T.F_names_in.ok sc_names_in (fun vs H Q E h => ln_body h) (fun cdv A outer s H vs Q E hr h => ⟨t_names_in K w, PSs.nox ?_, fn_rd (N := nm_names_in) (fn_body (sd_names_in T)) h⟩)
  exact (pss_cons (ps_setLc2 (i := 3) (own := [("row", 1), ("text", 2)]) (vs1 := [2]) rfl sc_names_in.nd rfl rfl (sw_true rfl rfl rfl (by decide +kernel)) (pi_seq (pv 0)) (blkOk_by (own := [("row", 1), ("text", 2)]) (N := nm_names_in) (sc := defScope st_names_in) (by decide +kernel)) (by decide) (fun _ _ _ _ _ => (pg_n 1 sc_names_in.nd)) (fun _ _ _ _ _ => pts_nil) (fun _ _ _ _ _ => (pi_seq (pe_tup (StX.pa_star (pe_fld (pv 1) rfl) (StX.pa_star (pe_fld (pv 1) rfl) pa_nil))))) (fun _ _ _ _ _ => (pg_n 2 sc_names_in.nd)) (fun _ _ _ _ _ => pts_one (pt_cmpR (op_inn) (pe_str) (pv 2) (by rfl))) (fun _ _ _ _ _ => (pv 2)))
      (pss_one (ps_ret (pe_callTy (call_tupOf) (by rfl) T.f_tuple (by decide +kernel) (pa_cons (pe_callB (call_setSorted rfl) (by rfl) T.f_sorted (by decide +kernel) (pa_cons (pe_scS (own := [("text", 2)]) rfl sc_names_in.nd (pi_seq (pv 3)) (blkOk_by (own := [("text", 2)]) (N := nm_names_in) (sc := defScope st_names_in) (by decide +kernel)) (fun _ _ _ _ _ => (pg_n 2 sc_names_in.nd)) (fun _ _ _ _ _ => pts_nil) (fun _ _ _ _ _ => (pe_ix ix_seq (pe_split' (pv 2) (pe_str)) (pe_un un_neg (pe_int)) (fun _ _ => rfl)))) pa_nil)) pa_nil)))))
theorem b_names_in (T : Tx K mg w) : Binds K T.fd_names_in ps_names_in [] := T.F_names_in.bindsN fun _ _ _ _ _ _ us hl => match us, hl with | [_], _ => rfl
theorem sd_Tool_word_of (T : Tx K mg w) : SnS K (t_Tool_word_of K) m_Tool_word_of := by
  unfold t_Tool_word_of m_Tool_word_of
  exact (sn_seq (sn_asg (sn_op ov_minus (sn_var) (sn_var)) sn_gName)
      (sn_seq (sn_ifS (sn_test (sn_op ov_lt (sn_var) (sn_int))) (sn_ret (sn_if (sn_test (sn_op ov_eq (sn_var) (sn_un ou_neg (sn_int)))) (sn_str) (sn_str))) sn_next)
      (sn_seq (sn_ifS (sn_test (sn_op ov_lt (sn_var) (sn_int))) (sn_ret (sn_if (sn_test (sn_op ov_eq (sn_var) (sn_int))) (sn_str) (sn_str))) sn_next)
      (sn_ret (sn_if (sn_test (sn_op ov_le (sn_var) (sn_fld T.ck_Tool.cl T.na_Tool_window (sn_var)))) (sn_str) (sn_str))))))
theorem ok_Tool_word_of (T : Tx K mg w) : FnOk P w K mg base CX0 1 (He.ma K (He.ga K "Tool") "word_of") T.fd_Tool_word_of ps_Tool_word_of (sp_Tool_word_of K) := by
  refine T.F_Tool_word_of.ok sc_Tool_word_of (fun vs H Q E h => ln_body h) (fun cdv A outer s H vs Q E hr h => ⟨t_Tool_word_of K, PSs.nox ?_, fn_rd (N := nm_Tool_word_of) (fn_body (sd_Tool_word_of T)) h⟩)
  exact (pss_cons (ps_a 3 sc_Tool_word_of.nd (pe_op op_minus (pv 2) (pv 1)))
      (pss_cons (ps_if (pt_cmpR (op_lt') (pv 3) (pe_int) (nomark _)) (pss_one (ps_ret (pe_ifExp (pt_cmpR (op_eqq hr.units) (pv 3) (pe_un un_neg (pe_int)) (nomark _)) (pe_str) (pe_str)))) pss_nil)
      (pss_cons (ps_if (pt_cmpR (op_lt') (pv 3) (pe_int) (nomark _)) (pss_one (ps_ret (pe_ifExp (pt_cmpR (op_eqq hr.units) (pv 3) (pe_int) (nomark _)) (pe_str) (pe_str)))) pss_nil)
      (pss_one (ps_ret (pe_ifExp (pt_cmpR (op_le') (pv 3) (pe_fld (pv 0) rfl) (nomark _)) (pe_str) (pe_str)))))))
theorem b_Tool_word_of (T : Tx K mg w) : Binds K T.fd_Tool_word_of ps_Tool_word_of [] := T.F_Tool_word_of.bindsN fun _ _ _ _ _ _ us hl => match us, hl with | [_, _, _], _ => rfl
theorem sd_law_deal (T : Tx K mg w) : SnS K (t_law_deal K) m_law_deal := by
  unfold t_law_deal m_law_deal
  exact (sn_seq (sn_asg (sn_lc (sn_iSeq (sn_sl (sn_var) (sn_part (sn_var)) (sn_part (sn_int)))) sn_cName sn_yes (sn_cb1 ou_abs (sn_var))) sn_gName)
      (sn_seq (sn_asg (sn_op ov_plus (sn_int) (sn_op ov_times (sn_int) (sn_var))) sn_gName)
      (sn_seq (sn_for (sn_iSeq (sn_var)) sn_gName (sn_asg (sn_op ov_md (sn_cb1 ou_int (sn_op ov_plus (sn_op ov_times (sn_var) (sn_int)) (sn_op ov_md (sn_cb1 ou_int (sn_var)) (sn_int)))) (sn_int)) sn_gName))
      (sn_ret (sn_lsW (sn_cons (sn_revM (sn_lc (sn_iSeq (sn_var)) sn_cName (sn_test (sn_op ov_ge (sn_var) (sn_op ov_pw (sn_int) (sn_int)))) (sn_var))) (sn_cons (sn_var) sn_nil)))))))
theorem ok_law_deal (T : Tx K mg w) : FnOk P w K mg base CX0 1 (He.ga K "_law_deal") T.fd_law_deal ps_law_deal (sp_law_deal K) := by
  refine T.F_law_deal.ok sc_law_deal (fun vs H Q E h => ln_body h) (fun cdv A outer s H vs Q E hr h => ⟨t_law_deal K, PSs.nox ?_, fn_rd (N := nm_law_deal) (fn_body (sd_law_deal T)) h⟩)
  exact (pss_cons (ps_setLc (i := 3) (own := [("_law_cell", 2)]) rfl sc_law_deal.nd rfl rfl (sw_true rfl rfl rfl (by decide +kernel)) (pi_seq (pe_slice sl_any (pv 0) (po_some (pv 1)) (po_some (pe_int)))) (blkOk_by (own := [("_law_cell", 2)]) (N := nm_law_deal) (sc := defScope st_law_deal) (by decide +kernel)) (fun _ _ _ _ _ => (pg_n 2 sc_law_deal.nd)) (fun _ _ _ _ _ => pts_nil) (fun _ _ _ _ _ => (pe_callB (call_abs') (by rfl) T.f_abs (by decide +kernel) (pa_cons (pv 2) pa_nil))))
      (pss_cons (ps_a 4 sc_law_deal.nd (pe_op op_plus (pe_int) (pe_op op_times (pe_int) (pv 1))))
      (pss_cons (ps_for PassesOwn.never rfl (pi_seq (pv 3)) (pg_n 2 sc_law_deal.nd) (pss_one (ps_a 4 sc_law_deal.nd (pe_op op_md (pe_callTy (call_int1') (by rfl) T.f_int (by decide +kernel) (pa_cons (pe_op op_plus (pe_op op_times (pv 4) (pe_int)) (pe_op op_md (pe_callTy (call_int1') (by rfl) T.f_int (by decide +kernel) (pa_cons (pv 2) pa_nil)) (pe_int))) pa_nil)) (pe_int)))))
      (pss_one (ps_ret (pe_lst (pa_cons (pe_revL (pe_lc (own := [("_law_cell", 2)]) rfl sc_law_deal.nd (pi_seq (pv 3)) (blkOk_by (own := [("_law_cell", 2)]) (N := nm_law_deal) (sc := defScope st_law_deal) (by decide +kernel)) (fun _ _ _ _ _ => (pg_n 2 sc_law_deal.nd)) (fun _ _ _ _ _ => pts_one (pt_cmpR (op_ge') (pv 2) (pe_op op_pw (pe_int) (pe_int)) (nomark _))) (fun _ _ _ _ _ => (pv 2)))) (pa_cons (pv 4) pa_nil))))))))
theorem b_law_deal (T : Tx K mg w) : Binds K T.fd_law_deal ps_law_deal [] := T.F_law_deal.bindsN fun _ _ _ _ _ _ us hl => match us, hl with | [_, _], _ => rfl
theorem sd_law_draw (T : Tx K mg w) : SnS K (t_law_draw K) m_law_draw := by
  unfold t_law_draw m_law_draw
  exact (sn_seq (sn_while (sn_and (sn_test (sn_op ov_ne (sn_ix (sn_var) (sn_int)) (sn_lst sn_nil))) (sn_test (sn_op ov_eq (sn_ix (sn_ix (sn_var) (sn_int)) (sn_un ou_neg (sn_int))) (sn_int)))) (sn_drop (sn_pop (sn_ix (sn_var) (sn_int)))))
      (sn_seq (sn_ifS (sn_test (sn_op ov_ne (sn_ix (sn_var) (sn_int)) (sn_lst sn_nil))) (sn_seq (sn_asg (sn_pop (sn_ix (sn_var) (sn_int))) sn_gName)
      (sn_seq (sn_drop (sn_append (sn_ix (sn_var) (sn_int)) (sn_cons (sn_op ov_fd (sn_var) (sn_var)) sn_nil)))
      (sn_ret (sn_op ov_md (sn_cb1 ou_int (sn_var)) (sn_var))))) sn_next)
      (sn_seq (sn_setI (sn_op ov_md (sn_cb1 ou_int (sn_op ov_plus (sn_op ov_times (sn_ix (sn_var) (sn_int)) (sn_int)) (sn_int))) (sn_int)) (sn_var) (sn_int))
      (sn_ret (sn_op ov_md (sn_cb1 ou_int (sn_op ov_fd (sn_ix (sn_var) (sn_int)) (sn_int))) (sn_var))))))
theorem ok_law_draw (T : Tx K mg w) : FnOk P w K mg base CX0 1 (He.ga K "_law_draw") T.fd_law_draw ps_law_draw (sp_law_draw K) := by
  refine T.F_law_draw.ok sc_law_draw (fun vs H Q E h => ln_body h) (fun cdv A outer s H vs Q E hr h => ⟨t_law_draw K, PSs.nox ?_, fn_rd (N := nm_law_draw) (fn_body (sd_law_draw T)) h⟩)
  exact (pss_cons (ps_while PassesOwn.never (PW.pt (pw_and (pt_cmpR (op_nee hr.units) (pe_ix ix_seq (pv 0) (pe_int) (fun _ _ => rfl)) (pe_lst pa_nil) (nomark _)) (pw_and1 (pt_cmpR (op_eqq hr.units) (pe_ix ix_seq (pe_ix ix_seq (pv 0) (pe_int) (fun _ _ => rfl)) (pe_un un_neg (pe_int)) (fun _ _ => rfl)) (pe_int) (nomark _))))) (pss_one (ps_expr (pe_bm0 PySem.F.plainAttrs_list PySem.F.slot_list_pop PySem.F.type_list_pop mt_pop (pe_ix ix_seq (pv 0) (pe_int) (fun _ _ => rfl))))))
      (pss_cons (ps_if (pt_cmpR (op_nee hr.units) (pe_ix ix_seq (pv 0) (pe_int) (fun _ _ => rfl)) (pe_lst pa_nil) (nomark _)) (pss_cons (ps_a 2 sc_law_draw.nd (pe_bm0 PySem.F.plainAttrs_list PySem.F.slot_list_pop PySem.F.type_list_pop mt_pop (pe_ix ix_seq (pv 0) (pe_int) (fun _ _ => rfl))))
      (pss_cons (ps_expr (pe_bm PySem.F.plainAttrs_list PySem.F.slot_list_append PySem.F.type_list_append mt_append (pe_ix ix_seq (pv 0) (pe_int) (fun _ _ => rfl)) (pa_cons (pe_op op_fd (pv 2) (pv 1)) pa_nil)))
      (pss_one (ps_ret (pe_op op_md (pe_callTy (call_int1') (by rfl) T.f_int (by decide +kernel) (pa_cons (pv 2) pa_nil)) (pv 1)))))) pss_nil)
      (pss_cons (ps_asg (pe_op op_md (pe_callTy (call_int1') (by rfl) T.f_int (by decide +kernel) (pa_cons (pe_op op_plus (pe_op op_times (pe_ix ix_seq (pv 0) (pe_int) (fun _ _ => rfl)) (pe_int)) (pe_int)) pa_nil)) (pe_int)) (pg_sub (pv 0) (pe_int) set_list))
      (pss_one (ps_ret (pe_op op_md (pe_callTy (call_int1') (by rfl) T.f_int (by decide +kernel) (pa_cons (pe_op op_fd (pe_ix ix_seq (pv 0) (pe_int) (fun _ _ => rfl)) (pe_int)) pa_nil)) (pv 1)))))))
theorem b_law_draw (T : Tx K mg w) : Binds K T.fd_law_draw ps_law_draw [] := T.F_law_draw.bindsN fun _ _ _ _ _ _ us hl => match us, hl with | [_, _], _ => rfl
theorem sd_law_deeds (T : Tx K mg w) : SnS K (t_law_deeds K) m_law_deeds := by
  unfold t_law_deeds m_law_deeds
  exact (sn_seq (sn_asg (sn_cb1 ou_lst (sn_var)) sn_gName)
      (sn_seq (sn_for (sn_iSeq (sn_if (sn_test (sn_notN (sn_var))) (sn_ix (sn_ix (sn_ix (sn_var) (sn_int)) (sn_var)) (sn_int)) (sn_lst sn_nil))) sn_gName (sn_seq (sn_ifS (sn_test (sn_op ov_eq (sn_var) (sn_str))) (sn_seq (sn_asg (sn_var) sn_gName)
      (sn_cont)) sn_next)
      (sn_seq (sn_asg (sn_ix (sn_split (sn_var) (sn_str)) (sn_int)) sn_gName)
      (sn_asg (sn_op ov_plus (sn_lc (sn_iSeq (sn_var)) sn_cName (sn_test (sn_op ov_ne (sn_var) (sn_var))) (sn_var)) (sn_if (sn_test (sn_op ov_eq (sn_sl (sn_var) sn_noPart (sn_part (sn_int))) (sn_str))) (sn_lst (sn_cons (sn_var) sn_nil)) (sn_lst sn_nil))) sn_gName))))
      (sn_ret (sn_tup (sn_cons (sn_var) (sn_cons (sn_cb1 ou_tup (sn_cb1 ou_sort (sn_lc (sn_iSeq (sn_var)) sn_cName sn_yes (sn_cb1 ou_str (sn_var))))) sn_nil))))))
theorem ok_law_deeds (T : Tx K mg w) : FnOk P w K mg base CX0 1 (He.ga K "_law_deeds") T.fd_law_deeds ps_law_deeds (sp_law_deeds K) := by
  refine T.F_law_deeds.ok sc_law_deeds (fun vs H Q E h => ln_body h) (fun cdv A outer s H vs Q E hr h => ⟨t_law_deeds K, PSs.nox ?_, fn_rd (N := nm_law_deeds) (fn_body (sd_law_deeds T)) h⟩)
  exact (pss_cons (ps_a 5 sc_law_deeds.nd (pe_callTy (call_lstOf) (by rfl) T.f_list (by decide +kernel) (pa_cons (pv 3) pa_nil)))
      (pss_cons (ps_for PassesOwn.never rfl (pi_seq (pe_ifExp (pt_cmpR (op_notN1) (pv 1) (pe_non) (nomark _)) (pe_ix ix_seq (pe_ix ix_seq (pe_ix ix_seq (pv 0) (pe_int) (fun _ _ => rfl)) (pv 1) (fun _ _ => rfl)) (pe_int) (fun _ _ => rfl)) (pe_lst pa_nil))) (pg_n 6 sc_law_deeds.nd) (pss_cons (ps_if (pt_cmpR (op_eqq hr.units) (pv 6) (pe_str) (nomark _)) (pss_cons (ps_a 2 sc_law_deeds.nd (pv 4))
      (pss_one (ps_continue))) pss_nil)
      (pss_cons (ps_a 7 sc_law_deeds.nd (pe_ix ix_seq (pe_split' (pv 6) (pe_str)) (pe_int) (fun _ _ => rfl)))
      (pss_one (ps_a 5 sc_law_deeds.nd (pe_op op_plus (pe_lc (own := [("_law_mark", 8)]) rfl sc_law_deeds.nd (pi_seq (pv 5)) (blkOk_by (own := [("_law_mark", 8)]) (N := nm_law_deeds) (sc := defScope st_law_deeds) (by decide +kernel)) (fun _ _ _ _ _ => (pg_n 8 sc_law_deeds.nd)) (fun _ _ _ _ _ => pts_one (pt_cmpR (op_nee hr.units) (pv 8) (pv 7) (nomark _))) (fun _ _ _ _ _ => (pv 8))) (pe_ifExp (pt_cmpR (op_eqq hr.units) (pe_slice sl_any (pv 6) po_none (po_some (pe_int))) (pe_str) (nomark _)) (pe_lst (pa_cons (pv 7) pa_nil)) (pe_lst pa_nil))))))))
      (pss_one (ps_ret (pe_tup (pa_cons (pv 2) (pa_cons (pe_callTy (call_tupOf) (by rfl) T.f_tuple (by decide +kernel) (pa_cons (pe_callB (cr_sortedS) (by rfl) T.f_sorted (by decide +kernel) (pa_cons (pe_lc (own := [("_law_mark", 8)]) rfl sc_law_deeds.nd (pi_seq (pv 5)) (blkOk_by (own := [("_law_mark", 8)]) (N := nm_law_deeds) (sc := defScope st_law_deeds) (by decide +kernel)) (fun _ _ _ _ _ => (pg_n 8 sc_law_deeds.nd)) (fun _ _ _ _ _ => pts_nil) (fun _ _ _ _ _ => (pe_callTy (call_strS) (by rfl) T.f_str (by decide +kernel) (pa_cons (pv 8) pa_nil)))) pa_nil)) pa_nil)) pa_nil)))))))
theorem b_law_deeds (T : Tx K mg w) : Binds K T.fd_law_deeds ps_law_deeds [] := T.F_law_deeds.bindsN fun _ _ _ _ _ _ us hl => match us, hl with | [_, _, _, _, _], _ => rfl
theorem sd_law_word (T : Tx K mg w) : SnS K (t_law_word K) m_law_word := by
  unfold t_law_word m_law_word
  exact (sn_seq (sn_asg (sn_op ov_minus (sn_var) (sn_var)) sn_gName)
      (sn_seq (sn_ifS (sn_test (sn_op ov_lt (sn_var) (sn_int))) (sn_ret (sn_if (sn_test (sn_op ov_lt (sn_var) (sn_op ov_minus (sn_int) (sn_int)))) (sn_str) (sn_if (sn_test (sn_op ov_lt (sn_var) (sn_int))) (sn_str) (sn_if (sn_test (sn_op ov_eq (sn_var) (sn_int))) (sn_str) (sn_str))))) sn_next)
      (sn_ret (sn_if (sn_test (sn_op ov_le (sn_var) (sn_ix (sn_var) (sn_int)))) (sn_str) (sn_str)))))
theorem ok_law_word (T : Tx K mg w) : FnOk P w K mg base CX0 1 (He.ga K "_law_word") T.fd_law_word ps_law_word (sp_law_word K) := by
  refine T.F_law_word.ok sc_law_word (fun vs H Q E h => ln_body h) (fun cdv A outer s H vs Q E hr h => ⟨t_law_word K, PSs.nox ?_, fn_rd (N := nm_law_word) (fn_body (sd_law_word T)) h⟩)
  exact (pss_cons (ps_a 3 sc_law_word.nd (pe_op op_minus (pv 2) (pv 1)))
      (pss_cons (ps_if (pt_cmpR (op_lt') (pv 3) (pe_int) (nomark _)) (pss_one (ps_ret (pe_ifExp (pt_cmpR (op_lt') (pv 3) (pe_op op_minus (pe_int) (pe_int)) (nomark _)) (pe_str) (pe_ifExp (pt_cmpR (op_lt') (pv 3) (pe_int) (nomark _)) (pe_str) (pe_ifExp (pt_cmpR (op_eqq hr.units) (pv 3) (pe_int) (nomark _)) (pe_str) (pe_str)))))) pss_nil)
      (pss_one (ps_ret (pe_ifExp (pt_cmpR (op_le') (pv 3) (pe_ix ix_seq (pv 0) (pe_int) (fun _ _ => rfl)) (nomark _)) (pe_str) (pe_str))))))
theorem b_law_word (T : Tx K mg w) : Binds K T.fd_law_word ps_law_word [] := T.F_law_word.bindsN fun _ _ _ _ _ _ us hl => match us, hl with | [_, _, _], _ => rfl
theorem sd_law_row_done (T : Tx K mg w) : SnS K (t_law_row_done K) m_law_row_done := by
  unfold t_law_row_done m_law_row_done
  exact (sn_seq (sn_for (sn_iEnum (sn_cons (sn_ix (sn_var) (sn_int)) sn_nil)) (sn_gTup (sn_gCons sn_gName (sn_gCons sn_gName sn_gNil))) (sn_seq (sn_asg (sn_lc (sn_iSeq (sn_ix (sn_var) (sn_int))) sn_cName (sn_test (sn_op ov_eq (sn_op ov_eq (sn_sl (sn_var) sn_noPart (sn_part (sn_int))) (sn_str)) (sn_op ov_in (sn_ix (sn_split (sn_var) (sn_str)) (sn_un ou_neg (sn_int))) (sn_var)))) (sn_var)) sn_gName)
      (sn_ifS (sn_and (sn_test (sn_op ov_eq (sn_ix (sn_var) (sn_int)) (sn_var))) (sn_test (sn_op ov_eq (sn_var) (sn_lst sn_nil)))) (sn_ret (sn_var)) sn_next)))
      (sn_ret (sn_non)))
theorem ok_law_row_done (T : Tx K mg w) : FnOk P w K mg base CX0 1 (He.ga K "_law_row_done") T.fd_law_row_done ps_law_row_done (sp_law_row_done K) := by
  refine T.F_law_row_done.ok sc_law_row_done (fun vs H Q E h => ln_body h) (fun cdv A outer s H vs Q E hr h => ⟨t_law_row_done K, PSs.nox ?_, fn_rd (N := nm_law_row_done) (fn_body (sd_law_row_done T)) h⟩)
  exact (pss_cons (ps_for PassesOwn.never rfl (pi_enumA (by rfl) T.f_enumerate (pa_cons (pe_ix ix_seq (pv 0) (pe_int) (fun _ _ => rfl)) pa_nil)) (pg_tup rfl (pgs_cons (pg_n 3 sc_law_row_done.nd) (pgs_cons (pg_n 4 sc_law_row_done.nd) pgs_nil))) (pss_cons (ps_setLc (i := 6) (own := [("_law_test", 5)]) rfl sc_law_row_done.nd rfl rfl (sw_true rfl rfl rfl (by decide +kernel)) (pi_seq (pe_ix ix_seq (pv 4) (pe_int) (fun _ _ => rfl))) (blkOk_by (own := [("_law_test", 5)]) (N := nm_law_row_done) (sc := defScope st_law_row_done) (by decide +kernel)) (fun _ _ _ _ _ => (pg_n 5 sc_law_row_done.nd)) (fun _ _ _ _ _ => pts_one (pt_cmpR (op_eqq hr.units) (pe_cmpR (op_eqq hr.units) (pe_slice sl_any (pv 5) po_none (po_some (pe_int))) (pe_str) (nomark _)) (pe_cmpR (op_inn) (pe_ix ix_seq (pe_split' (pv 5) (pe_str)) (pe_un un_neg (pe_int)) (fun _ _ => rfl)) (pv 2) (by rfl)) (nomark _))) (fun _ _ _ _ _ => (pv 5)))
      (pss_one (ps_if (PW.pt (pw_and (pt_cmpR (op_eqq hr.units) (pe_ix ix_seq (pv 4) (pe_int) (fun _ _ => rfl)) (pv 1) (nomark _)) (pw_and1 (pt_cmpR (op_eqq hr.units) (pv 6) (pe_lst pa_nil) (nomark _))))) (pss_one (ps_ret (pv 3))) pss_nil))))
      (pss_one (ps_ret (pe_non))))
theorem b_law_row_done (T : Tx K mg w) : Binds K T.fd_law_row_done ps_law_row_done [] := T.F_law_row_done.bindsN fun _ _ _ _ _ _ us hl => match us, hl with | [_, _, _], _ => rfl
theorem sd_is_test (T : Tx K mg w) : SnS K (t_is_test K) m_is_test := by
  unfold t_is_test m_is_test
  exact (sn_seq (sn_ifS (sn_not (sn_B (sn_isT (by decide) (sn_var)))) (sn_ret (sn_bl)) sn_next)
      (sn_seq (sn_asg (sn_split (sn_var) (sn_str)) sn_gName)
      (sn_seq (sn_ifS (sn_test (sn_op ov_eq (sn_ix (sn_var) (sn_int)) (sn_str))) (sn_asg (sn_sl (sn_var) (sn_part (sn_int)) sn_noPart) sn_gName) sn_next)
      (sn_ret (sn_andV (sn_op ov_eq (sn_cb1 ou_len (sn_var)) (sn_int)) (sn_andV (sn_op ov_eq (sn_ix (sn_var) (sn_int)) (sn_str)) (sn_call (sn_cons (sn_ix (sn_var) (sn_int)) sn_nil) dfl_nil)))))))
theorem ok_is_test (T : Tx K mg w) : FnOk P w K mg base CX0 2 (He.ga K "is_test") T.fd_is_test ps_is_test (sp_is_test K) := by
  refine T.F_is_test.ok sc_is_test (fun vs H Q E h => ln_body h) (fun cdv A outer s H vs Q E hr h => ⟨t_is_test K, PSs.nox ?_, fn_rd (N := nm_is_test) (fn_body (sd_is_test T)) h⟩)
  exact (pss_cons (ps_if (pt_not (pt_val (pe_callB call_isi (by rfl) T.f_isinstance (by decide +kernel) (pa_cons (pv 0) (pa_cons (pe_bltn (by rfl) T.f_str (by decide +kernel) rfl) pa_nil))))) (pss_one (ps_ret (pe_bl))) pss_nil)
      (pss_cons (ps_a 1 sc_is_test.nd (pe_split' (pv 0) (pe_str)))
      (pss_cons (ps_if (pt_cmpR (op_eqq hr.units) (pe_ix ix_seq (pv 1) (pe_int) (fun _ _ => rfl)) (pe_str) (nomark _)) (pss_one (ps_a 1 sc_is_test.nd (pe_slice sl_any (pv 1) (po_some (pe_int)) po_none))) pss_nil)
      (pss_one (ps_ret (pe_and (pe_cmpR (op_eqq hr.units) (pe_callB (call_lenA) (by rfl) T.f_len (by decide +kernel) (pa_cons (pv 1) pa_nil)) (pe_int) (nomark _)) (pe_and (pe_cmpR (op_eqq hr.units) (pe_ix ix_seq (pv 1) (pe_int) (fun _ _ => rfl)) (pe_str) (nomark _)) (pe_one (pe_call (ok_is_name T) (hr.mono (by decide)) (by rfl) T.g_is_name T.F_is_name.kp (b_is_name T) .nil pass0 (pa_cons (pe_ix ix_seq (pv 1) (pe_int) (fun _ _ => rfl)) pa_nil))))))))))
theorem b_is_test (T : Tx K mg w) : Binds K T.fd_is_test ps_is_test [] := T.F_is_test.bindsN fun _ _ _ _ _ _ us hl => match us, hl with | [_], _ => rfl
theorem sd_is_deed (T : Tx K mg w) : SnS K (t_is_deed K) m_is_deed := by
  unfold t_is_deed m_is_deed
  exact (sn_seq (sn_ifS (sn_not (sn_B (sn_isT (by decide) (sn_var)))) (sn_ret (sn_bl)) sn_next)
      (sn_seq (sn_asg (sn_split (sn_var) (sn_str)) sn_gName)
      (sn_ret (sn_orV (sn_op ov_eq (sn_var) (sn_lst (sn_cons (sn_str) sn_nil))) (sn_andV (sn_op ov_eq (sn_cb1 ou_len (sn_var)) (sn_int)) (sn_andV (sn_op ov_in (sn_ix (sn_var) (sn_int)) (sn_tup (sn_cons (sn_str) (sn_cons (sn_str) sn_nil)))) (sn_call (sn_cons (sn_ix (sn_var) (sn_int)) sn_nil) dfl_nil)))))))
theorem ok_is_deed (T : Tx K mg w) : FnOk P w K mg base CX0 2 (He.ga K "is_deed") T.fd_is_deed ps_is_deed (sp_is_deed K) := by
  refine T.F_is_deed.ok sc_is_deed (fun vs H Q E h => ln_body h) (fun cdv A outer s H vs Q E hr h => ⟨t_is_deed K, PSs.nox ?_, fn_rd (N := nm_is_deed) (fn_body (sd_is_deed T)) h⟩)
  exact (pss_cons (ps_if (pt_not (pt_val (pe_callB call_isi (by rfl) T.f_isinstance (by decide +kernel) (pa_cons (pv 0) (pa_cons (pe_bltn (by rfl) T.f_str (by decide +kernel) rfl) pa_nil))))) (pss_one (ps_ret (pe_bl))) pss_nil)
      (pss_cons (ps_a 1 sc_is_deed.nd (pe_split' (pv 0) (pe_str)))
      (pss_one (ps_ret (pe_or (pe_cmpR (op_eqq hr.units) (pv 1) (pe_lst (pa_cons (pe_str) pa_nil)) (nomark _)) (pe_one (pe_and (pe_cmpR (op_eqq hr.units) (pe_callB (call_lenA) (by rfl) T.f_len (by decide +kernel) (pa_cons (pv 1) pa_nil)) (pe_int) (nomark _)) (pe_and (pe_cmpR (op_inn) (pe_ix ix_seq (pv 1) (pe_int) (fun _ _ => rfl)) (pe_tup (pa_cons (pe_str) (pa_cons (pe_str) pa_nil))) (by rfl)) (pe_one (pe_call (ok_is_name T) (hr.mono (by decide)) (by rfl) T.g_is_name T.F_is_name.kp (b_is_name T) .nil pass0 (pa_cons (pe_ix ix_seq (pv 1) (pe_int) (fun _ _ => rfl)) pa_nil)))))))))))
theorem b_is_deed (T : Tx K mg w) : Binds K T.fd_is_deed ps_is_deed [] := T.F_is_deed.bindsN fun _ _ _ _ _ _ us hl => match us, hl with | [_], _ => rfl
theorem sd_Tool_init (T : Tx K mg w) : SnS K (t_Tool_init K) m_Tool_init := by
  unfold t_Tool_init m_Tool_init
  exact (sn_seq (sn_ifS (sn_or (sn_not (sn_B (sn_call (sn_cons (sn_var) sn_nil) dfl_nil))) (sn_test (sn_op ov_lt (sn_var) (sn_int)))) sn_never sn_next)
      (sn_seq (sn_ifS (sn_or (sn_not (sn_B (sn_call (sn_cons (sn_var) sn_nil) dfl_nil))) (sn_not (sn_B (sn_cb1 ou_all (sn_lc (sn_iSeq (sn_var)) sn_cName sn_yes (sn_isC T.is_Row (sn_var))))))) sn_never sn_next)
      (sn_seq (sn_fldS T.ck_Tool.cl T.na_Tool_window (sn_var) (sn_var))
      (sn_seq (sn_fldS T.ck_Tool.cl T.na_Tool_rows (sn_var) (sn_cb1 ou_tup (sn_var)))
      (sn_fldS T.ck_Tool.cl T.na_Tool_marks (sn_var) (sn_call (sn_cons (sn_fld T.ck_Tool.cl T.na_Tool_rows (sn_var)) sn_nil) dfl_nil))))))
theorem ok_Tool_init (T : Tx K mg w) : FnOk P w K mg base CX0 2 (He.ma K (He.ga K "Tool") "__init__") T.fd_Tool_init ps_Tool_init (sp_Tool_init K) := by
  refine T.F_Tool_init.ok sc_Tool_init (fun vs H Q E h => ln_body h) (fun cdv A outer s H vs Q E hr h => ⟨t_Tool_init K, PSs.nox ?_, fn_rd (N := nm_Tool_init) (fn_body (sd_Tool_init T)) h⟩)
  exact (pss_cons (ps_if (PW.pt (pw_or (pt_not (pt_val (pe_call (ok_is_integer T) (hr.mono (by decide)) (by rfl) T.g_is_integer T.F_is_integer.kp (b_is_integer T) .nil pass0 (pa_cons (pv 1) pa_nil)))) (pw_or1 (pt_cmpR (op_lt') (pv 1) (pe_int) (nomark _))))) pss_never pss_nil)
      (pss_cons (ps_if (PW.pt (pw_or (pt_not (pt_val (pe_call (ok_is_sequence T) (hr.mono (by decide)) (by rfl) T.g_is_sequence T.F_is_sequence.kp (b_is_sequence T) .nil pass0 (pa_cons (pv 2) pa_nil)))) (pw_or1 (pt_not (pt_val (pe_callB (cr_all rfl) (by rfl) T.f_all (by decide +kernel) (pa_cons (pe_lc (own := [("row", 3)]) rfl sc_Tool_init.nd (pi_seq (pv 2)) (blkOk_by (own := [("row", 3)]) (N := nm_Tool_init) (sc := defScope st_Tool_init) (by decide +kernel)) (fun _ _ _ _ _ => (pg_n 3 sc_Tool_init.nd)) (fun _ _ _ _ _ => pts_nil) (fun _ _ _ _ _ => (pe_callB call_isi (by rfl) T.f_isinstance (by decide +kernel) (pa_cons (pv 3) (pa_cons (pe_glob (by rfl) T.g_Row rfl) pa_nil))))) pa_nil))))))) pss_never pss_nil)
      (pss_cons (ps_fld (pv 0) (pv 1) rfl)
      (pss_cons (ps_fld (pv 0) (pe_callTy (call_tupOf) (by rfl) T.f_tuple (by decide +kernel) (pa_cons (pv 2) pa_nil)) rfl)
      (pss_one (ps_fld (pv 0) (pe_call (ok_names_in T) (hr.mono (by decide)) (by rfl) T.g_names_in T.F_names_in.kp (b_names_in T) .nil pass0 (pa_cons (pe_fld (pv 0) rfl) pa_nil)) rfl))))))
theorem b_Tool_init (T : Tx K mg w) : Binds K T.fd_Tool_init ps_Tool_init [] := by
  obtain ⟨ds, hv, hb⟩ := T.F_Tool_init.binds1 (ps := ps_Tool_init) 3 1 (by simp [dfl_Tool_init]) rfl (fun T kV doc pm an cdv ct us its hu hi => match us, its, hu, hi with | [_, _, _], [_], _, _ => ⟨_, rfl, rfl⟩)
  cases hv
  exact hb
theorem sd_Tool_row_for (T : Tx K mg w) : SnS K (t_Tool_row_for K) m_Tool_row_for := by
  unfold t_Tool_row_for m_Tool_row_for
  exact (sn_seq (sn_for (sn_iEnum (sn_cons (sn_fld T.ck_Tool.cl T.na_Tool_rows (sn_var)) sn_nil)) (sn_gTup (sn_gCons sn_gName (sn_gCons sn_gName sn_gNil))) (sn_ifS (sn_and (sn_test (sn_op ov_eq (sn_fld T.ck_Row.cl T.na_Row_word (sn_var)) (sn_var))) (sn_B (sn_meth (sn_var) (sn_cons (sn_var) sn_nil) dfl_nil))) (sn_ret (sn_var)) sn_next))
      (sn_ret (sn_non)))
theorem ok_Tool_row_for (T : Tx K mg w) : FnOk P w K mg base CX0 2 (He.ma K (He.ga K "Tool") "row_for") T.fd_Tool_row_for ps_Tool_row_for (sp_Tool_row_for K) := by
  refine T.F_Tool_row_for.ok sc_Tool_row_for (fun vs H Q E h => ln_body h) (fun cdv A outer s H vs Q E hr h => ⟨t_Tool_row_for K, PSs.nox ?_, fn_rd (N := nm_Tool_row_for) (fn_body (sd_Tool_row_for T)) h⟩)
  exact (pss_cons (ps_for PassesOwn.never rfl (pi_enumA (by rfl) T.f_enumerate (pa_cons (pe_fld (pv 0) rfl) pa_nil)) (pg_tup rfl (pgs_cons (pg_n 3 sc_Tool_row_for.nd) (pgs_cons (pg_n 4 sc_Tool_row_for.nd) pgs_nil))) (pss_one (ps_if (PW.pt (pw_and (pt_cmpR (op_eqq hr.units) (pe_fld (pv 4) rfl) (pv 1) (nomark _)) (pw_and1 (pt_val (pe_meth (pv 4) T.cl_Row T.m_Row_fits (ok_Row_fits T) (hr.mono (by decide)) (b_Row_fits T) .nil pass0 (pa_cons (pv 2) pa_nil)))))) (pss_one (ps_ret (pv 3))) pss_nil)))
      (pss_one (ps_ret (pe_non))))
theorem b_Tool_row_for (T : Tx K mg w) : Binds K T.fd_Tool_row_for ps_Tool_row_for [] := T.F_Tool_row_for.bindsN fun _ _ _ _ _ _ us hl => match us, hl with | [_, _, _], _ => rfl
theorem sd_law_answer (T : Tx K mg w) : SnS K (t_law_answer K) m_law_answer := by
  unfold t_law_answer m_law_answer
  exact (sn_seq (sn_asg (sn_call (sn_cons (sn_var) (sn_cons (sn_call (sn_cons (sn_var) (sn_cons (sn_var) (sn_cons (sn_var) sn_nil))) dfl_nil) (sn_cons (sn_var) sn_nil))) dfl_nil) sn_gName)
      (sn_seq (sn_asg (sn_call (sn_cons (sn_var) (sn_cons (sn_var) (sn_cons (sn_var) (sn_cons (sn_var) (sn_cons (sn_var) sn_nil))))) dfl_nil) (sn_gTup (sn_gCons sn_gName (sn_gCons sn_gName sn_gNil))))
      (sn_ret (sn_tup (sn_cons (sn_andV (sn_notN (sn_var)) (sn_ix (sn_ix (sn_ix (sn_var) (sn_int)) (sn_var)) (sn_int))) (sn_cons (sn_var) (sn_cons (sn_var) (sn_cons (sn_var) sn_nil))))))))
theorem ok_law_answer (T : Tx K mg w) : FnOk P w K mg base CX0 2 (He.ga K "_law_answer") T.fd_law_answer ps_law_answer (sp_law_answer K) := by
  refine T.F_law_answer.ok sc_law_answer (fun vs H Q E h => ln_body h) (fun cdv A outer s H vs Q E hr h => ⟨t_law_answer K, PSs.nox ?_, fn_rd (N := nm_law_answer) (fn_body (sd_law_answer T)) h⟩)
  exact (pss_cons (ps_a 4 sc_law_answer.nd (pe_call (ok_law_row_done T) (hr.mono (by decide)) (by rfl) T.g_law_row_done T.F_law_row_done.kp (b_law_row_done T) .nil pass0 (pa_cons (pv 0) (pa_cons (pe_call (ok_law_word T) (hr.mono (by decide)) (by rfl) T.g_law_word T.F_law_word.kp (b_law_word T) .nil pass0 (pa_cons (pv 0) (pa_cons (pv 1) (pa_cons (pv 3) pa_nil)))) (pa_cons (pv 2) pa_nil)))))
      (pss_cons (ps_asg (pe_call (ok_law_deeds T) (hr.mono (by decide)) (by rfl) T.g_law_deeds T.F_law_deeds.kp (b_law_deeds T) .nil pass0 (pa_cons (pv 0) (pa_cons (pv 4) (pa_cons (pv 1) (pa_cons (pv 2) (pa_cons (pv 3) pa_nil)))))) (pg_tup rfl (pgs_cons (pg_n 5 sc_law_answer.nd) (pgs_cons (pg_n 6 sc_law_answer.nd) pgs_nil))))
      (pss_one (ps_ret (pe_tup (pa_cons (pe_and (pe_cmpR (op_notN1) (pv 4) (pe_non) (nomark _)) (pe_one (pe_ix ix_seq (pe_ix ix_seq (pe_ix ix_seq (pv 0) (pe_int) (fun _ _ => rfl)) (pv 4) (fun _ _ => rfl)) (pe_int) (fun _ _ => rfl)))) (pa_cons (pv 5) (pa_cons (pv 6) (pa_cons (pv 4) pa_nil)))))))))
theorem b_law_answer (T : Tx K mg w) : Binds K T.fd_law_answer ps_law_answer [] := T.F_law_answer.bindsN fun _ _ _ _ _ _ us hl => match us, hl with | [_, _, _, _], _ => rfl
theorem sd_law_pick (T : Tx K mg w) : SnS K (t_law_pick K) m_law_pick := by
  unfold t_law_pick m_law_pick
  exact (sn_ret (sn_ix (sn_var) (sn_call (sn_cons (sn_var) (sn_cons (sn_cb1 ou_len (sn_var)) sn_nil)) dfl_nil)))
theorem ok_law_pick (T : Tx K mg w) : FnOk P w K mg base CX0 2 (He.ga K "_law_pick") T.fd_law_pick ps_law_pick (sp_law_pick K) := by
  refine T.F_law_pick.ok sc_law_pick (fun vs H Q E h => ln_body h) (fun cdv A outer s H vs Q E hr h => ⟨t_law_pick K, PSs.nox ?_, fn_rd (N := nm_law_pick) (fn_body (sd_law_pick T)) h⟩)
  exact (pss_one (ps_ret (pe_ix ix_seq (pv 1) (pe_call (ok_law_draw T) (hr.mono (by decide)) (by rfl) T.g_law_draw T.F_law_draw.kp (b_law_draw T) .nil pass0 (pa_cons (pv 0) (pa_cons (pe_callB (call_lenA) (by rfl) T.f_len (by decide +kernel) (pa_cons (pv 1) pa_nil)) pa_nil))) (fun _ _ => rfl))))
theorem b_law_pick (T : Tx K mg w) : Binds K T.fd_law_pick ps_law_pick [] := T.F_law_pick.bindsN fun _ _ _ _ _ _ us hl => match us, hl with | [_, _], _ => rfl
theorem sd_law_mixed (T : Tx K mg w) : SnS K (t_law_mixed K) m_law_mixed := by
  unfold t_law_mixed m_law_mixed
  exact (sn_seq (sn_par (sn_cons (sn_lstOfM (sn_var)) (sn_cons (sn_lstM sn_nil) sn_nil)))
      (sn_seq (sn_for (sn_iRng1 (sn_cons (sn_cb1 ou_len (sn_var)) sn_nil)) sn_gName (sn_drop (sn_append (sn_var) (sn_cons (sn_popAt (sn_var) (sn_cons (sn_call (sn_cons (sn_var) (sn_cons (sn_cb1 ou_len (sn_var)) sn_nil)) dfl_nil) sn_nil)) sn_nil))))
      (sn_ret (sn_var))))
theorem ok_law_mixed (T : Tx K mg w) : FnOk P w K mg base CX0 2 (He.ga K "_law_mixed") T.fd_law_mixed ps_law_mixed (sp_law_mixed K) := by
  refine T.F_law_mixed.ok sc_law_mixed (fun vs H Q E h => ln_body h) (fun cdv A outer s H vs Q E hr h => ⟨t_law_mixed K, PSs.nox ?_, fn_rd (N := nm_law_mixed) (fn_body (sd_law_mixed T)) h⟩)
  exact (pss_cons (ps_par (by rfl) sc_law_mixed.nd rfl rfl (by decide) rfl rfl (pa_cons (pe_callTy call_lstOfM (by rfl) T.f_list (by decide +kernel) (pa_cons (pv 1) pa_nil)) (pa_cons (pe_lstM pa_nil) pa_nil)) (by rfl))
      (pss_cons (ps_for PassesOwn.never rfl (pi_range1 (by rfl) T.f_range (pa_cons (pe_callB (call_lenA) (by rfl) T.f_len (by decide +kernel) (pa_cons (pv 2) pa_nil)) pa_nil)) (pg_n 4 sc_law_mixed.nd) (pss_one (ps_expr (pe_bm PySem.F.plainAttrs_list PySem.F.slot_list_append PySem.F.type_list_append mt_append (pv 3) (pa_cons (pe_bm PySem.F.plainAttrs_list PySem.F.slot_list_pop PySem.F.type_list_pop mt_popAt (pv 2) (pa_cons (pe_call (ok_law_draw T) (hr.mono (by decide)) (by rfl) T.g_law_draw T.F_law_draw.kp (b_law_draw T) .nil pass0 (pa_cons (pv 0) (pa_cons (pe_callB (call_lenA) (by rfl) T.f_len (by decide +kernel) (pa_cons (pv 2) pa_nil)) pa_nil))) pa_nil)) pa_nil)))))
      (pss_one (ps_ret (pv 3)))))
theorem b_law_mixed (T : Tx K mg w) : Binds K T.fd_law_mixed ps_law_mixed [] := T.F_law_mixed.bindsN fun _ _ _ _ _ _ us hl => match us, hl with | [_, _], _ => rfl
theorem sd_are_tests (T : Tx K mg w) : SnS K (t_are_tests K) m_are_tests := by
  unfold t_are_tests m_are_tests
  exact (sn_ret (sn_andV (sn_call (sn_cons (sn_var) sn_nil) dfl_nil) (sn_cb1 ou_all (sn_lc (sn_iSeq (sn_var)) sn_cName sn_yes (sn_call (sn_cons (sn_var) sn_nil) dfl_nil)))))
theorem ok_are_tests (T : Tx K mg w) : FnOk P w K mg base CX0 3 (He.ga K "are_tests") T.fd_are_tests ps_are_tests (sp_are_tests K) := by
  refine T.F_are_tests.ok sc_are_tests (fun vs H Q E h => ln_body h) (fun cdv A outer s H vs Q E hr h => ⟨t_are_tests K, PSs.nox ?_, fn_rd (N := nm_are_tests) (fn_body (sd_are_tests T)) h⟩)
  exact (pss_one (ps_ret (pe_and (pe_call (ok_is_sequence T) (hr.mono (by decide)) (by rfl) T.g_is_sequence T.F_is_sequence.kp (b_is_sequence T) .nil pass0 (pa_cons (pv 0) pa_nil)) (pe_one (pe_callB (cr_all rfl) (by rfl) T.f_all (by decide +kernel) (pa_cons (pe_lc (own := [("one", 1)]) rfl sc_are_tests.nd (pi_seq (pv 0)) (blkOk_by (own := [("one", 1)]) (N := nm_are_tests) (sc := defScope st_are_tests) (by decide +kernel)) (fun _ _ _ _ _ => (pg_n 1 sc_are_tests.nd)) (fun _ _ _ _ _ => pts_nil) (fun _ _ _ _ _ => (pe_call (ok_is_test T) (hr.mono (by decide)) (by rfl) T.g_is_test T.F_is_test.kp (b_is_test T) .nil pass0 (pa_cons (pv 1) pa_nil)))) pa_nil))))))
theorem b_are_tests (T : Tx K mg w) : Binds K T.fd_are_tests ps_are_tests [] := T.F_are_tests.bindsN fun _ _ _ _ _ _ us hl => match us, hl with | [_], _ => rfl
theorem sd_are_deeds (T : Tx K mg w) : SnS K (t_are_deeds K) m_are_deeds := by
  unfold t_are_deeds m_are_deeds
  exact (sn_seq (sn_ifS (sn_or (sn_not (sn_B (sn_call (sn_cons (sn_var) sn_nil) dfl_nil))) (sn_not (sn_B (sn_cb1 ou_all (sn_lc (sn_iSeq (sn_var)) sn_cName sn_yes (sn_call (sn_cons (sn_var) sn_nil) dfl_nil)))))) (sn_ret (sn_bl)) sn_next)
      (sn_ret (sn_orV (sn_op ov_eq (sn_cb1 ou_len (sn_var)) (sn_int)) (sn_andV (sn_op ov_in (sn_var) (sn_strs T.k_LEARNING (by decide +kernel) (by decide))) (sn_op ov_in (sn_str) (sn_var))))))
theorem ok_are_deeds (T : Tx K mg w) : FnOk P w K mg base CX0 3 (He.ga K "are_deeds") T.fd_are_deeds ps_are_deeds (sp_are_deeds K) := by
  refine T.F_are_deeds.ok sc_are_deeds (fun vs H Q E h => ln_body h) (fun cdv A outer s H vs Q E hr h => ⟨t_are_deeds K, PSs.nox ?_, fn_rd (N := nm_are_deeds) (fn_body (sd_are_deeds T)) h⟩)
  exact (pss_cons (ps_if (PW.pt (pw_or (pt_not (pt_val (pe_call (ok_is_sequence T) (hr.mono (by decide)) (by rfl) T.g_is_sequence T.F_is_sequence.kp (b_is_sequence T) .nil pass0 (pa_cons (pv 0) pa_nil)))) (pw_or1 (pt_not (pt_val (pe_callB (cr_all rfl) (by rfl) T.f_all (by decide +kernel) (pa_cons (pe_lc (own := [("one", 2)]) rfl sc_are_deeds.nd (pi_seq (pv 0)) (blkOk_by (own := [("one", 2)]) (N := nm_are_deeds) (sc := defScope st_are_deeds) (by decide +kernel)) (fun _ _ _ _ _ => (pg_n 2 sc_are_deeds.nd)) (fun _ _ _ _ _ => pts_nil) (fun _ _ _ _ _ => (pe_call (ok_is_deed T) (hr.mono (by decide)) (by rfl) T.g_is_deed T.F_is_deed.kp (b_is_deed T) .nil pass0 (pa_cons (pv 2) pa_nil)))) pa_nil))))))) (pss_one (ps_ret (pe_bl))) pss_nil)
      (pss_one (ps_ret (pe_or (pe_cmpR (op_eqq hr.units) (pe_callB (call_lenA) (by rfl) T.f_len (by decide +kernel) (pa_cons (pv 0) pa_nil)) (pe_int) (nomark _)) (pe_one (pe_and (pe_cmpR (op_inn) (pv 1) (pe_glob (by rfl) T.g_LEARNING rfl) (by rfl)) (pe_one (pe_cmpR (op_inn) (pe_str) (pv 0) (by rfl)))))))))
theorem b_are_deeds (T : Tx K mg w) : Binds K T.fd_are_deeds ps_are_deeds [] := T.F_are_deeds.bindsN fun _ _ _ _ _ _ us hl => match us, hl with | [_, _], _ => rfl
theorem sd_Tool_answer (T : Tx K mg w) : SnS K (t_Tool_answer K) m_Tool_answer := by
  unfold t_Tool_answer m_Tool_answer
  exact (sn_seq (sn_asg (sn_cb1 ou_tup (sn_cb1 ou_sort (sn_lc (sn_iSeq (sn_var)) sn_cName sn_yes (sn_cb1 ou_str (sn_var))))) sn_gName)
      (sn_seq (sn_asg (sn_meth (sn_var) (sn_cons (sn_meth (sn_var) (sn_cons (sn_var) (sn_cons (sn_var) sn_nil)) dfl_nil) (sn_cons (sn_var) sn_nil)) dfl_nil) sn_gName)
      (sn_seq (sn_ifS (sn_test (sn_isN (sn_var))) (sn_ret (sn_tup (sn_cons (sn_bl) (sn_cons (sn_var) (sn_cons (sn_var) (sn_cons (sn_non) sn_nil)))))) sn_next)
      (sn_seq (sn_asg (sn_ix (sn_fld T.ck_Tool.cl T.na_Tool_rows (sn_var)) (sn_var)) sn_gName)
      (sn_ret (sn_tup (sn_cons (sn_fld T.ck_Row.cl T.na_Row_opens (sn_var)) (sn_cons (sn_if (sn_test (sn_op ov_in (sn_str) (sn_fld T.ck_Row.cl T.na_Row_deeds (sn_var)))) (sn_var) (sn_var)) (sn_cons (sn_meth (sn_var) (sn_cons (sn_var) sn_nil) dfl_nil) (sn_cons (sn_var) sn_nil))))))))))
theorem ok_Tool_answer (T : Tx K mg w) : FnOk P w K mg base CX0 3 (He.ma K (He.ga K "Tool") "answer") T.fd_Tool_answer ps_Tool_answer (sp_Tool_answer K) := by
  refine T.F_Tool_answer.ok sc_Tool_answer (fun vs H Q E h => ln_body h) (fun cdv A outer s H vs Q E hr h => ⟨t_Tool_answer K, PSs.nox ?_, fn_rd (N := nm_Tool_answer) (fn_body (sd_Tool_answer T)) h⟩)
  exact (pss_cons (ps_a 5 sc_Tool_answer.nd (pe_callTy (call_tupOf) (by rfl) T.f_tuple (by decide +kernel) (pa_cons (pe_callB (cr_sortedS) (by rfl) T.f_sorted (by decide +kernel) (pa_cons (pe_lc (own := [("mark", 4)]) rfl sc_Tool_answer.nd (pi_seq (pv 2)) (blkOk_by (own := [("mark", 4)]) (N := nm_Tool_answer) (sc := defScope st_Tool_answer) (by decide +kernel)) (fun _ _ _ _ _ => (pg_n 4 sc_Tool_answer.nd)) (fun _ _ _ _ _ => pts_nil) (fun _ _ _ _ _ => (pe_callTy (call_strS) (by rfl) T.f_str (by decide +kernel) (pa_cons (pv 4) pa_nil)))) pa_nil)) pa_nil)))
      (pss_cons (ps_a 6 sc_Tool_answer.nd (pe_meth (pv 0) T.cl_Tool T.m_Tool_row_for (ok_Tool_row_for T) (hr.mono (by decide)) (b_Tool_row_for T) .nil pass0 (pa_cons (pe_meth (pv 0) T.cl_Tool T.m_Tool_word_of (ok_Tool_word_of T) (hr.mono (by decide)) (b_Tool_word_of T) .nil pass0 (pa_cons (pv 1) (pa_cons (pv 3) pa_nil))) (pa_cons (pv 5) pa_nil))))
      (pss_cons (ps_if (pt_cmpR (op_isN1) (pv 6) (pe_non) (nomark _)) (pss_one (ps_ret (pe_tup (pa_cons (pe_bl) (pa_cons (pv 1) (pa_cons (pv 5) (pa_cons (pe_non) pa_nil))))))) pss_nil)
      (pss_cons (ps_a 7 sc_Tool_answer.nd (pe_ix ix_seq (pe_fld (pv 0) rfl) (pv 6) (fun _ _ => rfl)))
      (pss_one (ps_ret (pe_tup (pa_cons (pe_fld (pv 7) rfl) (pa_cons (pe_ifExp (pt_cmpR (op_inn) (pe_str) (pe_fld (pv 7) rfl) (by rfl)) (pv 3) (pv 1)) (pa_cons (pe_meth (pv 7) T.cl_Row T.m_Row_marks_behind (ok_Row_marks_behind T) (hr.mono (by decide)) (b_Row_marks_behind T) .nil pass0 (pa_cons (pv 5) pa_nil)) (pa_cons (pv 6) pa_nil)))))))))))
theorem b_Tool_answer (T : Tx K mg w) : Binds K T.fd_Tool_answer ps_Tool_answer [] := T.F_Tool_answer.bindsN fun _ _ _ _ _ _ us hl => match us, hl with | [_, _, _, _], _ => rfl
theorem sd_law_bent (T : Tx K mg w) : SnS K (t_law_bent K) m_law_bent := by
  unfold t_law_bent m_law_bent
  exact (sn_seq (sn_par (sn_cons (sn_lcM (sn_iSeq (sn_var)) sn_cName sn_yes (sn_tup (sn_cons (sn_ix (sn_var) (sn_int)) (sn_cons (sn_cb1 ou_lst (sn_ix (sn_var) (sn_int))) (sn_cons (sn_cb1 ou_lst (sn_ix (sn_var) (sn_int))) (sn_cons (sn_ix (sn_var) (sn_int)) sn_nil)))))) (sn_cons (sn_call (sn_cons (sn_var) (sn_cons (sn_cb1 ou_len (sn_var)) sn_nil)) dfl_nil) sn_nil)))
      (sn_seq (sn_asg (sn_ix (sn_var) (sn_var)) (sn_gTup (sn_gCons sn_gName (sn_gCons sn_gName (sn_gCons sn_gName (sn_gCons sn_gName sn_gNil))))))
      (sn_seq (sn_asg (sn_call (sn_cons (sn_var) (sn_cons (sn_int) sn_nil)) dfl_nil) sn_gName)
      (sn_seq (sn_ifS (sn_and (sn_test (sn_op ov_eq (sn_var) (sn_int))) (sn_test (sn_op ov_gt (sn_cb1 ou_len (sn_var)) (sn_int)))) (sn_ret (sn_op ov_plus (sn_sl (sn_var) sn_noPart (sn_part (sn_var))) (sn_sl (sn_var) (sn_part (sn_op ov_plus (sn_var) (sn_int))) sn_noPart))) sn_next)
      (sn_seq (sn_ifS (sn_and (sn_test (sn_op ov_eq (sn_var) (sn_int))) (sn_test (sn_op ov_ne (sn_var) (sn_str)))) (sn_setI (sn_tup (sn_cons (sn_var) (sn_cons (sn_var) (sn_cons (sn_var) (sn_cons (sn_notV (sn_var)) sn_nil))))) (sn_var) (sn_var)) (sn_ifS (sn_and (sn_test (sn_op ov_eq (sn_var) (sn_int))) (sn_test (sn_op ov_lt (sn_cb1 ou_len (sn_var)) (sn_int)))) (sn_setI (sn_tup (sn_cons (sn_var) (sn_cons (sn_op ov_plus (sn_var) (sn_lst (sn_cons (sn_call (sn_cons (sn_var) (sn_cons (sn_lst (sn_cons (sn_str) (sn_cons (sn_str) sn_nil))) sn_nil)) dfl_nil) sn_nil))) (sn_cons (sn_var) (sn_cons (sn_var) sn_nil))))) (sn_var) (sn_var)) (sn_ifS (sn_and (sn_test (sn_op ov_eq (sn_var) (sn_int))) (sn_and (sn_test (sn_op ov_in (sn_str) (sn_var))) (sn_test (sn_op ov_lt (sn_cb1 ou_len (sn_var)) (sn_int))))) (sn_setI (sn_tup (sn_cons (sn_var) (sn_cons (sn_var) (sn_cons (sn_op ov_plus (sn_var) (sn_lst (sn_cons (sn_call (sn_cons (sn_var) (sn_cons (sn_lst (sn_cons (sn_str) (sn_cons (sn_str) sn_nil))) sn_nil)) dfl_nil) sn_nil))) (sn_cons (sn_var) sn_nil))))) (sn_var) (sn_var)) (sn_ifS (sn_test (sn_op ov_eq (sn_var) (sn_int))) (sn_setI (sn_tup (sn_cons (sn_var) (sn_cons (sn_var) (sn_cons (sn_lst sn_nil) (sn_cons (sn_var) sn_nil))))) (sn_var) (sn_var)) (sn_ifS (sn_and (sn_test (sn_op ov_eq (sn_var) (sn_int))) (sn_test (sn_op ov_in (sn_var) (sn_tup (sn_cons (sn_str) (sn_cons (sn_str) (sn_cons (sn_str) sn_nil))))))) (sn_setI (sn_tup (sn_cons (sn_var) (sn_cons (sn_var) (sn_cons (sn_lst (sn_cons (sn_str) sn_nil)) (sn_cons (sn_var) sn_nil))))) (sn_var) (sn_var)) (sn_ifS (sn_and (sn_test (sn_op ov_eq (sn_var) (sn_int))) (sn_test (sn_op ov_lt (sn_cb1 ou_len (sn_var)) (sn_int)))) (sn_asg (sn_addM (sn_op ov_plus (sn_sl (sn_var) sn_noPart (sn_part (sn_var))) (sn_lst (sn_cons (sn_tup (sn_cons (sn_var) (sn_cons (sn_lst (sn_cons (sn_str) sn_nil)) (sn_cons (sn_lst sn_nil) (sn_cons (sn_orV (sn_op ov_eq (sn_var) (sn_str)) (sn_notV (sn_var))) sn_nil))))) sn_nil))) (sn_sl (sn_var) (sn_part (sn_var)) sn_noPart)) sn_gName) sn_next))))))
      (sn_ret (sn_var)))))))
theorem ok_law_bent (T : Tx K mg w) : FnOk P w K mg base CX0 3 (He.ga K "_law_bent") T.fd_law_bent ps_law_bent (sp_law_bent K) := by
  refine T.F_law_bent.ok sc_law_bent (fun vs H Q E h => ln_body h) (fun cdv A outer s H vs Q E hr h => ⟨t_law_bent K, PSs.nox ?_, fn_rd (N := nm_law_bent) (fn_body (sd_law_bent T)) h⟩)
  exact (pss_cons (ps_par (by rfl) sc_law_bent.nd rfl rfl (by decide) rfl rfl (pa_cons (pe_lc (own := [("_law_row", 2)]) rfl sc_law_bent.nd (pi_seq (pv 1)) (blkOk_by (own := [("_law_row", 2)]) (N := nm_law_bent) (sc := defScope st_law_bent) (by decide +kernel)) (fun _ _ _ _ _ => (pg_n 2 sc_law_bent.nd)) (fun _ _ _ _ _ => pts_nil) (fun _ _ _ _ _ => (pe_tup (pa_cons (pe_ix ix_seq (pv 2) (pe_int) (fun _ _ => rfl)) (pa_cons (pe_callTy (call_lstOf) (by rfl) T.f_list (by decide +kernel) (pa_cons (pe_ix ix_seq (pv 2) (pe_int) (fun _ _ => rfl)) pa_nil)) (pa_cons (pe_callTy (call_lstOf) (by rfl) T.f_list (by decide +kernel) (pa_cons (pe_ix ix_seq (pv 2) (pe_int) (fun _ _ => rfl)) pa_nil)) (pa_cons (pe_ix ix_seq (pv 2) (pe_int) (fun _ _ => rfl)) pa_nil))))))) (pa_cons (pe_call (ok_law_draw T) (hr.mono (by decide)) (by rfl) T.g_law_draw T.F_law_draw.kp (b_law_draw T) .nil pass0 (pa_cons (pv 0) (pa_cons (pe_callB (call_lenA) (by rfl) T.f_len (by decide +kernel) (pa_cons (pv 1) pa_nil)) pa_nil))) pa_nil)) (by rfl))
      (pss_cons (ps_asg (pe_ix ix_seq (pv 3) (pv 4) (fun _ _ => rfl)) (pg_tup rfl (pgs_cons (pg_n 5 sc_law_bent.nd) (pgs_cons (pg_n 6 sc_law_bent.nd) (pgs_cons (pg_n 7 sc_law_bent.nd) (pgs_cons (pg_n 8 sc_law_bent.nd) pgs_nil))))))
      (pss_cons (ps_a 9 sc_law_bent.nd (pe_call (ok_law_draw T) (hr.mono (by decide)) (by rfl) T.g_law_draw T.F_law_draw.kp (b_law_draw T) .nil pass0 (pa_cons (pv 0) (pa_cons (pe_int) pa_nil))))
      (pss_cons (ps_if (PW.pt (pw_and (pt_cmpR (op_eqq hr.units) (pv 9) (pe_int) (nomark _)) (pw_and1 (pt_cmpR (op_gt') (pe_callB (call_lenA) (by rfl) T.f_len (by decide +kernel) (pa_cons (pv 3) pa_nil)) (pe_int) (nomark _))))) (pss_one (ps_ret (pe_op op_plus (pe_slice sl_any (pv 3) po_none (po_some (pv 4))) (pe_slice sl_any (pv 3) (po_some (pe_op op_plus (pv 4) (pe_int))) po_none)))) pss_nil)
      (pss_cons (ps_if (PW.pt (pw_and (pt_cmpR (op_eqq hr.units) (pv 9) (pe_int) (nomark _)) (pw_and1 (pt_cmpR (op_nee hr.units) (pv 5) (pe_str) (nomark _))))) (pss_one (ps_asg (pe_tup (pa_cons (pv 5) (pa_cons (pv 6) (pa_cons (pv 7) (pa_cons (pe_not (pv 8)) pa_nil))))) (pg_sub (pv 3) (pv 4) set_list))) (pss_one (ps_if (PW.pt (pw_and (pt_cmpR (op_eqq hr.units) (pv 9) (pe_int) (nomark _)) (pw_and1 (pt_cmpR (op_lt') (pe_callB (call_lenA) (by rfl) T.f_len (by decide +kernel) (pa_cons (pv 6) pa_nil)) (pe_int) (nomark _))))) (pss_one (ps_asg (pe_tup (pa_cons (pv 5) (pa_cons (pe_op op_plus (pv 6) (pe_lst (pa_cons (pe_call (ok_law_pick T) (hr.mono (by decide)) (by rfl) T.g_law_pick T.F_law_pick.kp (b_law_pick T) .nil pass0 (pa_cons (pv 0) (pa_cons (pe_lst (pa_cons (pe_str) (pa_cons (pe_str) pa_nil))) pa_nil))) pa_nil))) (pa_cons (pv 7) (pa_cons (pv 8) pa_nil))))) (pg_sub (pv 3) (pv 4) set_list))) (pss_one (ps_if (PW.pt (pw_and (pt_cmpR (op_eqq hr.units) (pv 9) (pe_int) (nomark _)) (pw_and (pt_cmpR (op_inn) (pe_str) (pv 7) (by rfl)) (pw_and1 (pt_cmpR (op_lt') (pe_callB (call_lenA) (by rfl) T.f_len (by decide +kernel) (pa_cons (pv 7) pa_nil)) (pe_int) (nomark _)))))) (pss_one (ps_asg (pe_tup (pa_cons (pv 5) (pa_cons (pv 6) (pa_cons (pe_op op_plus (pv 7) (pe_lst (pa_cons (pe_call (ok_law_pick T) (hr.mono (by decide)) (by rfl) T.g_law_pick T.F_law_pick.kp (b_law_pick T) .nil pass0 (pa_cons (pv 0) (pa_cons (pe_lst (pa_cons (pe_str) (pa_cons (pe_str) pa_nil))) pa_nil))) pa_nil))) (pa_cons (pv 8) pa_nil))))) (pg_sub (pv 3) (pv 4) set_list))) (pss_one (ps_if (pt_cmpR (op_eqq hr.units) (pv 9) (pe_int) (nomark _)) (pss_one (ps_asg (pe_tup (pa_cons (pv 5) (pa_cons (pv 6) (pa_cons (pe_lst pa_nil) (pa_cons (pv 8) pa_nil))))) (pg_sub (pv 3) (pv 4) set_list))) (pss_one (ps_if (PW.pt (pw_and (pt_cmpR (op_eqq hr.units) (pv 9) (pe_int) (nomark _)) (pw_and1 (pt_cmpR (op_inn) (pv 5) (pe_tup (pa_cons (pe_str) (pa_cons (pe_str) (pa_cons (pe_str) pa_nil)))) (by rfl))))) (pss_one (ps_asg (pe_tup (pa_cons (pv 5) (pa_cons (pv 6) (pa_cons (pe_lst (pa_cons (pe_str) pa_nil)) (pa_cons (pv 8) pa_nil))))) (pg_sub (pv 3) (pv 4) set_list))) (pss_one (ps_if (PW.pt (pw_and (pt_cmpR (op_eqq hr.units) (pv 9) (pe_int) (nomark _)) (pw_and1 (pt_cmpR (op_lt') (pe_callB (call_lenA) (by rfl) T.f_len (by decide +kernel) (pa_cons (pv 3) pa_nil)) (pe_int) (nomark _))))) (pss_one (ps_a 3 sc_law_bent.nd (pe_op op_plus (pe_op op_plus (pe_slice sl_any (pv 3) po_none (po_some (pv 4))) (pe_lst (pa_cons (pe_tup (pa_cons (pv 5) (pa_cons (pe_lst (pa_cons (pe_str) pa_nil)) (pa_cons (pe_lst pa_nil) (pa_cons (pe_or (pe_cmpR (op_eqq hr.units) (pv 5) (pe_str) (nomark _)) (pe_one (pe_not (pv 8)))) pa_nil))))) pa_nil))) (pe_slice sl_any (pv 3) (po_some (pv 4)) po_none)))) pss_nil)))))))))))
      (pss_one (ps_ret (pv 3))))))))
theorem b_law_bent (T : Tx K mg w) : Binds K T.fd_law_bent ps_law_bent [] := T.F_law_bent.bindsN fun _ _ _ _ _ _ us hl => match us, hl with | [_, _], _ => rfl
theorem sd_wrong_in (T : Tx K mg w) : SnS K (t_wrong_in K) m_wrong_in := by
  unfold t_wrong_in m_wrong_in
  exact (sn_seq (sn_ifS (sn_or (sn_not (sn_B (sn_isT (by decide) (sn_var)))) (sn_test (sn_op ov_nin (sn_var) (sn_strs T.k_WORDS (by decide +kernel) (by decide))))) (sn_ret (sn_str)) sn_next)
      (sn_seq (sn_ifS (sn_not (sn_B (sn_call (sn_cons (sn_var) sn_nil) dfl_nil))) (sn_ret (sn_str)) sn_next)
      (sn_seq (sn_ifS (sn_not (sn_B (sn_call (sn_cons (sn_var) (sn_cons (sn_var) sn_nil)) dfl_nil))) (sn_ret (sn_str)) sn_next)
      (sn_ret (sn_if (sn_and (sn_B (sn_isT (by decide) (sn_var))) (sn_or (sn_B (sn_var)) (sn_test (sn_op ov_ne (sn_var) (sn_str))))) (sn_non) (sn_str))))))
theorem ok_wrong_in (T : Tx K mg w) : FnOk P w K mg base CX0 4 (He.ga K "wrong_in") T.fd_wrong_in ps_wrong_in (sp_wrong_in K) := by
  refine T.F_wrong_in.ok sc_wrong_in (fun vs H Q E h => ln_body h) (fun cdv A outer s H vs Q E hr h => ⟨t_wrong_in K, PSs.nox ?_, fn_rd (N := nm_wrong_in) (fn_body (sd_wrong_in T)) h⟩)
  exact (pss_cons (ps_if (PW.pt (pw_or (pt_not (pt_val (pe_callB call_isi (by rfl) T.f_isinstance (by decide +kernel) (pa_cons (pv 0) (pa_cons (pe_bltn (by rfl) T.f_str (by decide +kernel) rfl) pa_nil))))) (pw_or1 (pt_cmpR (op_nin) (pv 0) (pe_glob (by rfl) T.g_WORDS rfl) (by rfl))))) (pss_one (ps_ret (pe_str))) pss_nil)
      (pss_cons (ps_if (pt_not (pt_val (pe_call (ok_are_tests T) (hr.mono (by decide)) (by rfl) T.g_are_tests T.F_are_tests.kp (b_are_tests T) .nil pass0 (pa_cons (pv 1) pa_nil)))) (pss_one (ps_ret (pe_str))) pss_nil)
      (pss_cons (ps_if (pt_not (pt_val (pe_call (ok_are_deeds T) (hr.mono (by decide)) (by rfl) T.g_are_deeds T.F_are_deeds.kp (b_are_deeds T) .nil pass0 (pa_cons (pv 2) (pa_cons (pv 0) pa_nil))))) (pss_one (ps_ret (pe_str))) pss_nil)
      (pss_one (ps_ret (pe_ifExp (PW.pt (pw_and (pt_val (pe_callB call_isi (by rfl) T.f_isinstance (by decide +kernel) (pa_cons (pv 3) (pa_cons (pe_bltn (by rfl) T.f_bool (by decide +kernel) rfl) pa_nil)))) (pw_and1 (PW.pt (pw_or (pt_val (pv 3)) (pw_or1 (pt_cmpR (op_nee hr.units) (pv 0) (pe_str) (nomark _)))))))) (pe_non) (pe_str)))))))
theorem b_wrong_in (T : Tx K mg w) : Binds K T.fd_wrong_in ps_wrong_in [] := T.F_wrong_in.bindsN fun _ _ _ _ _ _ us hl => match us, hl with | [_, _, _, _], _ => rfl
theorem sd_law_tool (T : Tx K mg w) : SnS K (t_law_tool K) m_law_tool := by
  unfold t_law_tool m_law_tool
  exact (sn_seq (sn_asg (sn_lstM (sn_cons (sn_tup (sn_cons (sn_str) (sn_cons (sn_lst sn_nil) (sn_cons (sn_lst sn_nil) (sn_cons (sn_bl) sn_nil))))) (sn_cons (sn_tup (sn_cons (sn_str) (sn_cons (sn_lst sn_nil) (sn_cons (sn_lst (sn_cons (sn_str) sn_nil)) (sn_cons (sn_bl) sn_nil))))) (sn_cons (sn_tup (sn_cons (sn_str) (sn_cons (sn_lst sn_nil) (sn_cons (sn_lst (sn_cons (sn_str) sn_nil)) (sn_cons (sn_bl) sn_nil))))) sn_nil)))) sn_gName)
      (sn_seq (sn_ifS (sn_test (sn_op ov_eq (sn_call (sn_cons (sn_var) (sn_cons (sn_int) sn_nil)) dfl_nil) (sn_int))) (sn_drop (sn_append (sn_var) (sn_cons (sn_tup (sn_cons (sn_str) (sn_cons (sn_lst sn_nil) (sn_cons (sn_call (sn_cons (sn_var) (sn_cons (sn_lst (sn_cons (sn_lst sn_nil) (sn_cons (sn_lst (sn_cons (sn_str) sn_nil)) sn_nil))) sn_nil)) dfl_nil) (sn_cons (sn_op ov_eq (sn_call (sn_cons (sn_var) (sn_cons (sn_int) sn_nil)) dfl_nil) (sn_int)) sn_nil))))) sn_nil))) sn_next)
      (sn_seq (sn_ifS (sn_test (sn_op ov_eq (sn_call (sn_cons (sn_var) (sn_cons (sn_int) sn_nil)) dfl_nil) (sn_int))) (sn_drop (sn_append (sn_var) (sn_cons (sn_tup (sn_cons (sn_call (sn_cons (sn_var) (sn_cons (sn_lst (sn_cons (sn_str) (sn_cons (sn_str) sn_nil))) sn_nil)) dfl_nil) (sn_cons (sn_lst sn_nil) (sn_cons (sn_lst sn_nil) (sn_cons (sn_bl) sn_nil))))) sn_nil))) sn_next)
      (sn_seq (sn_ifS (sn_test (sn_op ov_eq (sn_call (sn_cons (sn_var) (sn_cons (sn_int) sn_nil)) dfl_nil) (sn_int))) (sn_drop (sn_append (sn_var) (sn_cons (sn_tup (sn_cons (sn_str) (sn_cons (sn_lst sn_nil) (sn_cons (sn_lst (sn_cons (sn_str) sn_nil)) (sn_cons (sn_bl) sn_nil))))) sn_nil))) sn_next)
      (sn_seq (sn_for (sn_iRng1 (sn_cons (sn_call (sn_cons (sn_var) (sn_cons (sn_int) sn_nil)) dfl_nil) sn_nil)) sn_gName (sn_asg (sn_call (sn_cons (sn_var) (sn_cons (sn_var) sn_nil)) dfl_nil) sn_gName))
      (sn_ret (sn_tup (sn_cons (sn_op ov_plus (sn_int) (sn_call (sn_cons (sn_var) (sn_cons (sn_var) sn_nil)) dfl_nil)) (sn_cons (sn_if (sn_test (sn_op ov_eq (sn_call (sn_cons (sn_var) (sn_cons (sn_int) sn_nil)) dfl_nil) (sn_int))) (sn_call (sn_cons (sn_var) (sn_cons (sn_var) sn_nil)) dfl_nil) (sn_var)) sn_nil)))))))))
theorem ok_law_tool (T : Tx K mg w) : FnOk P w K mg base CX0 4 (He.ga K "_law_tool") T.fd_law_tool ps_law_tool (sp_law_tool K) := by
  refine T.F_law_tool.ok sc_law_tool (fun vs H Q E h => ln_body h) (fun cdv A outer s H vs Q E hr h => ⟨t_law_tool K, PSs.nox ?_, fn_rd (N := nm_law_tool) (fn_body (sd_law_tool T)) h⟩)
  exact (pss_cons (ps_a 2 sc_law_tool.nd (pe_lstM (pa_cons (pe_tup (pa_cons (pe_str) (pa_cons (pe_lst pa_nil) (pa_cons (pe_lst pa_nil) (pa_cons (pe_bl) pa_nil))))) (pa_cons (pe_tup (pa_cons (pe_str) (pa_cons (pe_lst pa_nil) (pa_cons (pe_lst (pa_cons (pe_str) pa_nil)) (pa_cons (pe_bl) pa_nil))))) (pa_cons (pe_tup (pa_cons (pe_str) (pa_cons (pe_lst pa_nil) (pa_cons (pe_lst (pa_cons (pe_str) pa_nil)) (pa_cons (pe_bl) pa_nil))))) pa_nil)))))
      (pss_cons (ps_if (pt_cmpR (op_eqq hr.units) (pe_call (ok_law_draw T) (hr.mono (by decide)) (by rfl) T.g_law_draw T.F_law_draw.kp (b_law_draw T) .nil pass0 (pa_cons (pv 0) (pa_cons (pe_int) pa_nil))) (pe_int) (nomark _)) (pss_one (ps_expr (pe_bm PySem.F.plainAttrs_list PySem.F.slot_list_append PySem.F.type_list_append mt_append (pv 2) (pa_cons (pe_tup (pa_cons (pe_str) (pa_cons (pe_lst pa_nil) (pa_cons (pe_call (ok_law_pick T) (hr.mono (by decide)) (by rfl) T.g_law_pick T.F_law_pick.kp (b_law_pick T) .nil pass0 (pa_cons (pv 0) (pa_cons (pe_lst (pa_cons (pe_lst pa_nil) (pa_cons (pe_lst (pa_cons (pe_str) pa_nil)) pa_nil))) pa_nil))) (pa_cons (pe_cmpR (op_eqq hr.units) (pe_call (ok_law_draw T) (hr.mono (by decide)) (by rfl) T.g_law_draw T.F_law_draw.kp (b_law_draw T) .nil pass0 (pa_cons (pv 0) (pa_cons (pe_int) pa_nil))) (pe_int) (nomark _)) pa_nil))))) pa_nil)))) pss_nil)
      (pss_cons (ps_if (pt_cmpR (op_eqq hr.units) (pe_call (ok_law_draw T) (hr.mono (by decide)) (by rfl) T.g_law_draw T.F_law_draw.kp (b_law_draw T) .nil pass0 (pa_cons (pv 0) (pa_cons (pe_int) pa_nil))) (pe_int) (nomark _)) (pss_one (ps_expr (pe_bm PySem.F.plainAttrs_list PySem.F.slot_list_append PySem.F.type_list_append mt_append (pv 2) (pa_cons (pe_tup (pa_cons (pe_call (ok_law_pick T) (hr.mono (by decide)) (by rfl) T.g_law_pick T.F_law_pick.kp (b_law_pick T) .nil pass0 (pa_cons (pv 0) (pa_cons (pe_lst (pa_cons (pe_str) (pa_cons (pe_str) pa_nil))) pa_nil))) (pa_cons (pe_lst pa_nil) (pa_cons (pe_lst pa_nil) (pa_cons (pe_bl) pa_nil))))) pa_nil)))) pss_nil)
      (pss_cons (ps_if (pt_cmpR (op_eqq hr.units) (pe_call (ok_law_draw T) (hr.mono (by decide)) (by rfl) T.g_law_draw T.F_law_draw.kp (b_law_draw T) .nil pass0 (pa_cons (pv 0) (pa_cons (pe_int) pa_nil))) (pe_int) (nomark _)) (pss_one (ps_expr (pe_bm PySem.F.plainAttrs_list PySem.F.slot_list_append PySem.F.type_list_append mt_append (pv 2) (pa_cons (pe_tup (pa_cons (pe_str) (pa_cons (pe_lst pa_nil) (pa_cons (pe_lst (pa_cons (pe_str) pa_nil)) (pa_cons (pe_bl) pa_nil))))) pa_nil)))) pss_nil)
      (pss_cons (ps_for PassesOwn.never rfl (pi_range1 (by rfl) T.f_range (pa_cons (pe_call (ok_law_draw T) (hr.mono (by decide)) (by rfl) T.g_law_draw T.F_law_draw.kp (b_law_draw T) .nil pass0 (pa_cons (pv 0) (pa_cons (pe_int) pa_nil))) pa_nil)) (pg_n 3 sc_law_tool.nd) (pss_one (ps_a 2 sc_law_tool.nd (pe_call (ok_law_bent T) (hr.mono (by decide)) (by rfl) T.g_law_bent T.F_law_bent.kp (b_law_bent T) .nil pass0 (pa_cons (pv 0) (pa_cons (pv 2) pa_nil))))))
      (pss_one (ps_ret (pe_tup (pa_cons (pe_op op_plus (pe_int) (pe_call (ok_law_draw T) (hr.mono (by decide)) (by rfl) T.g_law_draw T.F_law_draw.kp (b_law_draw T) .nil pass0 (pa_cons (pv 0) (pa_cons (pv 1) pa_nil)))) (pa_cons (pe_ifExp (pt_cmpR (op_eqq hr.units) (pe_call (ok_law_draw T) (hr.mono (by decide)) (by rfl) T.g_law_draw T.F_law_draw.kp (b_law_draw T) .nil pass0 (pa_cons (pv 0) (pa_cons (pe_int) pa_nil))) (pe_int) (nomark _)) (pe_call (ok_law_mixed T) (hr.mono (by decide)) (by rfl) T.g_law_mixed T.F_law_mixed.kp (b_law_mixed T) .nil pass0 (pa_cons (pv 0) (pa_cons (pv 2) pa_nil))) (pv 2)) pa_nil))))))))))
theorem b_law_tool (T : Tx K mg w) : Binds K T.fd_law_tool ps_law_tool [] := T.F_law_tool.bindsN fun _ _ _ _ _ _ us hl => match us, hl with | [_, _], _ => rfl
theorem sd_Row_init (T : Tx K mg w) : SnS K (t_Row_init K) m_Row_init := by
  unfold t_Row_init m_Row_init
  exact (sn_seq (sn_asg (sn_call (sn_cons (sn_var) (sn_cons (sn_var) (sn_cons (sn_var) (sn_cons (sn_var) sn_nil)))) dfl_nil) sn_gName)
      (sn_seq (sn_ifS (sn_test (sn_notN (sn_var))) sn_never sn_next)
      (sn_seq (sn_fldS T.ck_Row.cl T.na_Row_word (sn_var) (sn_var))
      (sn_seq (sn_fldS T.ck_Row.cl T.na_Row_tests (sn_var) (sn_cb1 ou_tup (sn_var)))
      (sn_seq (sn_fldS T.ck_Row.cl T.na_Row_deeds (sn_var) (sn_cb1 ou_tup (sn_var)))
      (sn_fldS T.ck_Row.cl T.na_Row_opens (sn_var) (sn_var)))))))
theorem ok_Row_init (T : Tx K mg w) : FnOk P w K mg base CX0 5 (He.ma K (He.ga K "Row") "__init__") T.fd_Row_init ps_Row_init (sp_Row_init K) := by
  refine T.F_Row_init.ok sc_Row_init (fun vs H Q E h => ln_body h) (fun cdv A outer s H vs Q E hr h => ⟨t_Row_init K, PSs.nox ?_, fn_rd (N := nm_Row_init) (fn_body (sd_Row_init T)) h⟩)
  exact (pss_cons (ps_a 5 sc_Row_init.nd (pe_call (ok_wrong_in T) (hr.mono (by decide)) (by rfl) T.g_wrong_in T.F_wrong_in.kp (b_wrong_in T) .nil pass0 (pa_cons (pv 1) (pa_cons (pv 2) (pa_cons (pv 3) (pa_cons (pv 4) pa_nil))))))
      (pss_cons (ps_if (pt_cmpR (op_notN1) (pv 5) (pe_non) (nomark _)) pss_never pss_nil)
      (pss_cons (ps_fld (pv 0) (pv 1) rfl)
      (pss_cons (ps_fld (pv 0) (pe_callTy (call_tupOf) (by rfl) T.f_tuple (by decide +kernel) (pa_cons (pv 2) pa_nil)) rfl)
      (pss_cons (ps_fld (pv 0) (pe_callTy (call_tupOf) (by rfl) T.f_tuple (by decide +kernel) (pa_cons (pv 3) pa_nil)) rfl)
      (pss_one (ps_fld (pv 0) (pv 4) rfl)))))))
theorem b_Row_init (T : Tx K mg w) : Binds K T.fd_Row_init ps_Row_init [] := by
  obtain ⟨ds, hv, hb⟩ := T.F_Row_init.binds1 (ps := ps_Row_init) 5 3 (by simp [dfl_Row_init]) rfl (fun T kV doc pm an cdv ct us its hu hi => match us, its, hu, hi with | [_, _, _, _, _], [_, _, _], _, _ => ⟨_, rfl, rfl⟩)
  cases hv
  exact hb
theorem sd_law_made (T : Tx K mg w) : SnS K (t_law_made K) m_law_made := by
  unfold t_law_made m_law_made
  exact (sn_ret (sn_make T.ck_Tool (sn_cons (sn_ix (sn_var) (sn_int)) (sn_cons (sn_lc (sn_iSeq (sn_ix (sn_var) (sn_int))) sn_cName sn_yes (sn_make T.ck_Row (sn_cons (sn_ix (sn_var) (sn_int)) (sn_cons (sn_ix (sn_var) (sn_int)) (sn_cons (sn_ix (sn_var) (sn_int)) (sn_cons (sn_ix (sn_var) (sn_int)) sn_nil)))) dfl_nil)) sn_nil)) dfl_nil))
theorem ok_law_made (T : Tx K mg w) : FnOk P w K mg base CX0 7 (He.ga K "_law_made") T.fd_law_made ps_law_made (sp_law_made K) := by
  refine T.F_law_made.ok sc_law_made (fun vs H Q E h => ln_body h) (fun cdv A outer s H vs Q E hr h => ⟨t_law_made K, PSs.nox ?_, fn_rd (N := nm_law_made) (fn_body (sd_law_made T)) h⟩)
  exact (pss_one (ps_ret (pe_make T.mk_Tool (ok_Tool_init T) (hr.mono (by decide)) (by rfl) T.g_Tool (b_Tool_init T) .nil pass0 (pa_cons (pe_ix ix_seq (pv 0) (pe_int) (fun _ _ => rfl)) (pa_cons (pe_lc (own := [("_law_row", 1)]) rfl sc_law_made.nd (pi_seq (pe_ix ix_seq (pv 0) (pe_int) (fun _ _ => rfl))) (blkOk_by (own := [("_law_row", 1)]) (N := nm_law_made) (sc := defScope st_law_made) (by decide +kernel)) (fun _ _ _ _ _ => (pg_n 1 sc_law_made.nd)) (fun _ _ _ _ _ => pts_nil) (fun _ _ _ _ _ => (pe_make T.mk_Row (ok_Row_init T) (hr.mono (by decide)) (by rfl) T.g_Row (b_Row_init T) .nil pass0 (pa_cons (pe_ix ix_seq (pv 1) (pe_int) (fun _ _ => rfl)) (pa_cons (pe_ix ix_seq (pv 1) (pe_int) (fun _ _ => rfl)) (pa_cons (pe_ix ix_seq (pv 1) (pe_int) (fun _ _ => rfl)) (pa_cons (pe_ix ix_seq (pv 1) (pe_int) (fun _ _ => rfl)) pa_nil))))))) pa_nil)))))
theorem b_law_made (T : Tx K mg w) : Binds K T.fd_law_made ps_law_made [] := T.F_law_made.bindsN fun _ _ _ _ _ _ us hl => match us, hl with | [_], _ => rfl
theorem sd_law (T : Tx K mg w) : SnS K (t_law K) m_law := by
  unfold t_law m_law
  exact (sn_seq (sn_asg (sn_call (sn_cons (sn_var) (sn_cons (sn_int) sn_nil)) dfl_nil) sn_gName)
      (sn_seq (sn_for (sn_iRng1 (sn_cons (sn_int) sn_nil)) sn_gName (sn_seq (sn_par (sn_cons (sn_call (sn_cons (sn_var) (sn_cons (sn_int) sn_nil)) dfl_nil) (sn_cons (sn_call (sn_cons (sn_var) (sn_cons (sn_int) sn_nil)) dfl_nil) sn_nil)))
      (sn_seq (sn_asg (sn_tup (sn_cons (sn_ix (sn_var) (sn_int)) (sn_cons (sn_sl (sn_op ov_plus (sn_op ov_plus (sn_ix (sn_var) (sn_int)) (sn_call (sn_cons (sn_var) (sn_cons (sn_ix (sn_var) (sn_int)) sn_nil)) dfl_nil)) (sn_ix (sn_var) (sn_int))) sn_noPart (sn_part (sn_int))) sn_nil))) sn_gName)
      (sn_seq (sn_par (sn_cons (sn_call (sn_cons (sn_var) sn_nil) dfl_nil) (sn_cons (sn_call (sn_cons (sn_var) sn_nil) dfl_nil) sn_nil)))
      (sn_for (sn_iRng1 (sn_cons (sn_int) sn_nil)) sn_gName (sn_seq (sn_par (sn_cons (sn_call (sn_cons (sn_var) (sn_cons (sn_int) sn_nil)) dfl_nil) (sn_cons (sn_sl (sn_call (sn_cons (sn_var) (sn_cons (sn_lst (sn_cons (sn_str) (sn_cons (sn_str) (sn_cons (sn_str) sn_nil)))) sn_nil)) dfl_nil) sn_noPart (sn_part (sn_call (sn_cons (sn_var) (sn_cons (sn_int) sn_nil)) dfl_nil))) sn_nil)))
      (sn_seq (sn_asg (sn_cb2 ov_max (sn_int) (sn_cb1 ou_int (sn_op ov_plus (sn_var) (sn_call (sn_cons (sn_var) (sn_cons (sn_lst (sn_cons (sn_int) (sn_cons (sn_int) (sn_cons (sn_int) (sn_cons (sn_int) (sn_cons (sn_int) (sn_cons (sn_int) (sn_cons (sn_op ov_minus (sn_int) (sn_int)) (sn_cons (sn_op ov_minus (sn_int) (sn_int)) (sn_cons (sn_op ov_minus (sn_int) (sn_int)) sn_nil)))))))))) sn_nil)) dfl_nil)))) sn_gName)
      (sn_seq (sn_asg (sn_call (sn_cons (sn_var) (sn_cons (sn_var) (sn_cons (sn_cb1 ou_tup (sn_cb1 ou_sort (sn_lc (sn_iSeq (sn_var)) sn_cName sn_yes (sn_cb1 ou_str (sn_var))))) (sn_cons (sn_var) sn_nil)))) dfl_nil) sn_gName)
      (sn_seq (sn_asg (sn_cb1 ou_lst (sn_var)) sn_gName)
      (sn_seq (sn_ifS (sn_or (sn_test (sn_reprNe (sn_meth (sn_var) (sn_cons (sn_var) (sn_cons (sn_var) (sn_cons (sn_var) sn_nil))) dfl_nil) (sn_var))) (sn_test (sn_op ov_ne (sn_var) (sn_var)))) (sn_ret (sn_bl)) sn_next)
      (sn_seq (sn_ifS (sn_test (sn_reprNe (sn_ix (sn_meth (sn_var) (sn_cons (sn_var) (sn_cons (sn_var) (sn_cons (sn_var) sn_nil))) dfl_nil) (sn_int)) (sn_ix (sn_call (sn_cons (sn_var) (sn_cons (sn_var) (sn_cons (sn_cb1 ou_tup (sn_var)) (sn_cons (sn_var) sn_nil)))) dfl_nil) (sn_int)))) (sn_ret (sn_bl)) sn_next)
      (sn_ifS (sn_test (sn_reprNe (sn_meth (sn_var) (sn_cons (sn_var) (sn_cons (sn_cb1 ou_tup (sn_var)) (sn_cons (sn_var) sn_nil))) dfl_nil) (sn_var))) (sn_ret (sn_bl)) sn_next))))))))))))
      (sn_ret (sn_bl))))
theorem ok_law (T : Tx K mg w) : FnG P w K mg base CX0 8 (He.ga K "law") T.fd_law ps_law (sp_law K) := by
  refine funG T.F_law sc_law (fun vs H Q E h => ln_body h) (fun cdv A outer s H vs Q E gA hr h => ⟨t_law K, PSs.nox ?_, fn_rd (N := nm_law) (fn_body (sd_law T)) h⟩)
  exact (pss_cons (ps_a 1 sc_law.nd (pe_call (ok_law_deal T) (hr.mono (by decide)) (by rfl) T.g_law_deal T.F_law_deal.kp (b_law_deal T) .nil pass0 (pa_cons (pv 0) (pa_cons (pe_int) pa_nil))))
      (pss_cons (ps_for PassesOwn.never rfl (pi_range1 (by rfl) T.f_range (pa_cons (pe_int) pa_nil)) (pg_n 2 sc_law.nd) (pss_cons (ps_par (by rfl) sc_law.nd rfl rfl (by decide) rfl rfl (pa_cons (pe_call (ok_law_tool T) (hr.mono (by decide)) (by rfl) T.g_law_tool T.F_law_tool.kp (b_law_tool T) .nil pass0 (pa_cons (pv 1) (pa_cons (pe_int) pa_nil))) (pa_cons (pe_call (ok_law_tool T) (hr.mono (by decide)) (by rfl) T.g_law_tool T.F_law_tool.kp (b_law_tool T) .nil pass0 (pa_cons (pv 1) (pa_cons (pe_int) pa_nil))) pa_nil)) (by rfl))
      (pss_cons (ps_a 3 sc_law.nd (pe_tup (pa_cons (pe_ix ix_seq (pv 3) (pe_int) (fun _ _ => rfl)) (pa_cons (pe_slice sl_any (pe_op op_plus (pe_op op_plus (pe_ix ix_seq (pv 3) (pe_int) (fun _ _ => rfl)) (pe_call (ok_law_mixed T) (hr.mono (by decide)) (by rfl) T.g_law_mixed T.F_law_mixed.kp (b_law_mixed T) .nil pass0 (pa_cons (pv 1) (pa_cons (pe_ix ix_seq (pv 4) (pe_int) (fun _ _ => rfl)) pa_nil)))) (pe_ix ix_seq (pv 3) (pe_int) (fun _ _ => rfl))) po_none (po_some (pe_int))) pa_nil))))
      (pss_cons (ps_par (by rfl) sc_law.nd rfl rfl (by decide) rfl rfl (pa_cons (pe_call (ok_law_made T) (hr.mono (by decide)) (by rfl) T.g_law_made T.F_law_made.kp (b_law_made T) .nil pass0 (pa_cons (pv 3) pa_nil)) (pa_cons (pe_call (ok_law_made T) (hr.mono (by decide)) (by rfl) T.g_law_made T.F_law_made.kp (b_law_made T) .nil pass0 (pa_cons (pv 4) pa_nil)) pa_nil)) (by rfl))
      (pss_one (ps_for PassesOwn.never rfl (pi_range1 (by rfl) T.f_range (pa_cons (pe_int) pa_nil)) (pg_n 7 sc_law.nd) (pss_cons (ps_par (by rfl) sc_law.nd rfl rfl (by decide) rfl rfl (pa_cons (pe_call (ok_law_draw T) (hr.mono (by decide)) (by rfl) T.g_law_draw T.F_law_draw.kp (b_law_draw T) .nil pass0 (pa_cons (pv 1) (pa_cons (pe_int) pa_nil))) (pa_cons (pe_slice sl_any (pe_call (ok_law_mixed T) (hr.mono (by decide)) (by rfl) T.g_law_mixed T.F_law_mixed.kp (b_law_mixed T) .nil pass0 (pa_cons (pv 1) (pa_cons (pe_lst (pa_cons (pe_str) (pa_cons (pe_str) (pa_cons (pe_str) pa_nil)))) pa_nil))) po_none (po_some (pe_call (ok_law_draw T) (hr.mono (by decide)) (by rfl) T.g_law_draw T.F_law_draw.kp (b_law_draw T) .nil pass0 (pa_cons (pv 1) (pa_cons (pe_int) pa_nil))))) pa_nil)) (by rfl))
      (pss_cons (ps_a 10 sc_law.nd (pe_callB (call_max2' rfl) (by rfl) T.f_max (by decide +kernel) (pa_cons (pe_int) (pa_cons (pe_callTy (call_int1') (by rfl) T.f_int (by decide +kernel) (pa_cons (pe_op op_plus (pv 8) (pe_call (ok_law_pick T) (hr.mono (by decide)) (by rfl) T.g_law_pick T.F_law_pick.kp (b_law_pick T) .nil pass0 (pa_cons (pv 1) (pa_cons (pe_lst (pa_cons (pe_int) (pa_cons (pe_int) (pa_cons (pe_int) (pa_cons (pe_int) (pa_cons (pe_int) (pa_cons (pe_int) (pa_cons (pe_op op_minus (pe_int) (pe_int)) (pa_cons (pe_op op_minus (pe_int) (pe_int)) (pa_cons (pe_op op_minus (pe_int) (pe_int)) pa_nil)))))))))) pa_nil)))) pa_nil)) pa_nil))))
      (pss_cons (ps_a 12 sc_law.nd (pe_call (ok_law_answer T) (hr.mono (by decide)) (by rfl) T.g_law_answer T.F_law_answer.kp (b_law_answer T) .nil pass0 (pa_cons (pv 3) (pa_cons (pv 8) (pa_cons (pe_callTy (call_tupOf) (by rfl) T.f_tuple (by decide +kernel) (pa_cons (pe_callB (cr_sortedS) (by rfl) T.f_sorted (by decide +kernel) (pa_cons (pe_lc (own := [("_law_mark", 11)]) rfl sc_law.nd (pi_seq (pv 9)) (blkOk_by (own := [("_law_mark", 11)]) (N := nm_law) (sc := defScope st_law) (by decide +kernel)) (fun _ _ _ _ _ => (pg_n 11 sc_law.nd)) (fun _ _ _ _ _ => pts_nil) (fun _ _ _ _ _ => (pe_callTy (call_strS) (by rfl) T.f_str (by decide +kernel) (pa_cons (pv 11) pa_nil)))) pa_nil)) pa_nil)) (pa_cons (pv 10) pa_nil))))))
      (pss_cons (ps_a 13 sc_law.nd (pe_callTy (call_lstOf) (by rfl) T.f_list (by decide +kernel) (pa_cons (pv 9) pa_nil)))
      (pss_cons (ps_if (PW.pt (pw_or (pt_cmpR (op_nee hr.units) (pe_callB (call_reprD gA hr.units) (by rfl) T.f_repr (by decide +kernel) (pa_cons (pe_meth (pv 5) T.cl_Tool T.m_Tool_answer (ok_Tool_answer T) (hr.mono (by decide)) (b_Tool_answer T) .nil pass0 (pa_cons (pv 8) (pa_cons (pv 13) (pa_cons (pv 10) pa_nil)))) pa_nil)) (pe_callB (call_reprD gA hr.units) (by rfl) T.f_repr (by decide +kernel) (pa_cons (pv 12) pa_nil)) (nomark _)) (pw_or1 (pt_cmpR (op_nee hr.units) (pv 13) (pv 9) (nomark _))))) (pss_one (ps_ret (pe_bl))) pss_nil)
      (pss_cons (ps_if (pt_cmpR (op_nee hr.units) (pe_callB (call_reprD gA hr.units) (by rfl) T.f_repr (by decide +kernel) (pa_cons (pe_ix ix_seq (pe_meth (pv 6) T.cl_Tool T.m_Tool_answer (ok_Tool_answer T) (hr.mono (by decide)) (b_Tool_answer T) .nil pass0 (pa_cons (pv 8) (pa_cons (pv 9) (pa_cons (pv 10) pa_nil)))) (pe_int) (fun _ _ => rfl)) pa_nil)) (pe_callB (call_reprD gA hr.units) (by rfl) T.f_repr (by decide +kernel) (pa_cons (pe_ix ix_seq (pe_call (ok_law_answer T) (hr.mono (by decide)) (by rfl) T.g_law_answer T.F_law_answer.kp (b_law_answer T) .nil pass0 (pa_cons (pv 4) (pa_cons (pv 8) (pa_cons (pe_callTy (call_tupOf) (by rfl) T.f_tuple (by decide +kernel) (pa_cons (pv 9) pa_nil)) (pa_cons (pv 10) pa_nil))))) (pe_int) (fun _ _ => rfl)) pa_nil)) (nomark _)) (pss_one (ps_ret (pe_bl))) pss_nil)
      (pss_one (ps_if (pt_cmpR (op_nee hr.units) (pe_callB (call_reprD gA hr.units) (by rfl) T.f_repr (by decide +kernel) (pa_cons (pe_meth (pv 5) T.cl_Tool T.m_Tool_answer (ok_Tool_answer T) (hr.mono (by decide)) (b_Tool_answer T) .nil pass0 (pa_cons (pv 8) (pa_cons (pe_callTy (call_tupOf) (by rfl) T.f_tuple (by decide +kernel) (pa_cons (pv 9) pa_nil)) (pa_cons (pv 10) pa_nil)))) pa_nil)) (pe_callB (call_reprD gA hr.units) (by rfl) T.f_repr (by decide +kernel) (pa_cons (pv 12) pa_nil)) (nomark _)) (pss_one (ps_ret (pe_bl))) pss_nil))))))))))))))
      (pss_one (ps_ret (pe_bl)))))
theorem b_law (T : Tx K mg w) : Binds K T.fd_law ps_law [] := T.F_law.bindsN fun _ _ _ _ _ _ us hl => match us, hl with | [_], _ => rfl
end
end DX.K09

namespace DX.K09
open PySem PySem.Spec PyProof.Rows L2 DK
/-! ### the head -/
def dq_is_integer : DefY := ⟨fun K => He.ga K "is_integer", ⟨("is_integer", none), "is_integer", "is_integer", defArgs st_is_integer, defBody st_is_integer, defScope st_is_integer, [], []⟩⟩
def dq_is_sequence : DefY := ⟨fun K => He.ga K "is_sequence", ⟨("is_sequence", none), "is_sequence", "is_sequence", defArgs st_is_sequence, defBody st_is_sequence, defScope st_is_sequence, [], []⟩⟩
def dq_is_name : DefY := ⟨fun K => He.ga K "is_name", ⟨("is_name", none), "is_name", "is_name", defArgs st_is_name, defBody st_is_name, defScope st_is_name, [], []⟩⟩
def dq_is_test : DefY := ⟨fun K => He.ga K "is_test", ⟨("is_test", none), "is_test", "is_test", defArgs st_is_test, defBody st_is_test, defScope st_is_test, [], []⟩⟩
def dq_is_deed : DefY := ⟨fun K => He.ga K "is_deed", ⟨("is_deed", none), "is_deed", "is_deed", defArgs st_is_deed, defBody st_is_deed, defScope st_is_deed, [], []⟩⟩
def dq_are_tests : DefY := ⟨fun K => He.ga K "are_tests", ⟨("are_tests", none), "are_tests", "are_tests", defArgs st_are_tests, defBody st_are_tests, defScope st_are_tests, [], []⟩⟩
def dq_are_deeds : DefY := ⟨fun K => He.ga K "are_deeds", ⟨("are_deeds", none), "are_deeds", "are_deeds", defArgs st_are_deeds, defBody st_are_deeds, defScope st_are_deeds, [], []⟩⟩
def dq_wrong_in : DefY := ⟨fun K => He.ga K "wrong_in", ⟨("wrong_in", none), "wrong_in", "wrong_in", defArgs st_wrong_in, defBody st_wrong_in, defScope st_wrong_in, [], []⟩⟩
def dq_Row_init : DefY := ⟨fun K => He.ma K (He.ga K "Row") "__init__", ⟨("Row", some "__init__"), "__init__", "Row.__init__", defArgs st_Row_init, defBody st_Row_init, defScope st_Row_init, dfl_Row_init, []⟩⟩
def dq_Row_fits : DefY := ⟨fun K => He.ma K (He.ga K "Row") "fits", ⟨("Row", some "fits"), "fits", "Row.fits", defArgs st_Row_fits, defBody st_Row_fits, defScope st_Row_fits, [], []⟩⟩
def dq_Row_marks_behind : DefY := ⟨fun K => He.ma K (He.ga K "Row") "marks_behind", ⟨("Row", some "marks_behind"), "marks_behind", "Row.marks_behind", defArgs st_Row_marks_behind, defBody st_Row_marks_behind, defScope st_Row_marks_behind, [], []⟩⟩
def dq_names_in : DefY := ⟨fun K => He.ga K "names_in", ⟨("names_in", none), "names_in", "names_in", defArgs st_names_in, defBody st_names_in, defScope st_names_in, [], []⟩⟩
def dq_Tool_init : DefY := ⟨fun K => He.ma K (He.ga K "Tool") "__init__", ⟨("Tool", some "__init__"), "__init__", "Tool.__init__", defArgs st_Tool_init, defBody st_Tool_init, defScope st_Tool_init, dfl_Tool_init, []⟩⟩
def dq_Tool_word_of : DefY := ⟨fun K => He.ma K (He.ga K "Tool") "word_of", ⟨("Tool", some "word_of"), "word_of", "Tool.word_of", defArgs st_Tool_word_of, defBody st_Tool_word_of, defScope st_Tool_word_of, [], []⟩⟩
def dq_Tool_row_for : DefY := ⟨fun K => He.ma K (He.ga K "Tool") "row_for", ⟨("Tool", some "row_for"), "row_for", "Tool.row_for", defArgs st_Tool_row_for, defBody st_Tool_row_for, defScope st_Tool_row_for, [], []⟩⟩
def dq_Tool_answer : DefY := ⟨fun K => He.ma K (He.ga K "Tool") "answer", ⟨("Tool", some "answer"), "answer", "Tool.answer", defArgs st_Tool_answer, defBody st_Tool_answer, defScope st_Tool_answer, [], []⟩⟩
def dq_law_deal : DefY := ⟨fun K => He.ga K "_law_deal", ⟨("_law_deal", none), "_law_deal", "_law_deal", defArgs st_law_deal, defBody st_law_deal, defScope st_law_deal, [], []⟩⟩
def dq_law_draw : DefY := ⟨fun K => He.ga K "_law_draw", ⟨("_law_draw", none), "_law_draw", "_law_draw", defArgs st_law_draw, defBody st_law_draw, defScope st_law_draw, [], []⟩⟩
def dq_law_bent : DefY := ⟨fun K => He.ga K "_law_bent", ⟨("_law_bent", none), "_law_bent", "_law_bent", defArgs st_law_bent, defBody st_law_bent, defScope st_law_bent, [], []⟩⟩
def dq_law_deeds : DefY := ⟨fun K => He.ga K "_law_deeds", ⟨("_law_deeds", none), "_law_deeds", "_law_deeds", defArgs st_law_deeds, defBody st_law_deeds, defScope st_law_deeds, [], []⟩⟩
def dq_law_word : DefY := ⟨fun K => He.ga K "_law_word", ⟨("_law_word", none), "_law_word", "_law_word", defArgs st_law_word, defBody st_law_word, defScope st_law_word, [], []⟩⟩
def dq_law_row_done : DefY := ⟨fun K => He.ga K "_law_row_done", ⟨("_law_row_done", none), "_law_row_done", "_law_row_done", defArgs st_law_row_done, defBody st_law_row_done, defScope st_law_row_done, [], []⟩⟩
def dq_law_answer : DefY := ⟨fun K => He.ga K "_law_answer", ⟨("_law_answer", none), "_law_answer", "_law_answer", defArgs st_law_answer, defBody st_law_answer, defScope st_law_answer, [], []⟩⟩
def dq_law_tool : DefY := ⟨fun K => He.ga K "_law_tool", ⟨("_law_tool", none), "_law_tool", "_law_tool", defArgs st_law_tool, defBody st_law_tool, defScope st_law_tool, [], []⟩⟩
def dq_law_pick : DefY := ⟨fun K => He.ga K "_law_pick", ⟨("_law_pick", none), "_law_pick", "_law_pick", defArgs st_law_pick, defBody st_law_pick, defScope st_law_pick, [], []⟩⟩
def dq_law_mixed : DefY := ⟨fun K => He.ga K "_law_mixed", ⟨("_law_mixed", none), "_law_mixed", "_law_mixed", defArgs st_law_mixed, defBody st_law_mixed, defScope st_law_mixed, [], []⟩⟩
def dq_law_made : DefY := ⟨fun K => He.ga K "_law_made", ⟨("_law_made", none), "_law_made", "_law_made", defArgs st_law_made, defBody st_law_made, defScope st_law_made, [], []⟩⟩
def dq_law : DefY := ⟨fun K => He.ga K "law", ⟨("law", none), "law", "law", defArgs st_law, defBody st_law, defScope st_law, [], []⟩⟩
def fn : List DefY := [dq_is_integer, dq_is_sequence, dq_is_name, dq_is_test, dq_is_deed, dq_are_tests, dq_are_deeds, dq_wrong_in, dq_Row_init, dq_Row_fits, dq_Row_marks_behind, dq_names_in, dq_Tool_init, dq_Tool_word_of, dq_Tool_row_for, dq_Tool_answer, dq_law_deal, dq_law_draw, dq_law_bent, dq_law_deeds, dq_law_word, dq_law_row_done, dq_law_answer, dq_law_tool, dq_law_pick, dq_law_mixed, dq_law_made, dq_law]
def fa : List He.Fa := ([.free "abs", .free "all", .free "bool", .free "enumerate", .free "int", .free "isinstance", .free "len", .free "list", .free "max", .free "range", .free "repr", .free "sorted", .free "str", .free "tuple", .glo "BARRED", .glo "LEARNING", .str "LETTERS" "abcdefghijklmnopqrstuvwxyz", .glo "Row", .glo "Tool", .glo "WORDS", .glo "is_integer", .glo "is_sequence", .glo "is_name", .glo "is_test", .glo "is_deed", .glo "are_tests", .glo "are_deeds", .glo "wrong_in", .mkr "Row", .meth "Row" "fits"] : List He.Fa) ++ ([.meth "Row" "marks_behind", .glo "names_in", .mkr "Tool", .meth "Tool" "word_of", .meth "Tool" "row_for", .meth "Tool" "answer", .glo "_law_deal", .glo "_law_draw", .glo "_law_bent", .glo "_law_deeds", .glo "_law_word", .glo "_law_row_done", .glo "_law_answer", .glo "_law_tool", .glo "_law_pick", .glo "_law_mixed", .glo "_law_made", .glo "law", .cls "Row", .cls "Tool"] : List He.Fa)
abbrev R : PySem.W.OpenRow := PySem.W.OpenLaw.row PySem.Challenge.rw_deskcards_k09_tools_answer
def xl0 (K : PySem.W.Frag) : List Bool := [strsB K "BARRED" cc_BARRED, strsB K "LEARNING" cc_LEARNING, strsB K "WORDS" cc_WORDS, clsB K "Row", clsB K "Tool", noB K "Row" ["deeds"], noB K "Row" ["opens"], noB K "Row" ["tests"], noB K "Row" ["word"], noB K "Tool" ["marks"], noB K "Tool" ["rows"], noB K "Tool" ["window"], isB K "Row"]
def xb (K : PySem.W.Frag) : Bool := (xl0 K).all id
theorem xb_all {K : PySem.W.Frag} (h : xb K = true) : (xl0 K).all id = true := by
  unfold xb at h
  exact h
theorem xb_at {l : List Bool} (h : l.all id = true) (i : Nat) (b : Bool) (e : l[i]? = some b) : b = true := List.all_eq_true.mp h b (List.mem_of_getElem? e)
def sy : SpecY := ⟨fa, fn, [], xb⟩
abbrev hk : PySem.W.Hook := hookY 6 sy
def ob (s : PySem.W.SharedT) : AlY := obsY 6 sy (HandSHeadRun.getT s)
theorem ob_eq (s : PySem.W.SharedT) : ob s = hk.obs s.abs := obsY_eq (HandSHeadRun.getT_eq s)
def names0 : List PySem.Str := ["_wall", "__name__", "CardError", "InvalidRow", "InvalidTool", "InvalidText", "NoRow", "WORDS", "BARRED", "LETTERS", "DIGITS", "is_integer", "is_sequence", "is_name", "number_in", "LEARNING", "ANSWERS", "is_test", "is_deed", "are_tests"]
def names1 : List PySem.Str := ["are_deeds", "wrong_in", "parts_between", "Row", "names_in", "row_in", "Tool", "_law_deal", "_law_draw", "_law_bent", "_law_deeds", "_law_word", "_law_row_done", "_law_answer", "_law_tool", "_law_pick", "_law_mixed", "_law_made"]
def names : List PySem.Str := names0 ++ names1
theorem run_false (w : World) : HandSHeadRun.RunEq R (PySem.W.view R.prog [42]) hk ob 20000 names (w.withFollow "special-get-raises" false) := by
  intro os
  kernel_rfl
theorem run_true (w : World) : HandSHeadRun.RunEq R (PySem.W.view R.prog [42]) hk ob 20000 names (w.withFollow "special-get-raises" true) := by
  intro os
  kernel_rfl
theorem run (w : World) : HandSHeadRun.RunEq R (PySem.W.view R.prog [42]) hk ob 20000 names w := PySem.W.byRow2 "special-get-raises" run_false run_true w
theorem facts {P : Program} {w : World} {K : PySem.W.Frag} {h : Heap} {mg : Str → Option Value} {f : Addr} (X : K.In h) (G : h.Ns mainGlobals mg) (hfa : mg ("law" : Str) = some (.ref f)) (c : SaysY sy w K) :
    ∃ fd : FuncData, (∀ (s : Shared) (v : Value), BindsTo s fd ⟨[v], []⟩ [("_law_script", v)]) ∧ ∀ base : Heap, K.In base → base.Ns mainGlobals mg → FnG P w K mg base CX0 8 f fd ["_law_script"] (sp_law K) := by
  obtain ⟨fd_is_integer, F_is_integer⟩ := c.def_ 0 (y := dq_is_integer) rfl
  obtain ⟨fd_is_sequence, F_is_sequence⟩ := c.def_ 1 (y := dq_is_sequence) rfl
  obtain ⟨fd_is_name, F_is_name⟩ := c.def_ 2 (y := dq_is_name) rfl
  obtain ⟨fd_is_test, F_is_test⟩ := c.def_ 3 (y := dq_is_test) rfl
  obtain ⟨fd_is_deed, F_is_deed⟩ := c.def_ 4 (y := dq_is_deed) rfl
  obtain ⟨fd_are_tests, F_are_tests⟩ := c.def_ 5 (y := dq_are_tests) rfl
  obtain ⟨fd_are_deeds, F_are_deeds⟩ := c.def_ 6 (y := dq_are_deeds) rfl
  obtain ⟨fd_wrong_in, F_wrong_in⟩ := c.def_ 7 (y := dq_wrong_in) rfl
  obtain ⟨fd_Row_init, F_Row_init⟩ := c.def_ 8 (y := dq_Row_init) rfl
  obtain ⟨fd_Row_fits, F_Row_fits⟩ := c.def_ 9 (y := dq_Row_fits) rfl
  obtain ⟨fd_Row_marks_behind, F_Row_marks_behind⟩ := c.def_ 10 (y := dq_Row_marks_behind) rfl
  obtain ⟨fd_names_in, F_names_in⟩ := c.def_ 11 (y := dq_names_in) rfl
  obtain ⟨fd_Tool_init, F_Tool_init⟩ := c.def_ 12 (y := dq_Tool_init) rfl
  obtain ⟨fd_Tool_word_of, F_Tool_word_of⟩ := c.def_ 13 (y := dq_Tool_word_of) rfl
  obtain ⟨fd_Tool_row_for, F_Tool_row_for⟩ := c.def_ 14 (y := dq_Tool_row_for) rfl
  obtain ⟨fd_Tool_answer, F_Tool_answer⟩ := c.def_ 15 (y := dq_Tool_answer) rfl
  obtain ⟨fd_law_deal, F_law_deal⟩ := c.def_ 16 (y := dq_law_deal) rfl
  obtain ⟨fd_law_draw, F_law_draw⟩ := c.def_ 17 (y := dq_law_draw) rfl
  obtain ⟨fd_law_bent, F_law_bent⟩ := c.def_ 18 (y := dq_law_bent) rfl
  obtain ⟨fd_law_deeds, F_law_deeds⟩ := c.def_ 19 (y := dq_law_deeds) rfl
  obtain ⟨fd_law_word, F_law_word⟩ := c.def_ 20 (y := dq_law_word) rfl
  obtain ⟨fd_law_row_done, F_law_row_done⟩ := c.def_ 21 (y := dq_law_row_done) rfl
  obtain ⟨fd_law_answer, F_law_answer⟩ := c.def_ 22 (y := dq_law_answer) rfl
  obtain ⟨fd_law_tool, F_law_tool⟩ := c.def_ 23 (y := dq_law_tool) rfl
  obtain ⟨fd_law_pick, F_law_pick⟩ := c.def_ 24 (y := dq_law_pick) rfl
  obtain ⟨fd_law_mixed, F_law_mixed⟩ := c.def_ 25 (y := dq_law_mixed) rfl
  obtain ⟨fd_law_made, F_law_made⟩ := c.def_ 26 (y := dq_law_made) rfl
  obtain ⟨fd_law, F_law⟩ := c.def_ 27 (y := dq_law) rfl
  have y0 := xb_all c.x
  let T : Tx K mg w := {
    f_abs := He.free_ok X G (c.fact 0 (f := .free "abs") rfl)
    f_all := He.free_ok X G (c.fact 1 (f := .free "all") rfl)
    f_bool := He.free_ok X G (c.fact 2 (f := .free "bool") rfl)
    f_enumerate := He.free_ok X G (c.fact 3 (f := .free "enumerate") rfl)
    f_int := He.free_ok X G (c.fact 4 (f := .free "int") rfl)
    f_isinstance := He.free_ok X G (c.fact 5 (f := .free "isinstance") rfl)
    f_len := He.free_ok X G (c.fact 6 (f := .free "len") rfl)
    f_list := He.free_ok X G (c.fact 7 (f := .free "list") rfl)
    f_max := He.free_ok X G (c.fact 8 (f := .free "max") rfl)
    f_range := He.free_ok X G (c.fact 9 (f := .free "range") rfl)
    f_repr := He.free_ok X G (c.fact 10 (f := .free "repr") rfl)
    f_sorted := He.free_ok X G (c.fact 11 (f := .free "sorted") rfl)
    f_str := He.free_ok X G (c.fact 12 (f := .free "str") rfl)
    f_tuple := He.free_ok X G (c.fact 13 (f := .free "tuple") rfl)
    g_BARRED := He.glo_ok X G (c.fact 14 (f := .glo "BARRED") rfl)
    g_LEARNING := He.glo_ok X G (c.fact 15 (f := .glo "LEARNING") rfl)
    c_LETTERS := He.str_ok X G (c.fact 16 (f := .str "LETTERS" "abcdefghijklmnopqrstuvwxyz") rfl)
    g_Row := He.glo_ok X G (c.fact 17 (f := .glo "Row") rfl)
    g_Tool := He.glo_ok X G (c.fact 18 (f := .glo "Tool") rfl)
    g_WORDS := He.glo_ok X G (c.fact 19 (f := .glo "WORDS") rfl)
    g_is_integer := He.glo_ok X G (c.fact 20 (f := .glo "is_integer") rfl)
    g_is_sequence := He.glo_ok X G (c.fact 21 (f := .glo "is_sequence") rfl)
    g_is_name := He.glo_ok X G (c.fact 22 (f := .glo "is_name") rfl)
    g_is_test := He.glo_ok X G (c.fact 23 (f := .glo "is_test") rfl)
    g_is_deed := He.glo_ok X G (c.fact 24 (f := .glo "is_deed") rfl)
    g_are_tests := He.glo_ok X G (c.fact 25 (f := .glo "are_tests") rfl)
    g_are_deeds := He.glo_ok X G (c.fact 26 (f := .glo "are_deeds") rfl)
    g_wrong_in := He.glo_ok X G (c.fact 27 (f := .glo "wrong_in") rfl)
    mk_Row := He.mkr_ok (c.fact 28 (f := .mkr "Row") rfl)
    m_Row_fits := He.meth_ok (c.fact 29 (f := .meth "Row" "fits") rfl)
    m_Row_marks_behind := He.meth_ok (c.fact 30 (f := .meth "Row" "marks_behind") rfl)
    g_names_in := He.glo_ok X G (c.fact 31 (f := .glo "names_in") rfl)
    mk_Tool := He.mkr_ok (c.fact 32 (f := .mkr "Tool") rfl)
    m_Tool_word_of := He.meth_ok (c.fact 33 (f := .meth "Tool" "word_of") rfl)
    m_Tool_row_for := He.meth_ok (c.fact 34 (f := .meth "Tool" "row_for") rfl)
    m_Tool_answer := He.meth_ok (c.fact 35 (f := .meth "Tool" "answer") rfl)
    g_law_deal := He.glo_ok X G (c.fact 36 (f := .glo "_law_deal") rfl)
    g_law_draw := He.glo_ok X G (c.fact 37 (f := .glo "_law_draw") rfl)
    g_law_bent := He.glo_ok X G (c.fact 38 (f := .glo "_law_bent") rfl)
    g_law_deeds := He.glo_ok X G (c.fact 39 (f := .glo "_law_deeds") rfl)
    g_law_word := He.glo_ok X G (c.fact 40 (f := .glo "_law_word") rfl)
    g_law_row_done := He.glo_ok X G (c.fact 41 (f := .glo "_law_row_done") rfl)
    g_law_answer := He.glo_ok X G (c.fact 42 (f := .glo "_law_answer") rfl)
    g_law_tool := He.glo_ok X G (c.fact 43 (f := .glo "_law_tool") rfl)
    g_law_pick := He.glo_ok X G (c.fact 44 (f := .glo "_law_pick") rfl)
    g_law_mixed := He.glo_ok X G (c.fact 45 (f := .glo "_law_mixed") rfl)
    g_law_made := He.glo_ok X G (c.fact 46 (f := .glo "_law_made") rfl)
    g_law := He.glo_ok X G (c.fact 47 (f := .glo "law") rfl)
    cl_Row := He.cls_ok (c.fact 48 (f := .cls "Row") rfl)
    cl_Tool := He.cls_ok (c.fact 49 (f := .cls "Tool") rfl)
    k_BARRED := strsB_ok (xb_at y0 0 _ rfl)
    k_LEARNING := strsB_ok (xb_at y0 1 _ rfl)
    k_WORDS := strsB_ok (xb_at y0 2 _ rfl)
    ck_Row := clsB_ok (xb_at y0 3 _ rfl)
    ck_Tool := clsB_ok (xb_at y0 4 _ rfl)
    na_Row_deeds := na1 (xb_at y0 5 _ rfl)
    na_Row_opens := na1 (xb_at y0 6 _ rfl)
    na_Row_tests := na1 (xb_at y0 7 _ rfl)
    na_Row_word := na1 (xb_at y0 8 _ rfl)
    na_Tool_marks := na1 (xb_at y0 9 _ rfl)
    na_Tool_rows := na1 (xb_at y0 10 _ rfl)
    na_Tool_window := na1 (xb_at y0 11 _ rfl)
    is_Row := isB_ok (xb_at y0 12 _ rfl)
    fd_is_integer := fd_is_integer
    F_is_integer := F_is_integer
    fd_is_sequence := fd_is_sequence
    F_is_sequence := F_is_sequence
    fd_is_name := fd_is_name
    F_is_name := F_is_name
    fd_is_test := fd_is_test
    F_is_test := F_is_test
    fd_is_deed := fd_is_deed
    F_is_deed := F_is_deed
    fd_are_tests := fd_are_tests
    F_are_tests := F_are_tests
    fd_are_deeds := fd_are_deeds
    F_are_deeds := F_are_deeds
    fd_wrong_in := fd_wrong_in
    F_wrong_in := F_wrong_in
    fd_Row_init := fd_Row_init
    F_Row_init := F_Row_init
    fd_Row_fits := fd_Row_fits
    F_Row_fits := F_Row_fits
    fd_Row_marks_behind := fd_Row_marks_behind
    F_Row_marks_behind := F_Row_marks_behind
    fd_names_in := fd_names_in
    F_names_in := F_names_in
    fd_Tool_init := fd_Tool_init
    F_Tool_init := F_Tool_init
    fd_Tool_word_of := fd_Tool_word_of
    F_Tool_word_of := F_Tool_word_of
    fd_Tool_row_for := fd_Tool_row_for
    F_Tool_row_for := F_Tool_row_for
    fd_Tool_answer := fd_Tool_answer
    F_Tool_answer := F_Tool_answer
    fd_law_deal := fd_law_deal
    F_law_deal := F_law_deal
    fd_law_draw := fd_law_draw
    F_law_draw := F_law_draw
    fd_law_bent := fd_law_bent
    F_law_bent := F_law_bent
    fd_law_deeds := fd_law_deeds
    F_law_deeds := F_law_deeds
    fd_law_word := fd_law_word
    F_law_word := F_law_word
    fd_law_row_done := fd_law_row_done
    F_law_row_done := F_law_row_done
    fd_law_answer := fd_law_answer
    F_law_answer := F_law_answer
    fd_law_tool := fd_law_tool
    F_law_tool := F_law_tool
    fd_law_pick := fd_law_pick
    F_law_pick := F_law_pick
    fd_law_mixed := fd_law_mixed
    F_law_mixed := F_law_mixed
    fd_law_made := fd_law_made
    F_law_made := F_law_made
    fd_law := fd_law
    F_law := F_law
    }
  have e := hfa.symm.trans (He.glo_ok X G (c.fact 47 (f := .glo "law") rfl))
  cases e
  have b := FunD.bindsA (ps := ["_law_script"]) F_law fun _ _ _ _ _ _ us hl => match us, hl with | [_], _ => rfl
  exact ⟨fd_law, fun s v => b s [v] rfl, fun base _ _ => ok_law T⟩
end DX.K09
open PySem PySem.W PySem.Calls PyProof.Rows
theorem PySem.Challenge.cw_deskcards_k09_tools_answer_holds : PySem.Challenge.rw_deskcards_k09_tools_answer.Holds := by
  w_on; o_law
  refine HandSHeadRun.head_any (r := OpenLaw.row PySem.Challenge.rw_deskcards_k09_tools_answer) (q := view (OpenLaw.row PySem.Challenge.rw_deskcards_k09_tools_answer).prog [42]) (H := DX.K09.hk) (ob := DX.K09.ob) (M := 20000) (loose := DX.K09.names) (d := HandSHeadRun.topDef (OpenLaw.row PySem.Challenge.rw_deskcards_k09_tools_answer).prog 42) (kwd := []) DX.K09.ob_eq
    (by kernel_rfl) (fun s => by kernel_rfl) DX.K09.run (by kernel_rfl) (by kernel_rfl) (by kernel_rfl) (by rfl) (by first | assumption | decide +kernel) (by decide +kernel) ⟨rfl, rfl, rfl, rfl, rfl, by decide +kernel⟩ ?hw ?hc
  case hw => w_witness2
  case hc =>
    refine DK.walk_G (l := PySem.Challenge.rw_deskcards_k09_tools_answer) (n := 63) (k := 8) (xn := "_law_script") (CX := L2.CX0) rfl (by decide) (by kernel_rfl) ⟨rfl, by decide, by decide⟩ ?F (fun _ _ _ _ z => z)
    intro w mg fa h Y G hmg0
    obtain ⟨K, KX, c⟩ := Y
    have hmg : mg ("law" : PySem.Str) = some (.ref fa) := by
      have e : (HandSHeadRun.topDef (OpenLaw.row PySem.Challenge.rw_deskcards_k09_tools_answer).prog 42).name = ("law" : PySem.Str) := by kernel_rfl
      rw [← e]
      exact hmg0
    obtain ⟨fd, hb, hF⟩ := DX.K09.facts (P := (PySem.Challenge.rw_deskcards_k09_tools_answer).prog) (w := w) KX G hmg c
    exact ⟨K, fd, DX.K09.sp_law K, KX, hb, fun H a ns hl hS => DX.law_spF (DX.K09.law_ok ns hl) hS, hF⟩


